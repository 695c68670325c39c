import PyProof.Rows.All
import HandS.ForMost
import HandS.Exc
import HandS.ExcOwn
import HandS.CallSlots
import HandS.TryMany
import HandS.HotCalls
import HandS.Flow
import HandS.Wide
import HandS.Gcd
import HandS.IsInst
import HandS.WideBits
import HandS.TupAny
import HandS.ExcCtx
import HandS.More
import KE.KAssignIn
import HandS.Iter
import HandS.Comp
import HandS.Defaults
import HandS.ExcInit
import HandS.NestedK
import KE.KSuper
import KE.KExcSuper
import HandS.ExcField
import HandS.ExcIs
import HandS.ExcInitHot
import KE.GoesEnum
import KE.GoesMore
import HandS.Zip
import PyProof.IsiTuple
import KE.KIsAll
import HandS.HeadHook4
import HandS.HeadEnd
import HandS.Style
import HandS.Sort
import HandS.Head0
import HandS.Head1
import HandS.Head2
import HandS.Head3
import PySem.Challenge.RW_promisedflows_k04_deconvolution_residual
set_option Elab.async false
set_option linter.all false
set_option maxRecDepth 100000
set_option maxHeartbeats 1000000
/-! VL1: plain data, a store of mutable cells, how a HandS state holds them. -/
namespace VL
open PySem PySem.Spec PyProof.Rows L2

/-- plain data: what a frozen object tree tells -/
inductive D where
  | non | bl (b : Bool) | int (i : Int) | str (x : Str)
  | lst (xs : List D) | scr (xs : List D) | tup (xs : List D) | ins (C : Nat) (ns : List Nat) (xs : List D)

/-- classes and attribute names by numbers -/
structure Vc where
  K : PySem.W.Frag
  ρ : Nat → Addr
  nm : Nat → Str
  N : Nat
  inj : ∀ i j, i < N → j < N → nm i = nm j → i = j

variable {c : Vc}
mutual
def RF (c : Vc) (G : Hp) : D → V → Prop
  | .non, v => v = .non
  | .bl b, v => v = .bl b
  | .int i, v => v = .int i
  | .str x, v => v = .str x
  | .lst xs, v => ∃ a vs, v = .ref a ∧ G a = some (.lst vs) ∧ RFs c G xs vs
  | .scr xs, v => ∃ a vs, v = .ref a ∧ SqL c.K G a vs ∧ RFs c G xs vs
  | .tup xs, v => ∃ a vs, v = .ref a ∧ SqT c.K G a vs ∧ RFs c G xs vs
  | .ins C ns xs, v => ∃ a dx fs, v = .ref a ∧ G a = some (.ins (c.ρ C) dx fs) ∧ fs.map (·.1) = ns.map c.nm ∧ (∀ n ∈ ns, n < c.N) ∧ RFs c G xs (fs.map (·.2))
def RFs (c : Vc) (G : Hp) : List D → List V → Prop
  | [], vs => vs = []
  | d :: ds, vs => ∃ v r, vs = v :: r ∧ RF c G d v ∧ RFs c G ds r
end

theorem seqT_mono {K : PySem.W.Frag} {G G' : Hp} {a : Addr} {xs : List V} (e : Same G G') (h : SqT K G a xs) : SqT K G' a xs := by
  rcases h with (h | ⟨o, h⟩) | h
  · exact .inl (.inl (e _ _ h))
  · exact .inl (.inr ⟨o, e _ _ h⟩)
  · exact .inr h

mutual
theorem RF.mono {G G' : Hp} (s : Same G G') : ∀ (d : D) {v : V}, RF c G d v → RF c G' d v
  | .non, v, h => by rw [RF] at h ⊢; exact h
  | .bl b, v, h => by rw [RF] at h ⊢; exact h
  | .int i, v, h => by rw [RF] at h ⊢; exact h
  | .str x, v, h => by rw [RF] at h ⊢; exact h
  | .lst xs, v, h => by
    rw [RF] at h ⊢
    obtain ⟨a, vs, e, q, r⟩ := h
    exact ⟨a, vs, e, s _ _ q, RFs.mono s xs r⟩
  | .scr xs, v, h => by
    rw [RF] at h ⊢
    obtain ⟨a, vs, e, q, r⟩ := h
    exact ⟨a, vs, e, s.seq q, RFs.mono s xs r⟩
  | .tup xs, v, h => by
    rw [RF] at h ⊢
    obtain ⟨a, vs, e, q, r⟩ := h
    exact ⟨a, vs, e, seqT_mono s q, RFs.mono s xs r⟩
  | .ins C ns xs, v, h => by
    rw [RF] at h ⊢
    obtain ⟨a, dx, fs, e, q, n, b, r⟩ := h
    exact ⟨a, dx, fs, e, s _ _ q, n, b, RFs.mono s xs r⟩
theorem RFs.mono {G G' : Hp} (s : Same G G') : ∀ (ds : List D) {vs : List V}, RFs c G ds vs → RFs c G' ds vs
  | [], vs, h => by rw [RFs] at h ⊢; exact h
  | d :: ds, vs, h => by
    rw [RFs] at h ⊢
    obtain ⟨v, r, e, q, t⟩ := h
    exact ⟨v, r, e, RF.mono s d q, RFs.mono s ds t⟩
end

theorem RFs.nil {G : Hp} : RFs c G [] [] := by rw [RFs]
theorem RFs.cons {G : Hp} {d : D} {ds : List D} {v : V} {vs : List V} (h : RF c G d v) (t : RFs c G ds vs) : RFs c G (d :: ds) (v :: vs) := by
  rw [RFs]; exact ⟨v, vs, rfl, h, t⟩
theorem RFs.length {G : Hp} : ∀ {ds : List D} {vs : List V}, RFs c G ds vs → vs.length = ds.length
  | [], vs, h => by rw [RFs] at h; rw [h]; rfl
  | d :: ds, vs, h => by
    rw [RFs] at h
    obtain ⟨v, r, e, q, t⟩ := h
    rw [e, List.length_cons, List.length_cons, RFs.length t]
theorem RFs.get {G : Hp} : ∀ {ds : List D} {vs : List V} {i : Nat} {d : D}, RFs c G ds vs → ds[i]? = some d → ∃ v, vs[i]? = some v ∧ RF c G d v
  | [], vs, i, d, h, e => by simp at e
  | d' :: ds, vs, 0, d, h, e => by
    rw [RFs] at h
    obtain ⟨v, r, q, h1, _⟩ := h
    simp at e
    subst e q
    exact ⟨v, rfl, h1⟩
  | d' :: ds, vs, i + 1, d, h, e => by
    rw [RFs] at h
    obtain ⟨v, r, q, _, t⟩ := h
    subst q
    obtain ⟨v', e1, e2⟩ := RFs.get (i := i) t (by simpa using e)
    exact ⟨v', by simpa using e1, e2⟩
theorem RFs.getV {G : Hp} {ds : List D} {vs : List V} {i : Nat} {v : V} (h : RFs c G ds vs) (e : vs[i]? = some v) : ∃ d, ds[i]? = some d ∧ RF c G d v := by
  have hi : i < ds.length := by rw [← h.length]; exact (List.getElem?_eq_some_iff.mp e).1
  obtain ⟨v', e1, e2⟩ := h.get (i := i) (d := ds[i]) (by simp [hi])
  rw [e] at e1
  cases e1
  exact ⟨ds[i], by simp [hi], e2⟩
theorem RFs.append {G : Hp} : ∀ {ds es : List D} {vs us : List V}, RFs c G ds vs → RFs c G es us → RFs c G (ds ++ es) (vs ++ us)
  | [], es, vs, us, h, t => by rw [RFs] at h; subst h; exact t
  | d :: ds, es, vs, us, h, t => by
    rw [RFs] at h
    obtain ⟨v, r, q, h1, h2⟩ := h
    subst q
    exact RFs.cons h1 (RFs.append h2 t)
theorem RFs.take {G : Hp} (n : Nat) : ∀ {ds : List D} {vs : List V}, RFs c G ds vs → RFs c G (ds.take n) (vs.take n) := by
  induction n with
  | zero => intro ds vs _; exact RFs.nil
  | succ n ih =>
    intro ds vs h
    cases ds with
    | nil => rw [RFs] at h; subst h; exact RFs.nil
    | cons d ds =>
      rw [RFs] at h
      obtain ⟨v, r, q, h1, h2⟩ := h
      subst q
      exact RFs.cons h1 (ih h2)
theorem RFs.drop {G : Hp} (n : Nat) : ∀ {ds : List D} {vs : List V}, RFs c G ds vs → RFs c G (ds.drop n) (vs.drop n) := by
  induction n with
  | zero => intro ds vs h; exact h
  | succ n ih =>
    intro ds vs h
    cases ds with
    | nil => rw [RFs] at h; subst h; exact RFs.nil
    | cons d ds =>
      rw [RFs] at h
      obtain ⟨v, r, q, h1, h2⟩ := h
      subst q
      exact ih h2
theorem RFs.set {G : Hp} {d : D} {v : V} (hd : RF c G d v) (i : Nat) : ∀ {ds : List D} {vs : List V}, RFs c G ds vs → RFs c G (ds.set i d) (vs.set i v) := by
  induction i with
  | zero =>
    intro ds vs h
    cases ds with
    | nil => rw [RFs] at h; subst h; exact RFs.nil
    | cons e ds =>
      rw [RFs] at h
      obtain ⟨u, r, q, h1, h2⟩ := h
      subst q
      exact RFs.cons hd h2
  | succ i ih =>
    intro ds vs h
    cases ds with
    | nil => rw [RFs] at h; subst h; exact RFs.nil
    | cons e ds =>
      rw [RFs] at h
      obtain ⟨u, r, q, h1, h2⟩ := h
      subst q
      exact RFs.cons h1 (ih h2)

/-- a value: plain data, or a mutable cell of the store -/
inductive Wv where
  | t (d : D) | l (n : Nat)
/-- an expression's result: plain data, a new object that nobody holds yet, a cell -/
inductive Rv where
  | t (d : D) | f (d : D) | l (n : Nat)
def Rv.w : Rv → Wv
  | .t d => .t d
  | .f d => .t d
  | .l n => .l n
@[simp] theorem Rv.w_t (d : D) : (Rv.t d).w = .t d := rfl
@[simp] theorem Rv.w_f (d : D) : (Rv.f d).w = .t d := rfl
@[simp] theorem Rv.w_l (n : Nat) : (Rv.l n).w = .l n := rfl
/-- a mutable cell -/
inductive Cel where
  | dead | lst (xs : List D) | obj (C : Nat) (fs : List (Nat × Wv)) | exn (a : Addr) (cls : Value) (dd : Option Addr) (C : Nat) (fs : List (Nat × D)) | rng (lo hi : Int) | opq (t k : Nat) (as : List Nat) (ds : List D)
/-- a cell with an object -/
def Cel.on : Cel → Prop
  | .dead => False
  | .exn _ _ _ _ _ => False
  | _ => True
abbrev Store := List Cel
abbrev VEnv := List (Option Wv)

def WR (c : Vc) (μ : Nat → Addr) (m : Nat) (G : Hp) : Wv → V → Prop
  | .t d, v => RF c G d v
  | .l n, v => n < m ∧ v = .ref (μ n)
/-- an object's attributes -/
def FR (c : Vc) (rel : Wv → V → Prop) : List (Nat × Wv) → List (Str × V) → Prop
  | [], vs => vs = []
  | (f, w) :: r, vs => ∃ v s, vs = (c.nm f, v) :: s ∧ f < c.N ∧ rel w v ∧ FR c rel r s
def XF (c : Vc) (G : Hp) (fs : List (Nat × D)) (vs : List (Str × V)) : Prop := ∀ (f : Nat) (d : D), fs.lookup f = some d → ∃ v, vs.lookup (c.nm f) = some v ∧ RF c G d v
/-- an exception of the class C with the attributes fs -/
def ExcAt (c : Vc) (G : Hp) (C : Nat) (fs : List (Nat × D)) (cls : Value) (dd : Option Addr) : Prop :=
  cls = .ref (c.ρ C) ∧ (fs = [] ∨ ∃ d vs, dd = some d ∧ G d = some (.xd vs) ∧ XF c G fs vs)
theorem ExcAt.mono {c : Vc} {G G' : Hp} {C : Nat} {fs : List (Nat × D)} {cls : Value} {dd : Option Addr} (s : Same G G') (h : ExcAt c G C fs cls dd) : ExcAt c G' C fs cls dd := by
  obtain ⟨h1, h2⟩ := h
  refine ⟨h1, h2.imp id ?_⟩
  rintro ⟨d, vs, e, g, x⟩
  exact ⟨d, vs, e, s _ _ g, fun f u hu => let ⟨v, a, b⟩ := x f u hu; ⟨v, a, RF.mono s u b⟩⟩

/-- objects of the library that a name holds: an iterator of a list, the two pairs of a zip, a zip -/
def OpqR (c : Vc) (μ : Nat → Addr) (m : Nat) (G H : Hp) (a : Addr) : Nat → List Nat → List D → Prop
  | 0, [], ds => ∃ l vs, H a = some (.ext fun h => h.IsListIter a l 0) ∧ G l = some (.lst vs) ∧ RFs c G ds vs
  | 1, [i, j], [] => i < m ∧ j < m ∧ H a = some (.ext fun h => PySem.IsPair h a (.ref (μ i)) (.ref (μ j)))
  | 2, [], [] => H a = some (.ext fun h => ∃ x y, PySem.IsPair h a x y)
  | 3, [i, j], [] => i < m ∧ j < m ∧ H a = some (.ext fun h => PySem.IsZip h a (μ i) (μ j) .none)
  | _, _, _ => False
def CelR (c : Vc) (μ : Nat → Addr) (m : Nat) (G H : Hp) (a : Addr) : Cel → Prop
  | .dead => True
  | .lst xs => G a = none ∧ ∃ vs, H a = some (.lst vs) ∧ RFs c G xs vs
  | .obj C fs => G a = none ∧ ∃ dx vs, H a = some (.ins (c.ρ C) dx vs) ∧ FR c (WR c μ m G) fs vs
  | .exn a' cls dd C fs => a' = a ∧ ExcAt c G C fs cls dd
  | .rng lo hi => G a = none ∧ H a = some (.rng lo hi)
  | .opq t k as ds => G a = none ∧ k ≤ a ∧ OpqR c μ m G H a t as ds
/-- the cell at n is in use -/
def Live (M : Store) (n : Nat) : Prop := ∃ x, M[n]? = some x ∧ x.on

/-- a HandS state (σ, H) holds the environment Γ and the store M: G is what is frozen of H -/
structure Rel (c : Vc) (μ : Nat → Addr) (G : Hp) (Γ : VEnv) (M : Store) (σ : L2.St) (H : Hp) : Prop where
  gh : Same G H
  len : σ.length = Γ.length
  sl : ∀ (i : Nat) (w : Wv), Γ[i]? = some (some w) → ∃ v, σ[i]? = some (some v) ∧ WR c μ M.length G w v
  ce : ∀ (n : Nat) (x : Cel), M[n]? = some x → CelR c μ M.length G H (μ n) x
  inj : ∀ n m, Live M n → Live M m → μ n = μ m → n = m

/-- what is known of a new object that nobody holds -/
def Root (c : Vc) (G H : Hp) (a : Addr) : D → Prop
  | .lst xs => ∃ vs, H a = some (.lst vs) ∧ RFs c G xs vs
  | .ins C ns xs => ∃ dx fs, H a = some (.ins (c.ρ C) dx fs) ∧ fs.map (·.1) = ns.map c.nm ∧ (∀ n ∈ ns, n < c.N) ∧ RFs c G xs (fs.map (·.2))
  | _ => False
def RR (c : Vc) (μ : Nat → Addr) (M : Store) (G H : Hp) : Rv → V → Prop
  | .t d, v => RF c G d v
  | .f d, v => ∃ a, v = .ref a ∧ G a = none ∧ (∀ n, Live M n → μ n ≠ a) ∧ Root c G H a d
  | .l n, v => n < M.length ∧ v = .ref (μ n)
/-- later: more is frozen, more cells -/
structure Ext (μ : Nat → Addr) (G : Hp) (m : Nat) (μ' : Nat → Addr) (G' : Hp) (m' : Nat) : Prop where
  g : Same G G'
  u : ∀ n, n < m → μ' n = μ n
  m : m ≤ m'
theorem Ext.refl {μ : Nat → Addr} {G : Hp} {m : Nat} : Ext μ G m μ G m := ⟨Same.refl _, fun _ _ => rfl, Nat.le_refl _⟩
theorem Ext.trans {μ μ' μ2 : Nat → Addr} {G G' G2 : Hp} {m m' m2 : Nat} (a : Ext μ G m μ' G' m') (b : Ext μ' G' m' μ2 G2 m2) : Ext μ G m μ2 G2 m2 :=
  ⟨a.g.trans b.g, fun n h => (b.u n (Nat.lt_of_lt_of_le h a.m)).trans (a.u n h), Nat.le_trans a.m b.m⟩

theorem WR.ext {μ μ' : Nat → Addr} {G G' : Hp} {m m' : Nat} (e : Ext μ G m μ' G' m') {w : Wv} {v : V} (h : WR c μ m G w v) : WR c μ' m' G' w v := by
  cases w with
  | t d => exact RF.mono e.g d h
  | l n =>
    obtain ⟨h1, h2⟩ := (show n < m ∧ v = .ref (μ n) from h)
    exact ⟨Nat.lt_of_lt_of_le h1 e.m, by rw [h2, e.u n h1]⟩
theorem FR.imp {rel rel' : Wv → V → Prop} (f : ∀ w v, rel w v → rel' w v) : ∀ {fs : List (Nat × Wv)} {vs : List (Str × V)}, FR c rel fs vs → FR c rel' fs vs
  | [], _, h => h
  | (g, w) :: r, vs, h => by
    obtain ⟨v, s, e, n, q, t⟩ := h
    exact ⟨v, s, e, n, f _ _ q, FR.imp f t⟩
theorem FR.length {rel : Wv → V → Prop} : ∀ {fs : List (Nat × Wv)} {vs : List (Str × V)}, FR c rel fs vs → vs.length = fs.length
  | [], _, h => by cases (show _ = [] from h); rfl
  | (g, w) :: r, vs, h => by
    obtain ⟨v, s, e, n, q, t⟩ := h
    rw [e, List.length_cons, List.length_cons, FR.length t]
theorem OpqR.ext {μ μ' : Nat → Addr} {G G' H H' : Hp} {m m' : Nat} {a : Addr} {t : Nat} {as : List Nat} {ds : List D} (e : Ext μ G m μ' G' m') (hh : H' a = H a) (h : OpqR c μ m G H a t as ds) : OpqR c μ' m' G' H' a t as ds := by
  match t, as, ds, h with
  | 0, [], ds, h =>
    obtain ⟨l, vs, h1, h2, h3⟩ := h
    exact ⟨l, vs, by rw [hh]; exact h1, e.g _ _ h2, RFs.mono e.g ds h3⟩
  | 1, [i, j], [], h =>
    obtain ⟨h1, h2, h3⟩ := h
    exact ⟨Nat.lt_of_lt_of_le h1 e.m, Nat.lt_of_lt_of_le h2 e.m, by rw [hh, e.u i h1, e.u j h2]; exact h3⟩
  | 2, [], [], h => exact (show H' a = _ from by rw [hh]; exact h)
  | 3, [i, j], [], h =>
    obtain ⟨h1, h2, h3⟩ := h
    exact ⟨Nat.lt_of_lt_of_le h1 e.m, Nat.lt_of_lt_of_le h2 e.m, by rw [hh, e.u i h1, e.u j h2]; exact h3⟩
theorem OpqR.there {μ : Nat → Addr} {G H : Hp} {m : Nat} {a : Addr} {t : Nat} {as : List Nat} {ds : List D} (h : OpqR c μ m G H a t as ds) : ∃ φ, H a = some (.ext φ) := by
  match t, as, ds, h with
  | 0, [], ds, h => obtain ⟨l, vs, h1, _⟩ := h; exact ⟨_, h1⟩
  | 1, [i, j], [], h => exact ⟨_, h.2.2⟩
  | 2, [], [], h => exact ⟨_, h⟩
  | 3, [i, j], [], h => exact ⟨_, h.2.2⟩
/-- a cell's relation when more is frozen (not the cell itself), the object at its place as it was -/
theorem CelR.ext {μ μ' : Nat → Addr} {G G' H H' : Hp} {m m' : Nat} {a : Addr} {x : Cel} (e : Ext μ G m μ' G' m') (hg : x.on → G' a = none) (hh : x.on → H' a = H a) (h : CelR c μ m G H a x) : CelR c μ' m' G' H' a x := by
  cases x with
  | dead => trivial
  | exn a' cls dd C fs => exact ⟨h.1, h.2.mono e.g⟩
  | rng lo hi => exact ⟨hg trivial, by rw [hh trivial]; exact h.2⟩
  | opq t k as ds => exact ⟨hg trivial, h.2.1, h.2.2.ext e (hh trivial)⟩
  | lst xs =>
    obtain ⟨_, vs, h1, h2⟩ := h
    exact ⟨hg trivial, vs, by rw [hh trivial]; exact h1, RFs.mono e.g xs h2⟩
  | obj C fs =>
    obtain ⟨_, dx, vs, h1, h2⟩ := h
    exact ⟨hg trivial, dx, vs, by rw [hh trivial]; exact h1, FR.imp (fun w v q => WR.ext e q) h2⟩
theorem CelR.none {μ : Nat → Addr} {G H : Hp} {m : Nat} {a : Addr} {x : Cel} (h : CelR c μ m G H a x) (n : x.on) : G a = none := by
  cases x with
  | dead => exact n.elim
  | exn a' cls dd C fs => exact n.elim
  | rng lo hi => exact h.1
  | opq t k as ds => exact h.1
  | lst xs => exact h.1
  | obj C fs => exact h.1
theorem CelR.there {μ : Nat → Addr} {G H : Hp} {m : Nat} {a : Addr} {x : Cel} (h : CelR c μ m G H a x) (n : x.on) : ∃ o, H a = some o := by
  cases x with
  | dead => exact n.elim
  | exn a' cls dd C fs => exact n.elim
  | rng lo hi => exact ⟨_, h.2⟩
  | opq t k as ds => obtain ⟨φ, e⟩ := h.2.2.there; exact ⟨_, e⟩
  | lst xs => obtain ⟨_, vs, h1, _⟩ := h; exact ⟨_, h1⟩
  | obj C fs => obtain ⟨_, dx, vs, h1, _⟩ := h; exact ⟨_, h1⟩

section
variable {μ : Nat → Addr} {G H : Hp} {Γ : VEnv} {M : Store} {σ : L2.St}
theorem Rel.live (R : Rel c μ G Γ M σ H) {n : Nat} (l : Live M n) : G (μ n) = none ∧ ∃ o, H (μ n) = some o := by
  obtain ⟨x, hx, nx⟩ := l
  exact ⟨(R.ce n x hx).none nx, (R.ce n x hx).there nx⟩
/-- the environment changed -/
theorem Rel.env (R : Rel c μ G Γ M σ H) {Γ' : VEnv} {σ' : L2.St} (len : σ'.length = Γ'.length) (sl : ∀ (i : Nat) (w : Wv), Γ'[i]? = some (some w) → ∃ v, σ'[i]? = some (some v) ∧ WR c μ M.length G w v) : Rel c μ G Γ' M σ' H :=
  ⟨R.gh, len, sl, R.ce, R.inj⟩
/-- a new object of H, or one that nobody tells of, changes nothing -/
theorem Rel.heap (R : Rel c μ G Γ M σ H) {H' : Hp} (hg : Same G H') (hc : ∀ n, Live M n → H' (μ n) = H (μ n)) : Rel c μ G Γ M σ H' :=
  ⟨hg, R.len, R.sl, fun n x hx => (R.ce n x hx).ext Ext.refl (fun nx => (R.ce n x hx).none nx) (fun nx => hc n ⟨x, hx, nx⟩), R.inj⟩
/-- more is frozen -/
theorem Rel.grow (R : Rel c μ G Γ M σ H) {G' : Hp} (s : Same G G') (hg : Same G' H) (hn : ∀ n, Live M n → G' (μ n) = none) : Rel c μ G' Γ M σ H := by
  have e : Ext μ G M.length μ G' M.length := ⟨s, fun _ _ => rfl, Nat.le_refl _⟩
  refine ⟨hg, R.len, fun i w h => ?_, fun n x hx => (R.ce n x hx).ext e (fun nx => hn n ⟨x, hx, nx⟩) (fun _ => rfl), R.inj⟩
  obtain ⟨v, h1, h2⟩ := R.sl i w h
  exact ⟨v, h1, h2.ext e⟩
/-- a new object p is laid in H and frozen at once -/
theorem Rel.lay (R : Rel c μ G Γ M σ H) {p : Addr} {o : HO} (hp : H p = none) : Rel c μ (upd G p o) Γ M σ (upd H p o) ∧ Same G (upd G p o) := by
  have gp : G p = none := R.gh.free hp
  have nl : ∀ n, Live M n → μ n ≠ p := fun n l e => by
    obtain ⟨_, o', q⟩ := R.live l
    rw [e, hp] at q; cases q
  have s : Same G (upd G p o) := fun b u q => by rw [upd_ne (ne_of_none q gp)]; exact q
  have R1 : Rel c μ G Γ M σ (upd H p o) := R.heap (fun b u q => by rw [upd_ne (ne_of_none (R.gh b u q) hp)]; exact R.gh b u q) fun n l => upd_ne (nl n l)
  refine ⟨R1.grow s (fun b u q => ?_) fun n l => by rw [upd_ne (nl n l)]; exact (R.live l).1, s⟩
  by_cases hb : b = p
  · subst hb; rw [upd_same] at q ⊢; exact q
  · rw [upd_ne hb] at q ⊢; exact R.gh b u q
/-- a new object p is laid in H, held by nobody -/
theorem Rel.layF (R : Rel c μ G Γ M σ H) {p : Addr} {o : HO} (hp : H p = none) : Rel c μ G Γ M σ (upd H p o) ∧ G p = none ∧ ∀ n, Live M n → μ n ≠ p := by
  have gp : G p = none := R.gh.free hp
  have nl : ∀ n, Live M n → μ n ≠ p := fun n l e => by
    obtain ⟨_, o', q⟩ := R.live l
    rw [e, hp] at q; cases q
  exact ⟨R.heap (fun b u q => by rw [upd_ne (ne_of_none (R.gh b u q) hp)]; exact R.gh b u q) fun n l => upd_ne (nl n l), gp, nl⟩
/-- a result is frozen if it is new -/
theorem RR.frz (R : Rel c μ G Γ M σ H) {r : Rv} {v : V} (h : RR c μ M G H r v) : ∃ G', Same G G' ∧ Rel c μ G' Γ M σ H ∧ WR c μ M.length G' r.w v := by
  cases r with
  | t d => exact ⟨G, Same.refl _, R, h⟩
  | l n => exact ⟨G, Same.refl _, R, h⟩
  | f d =>
    obtain ⟨a, ev, ga, nl, rt⟩ := h
    have fin : ∀ {o : HO}, H a = some o → ∃ s : Same G (upd G a o), Rel c μ (upd G a o) Γ M σ H := fun {o} ho => by
      have s : Same G (upd G a o) := fun b u q => by rw [upd_ne (ne_of_none q ga)]; exact q
      refine ⟨s, R.grow s (fun b u q => ?_) fun n l => by rw [upd_ne (nl n l)]; exact (R.live l).1⟩
      by_cases hb : b = a
      · subst hb; rw [upd_same] at q; cases q; exact ho
      · rw [upd_ne hb] at q; exact R.gh b u q
    cases d with
    | lst xs =>
      obtain ⟨vs, h1, h2⟩ := rt
      obtain ⟨s, R'⟩ := fin h1
      refine ⟨_, s, R', ?_⟩
      show RF c _ (.lst xs) v
      rw [RF]
      exact ⟨a, vs, ev, upd_same, RFs.mono s xs h2⟩
    | ins C ns xs =>
      obtain ⟨dx, fs, h1, h2, h3, h4⟩ := rt
      obtain ⟨s, R'⟩ := fin h1
      refine ⟨_, s, R', ?_⟩
      show RF c _ (.ins C ns xs) v
      rw [RF]
      exact ⟨a, dx, fs, ev, upd_same, h2, h3, RFs.mono s xs h4⟩
    | _ => exact (show False from rt).elim
theorem WR.rr {w : Wv} {v : V} (h : WR c μ M.length G w v) : RR c μ M G H (match w with | .t d => .t d | .l n => .l n) v := by
  cases w with
  | t d => exact h
  | l n => exact h
/-- a slot is stored -/
theorem Rel.store (R : Rel c μ G Γ M σ H) {i : Nat} {w : Wv} {v : V} (h : WR c μ M.length G w v) : Rel c μ G (Γ.set i (some w)) M (σ.set i (some v)) H := by
  refine R.env (by rw [List.length_set, List.length_set, R.len]) fun j u e => ?_
  by_cases hj : i = j
  · subst hj
    by_cases hi : i < Γ.length
    · rw [List.getElem?_set_self hi] at e
      cases e
      exact ⟨v, by rw [List.getElem?_set_self (by rw [R.len]; exact hi)], h⟩
    · rw [List.getElem?_eq_none (by simpa using hi)] at e; cases e
  · rw [List.getElem?_set_ne hj] at e ⊢
    exact R.sl j u e
theorem Rel.forget (R : Rel c μ G Γ M σ H) (i : Nat) : Rel c μ G (Γ.set i none) M σ H := by
  refine R.env (by rw [List.length_set, R.len]) fun j u e => ?_
  by_cases hj : i = j
  · subst hj
    by_cases hi : i < Γ.length
    · rw [List.getElem?_set_self hi] at e; cases e
    · rw [List.getElem?_eq_none (by simpa using hi)] at e; cases e
  · rw [List.getElem?_set_ne hj] at e
    exact R.sl j u e
end
theorem live_append {M : Store} {x : Cel} {n : Nat} (l : Live (M ++ [x]) n) : Live M n ∨ n = M.length := by
  obtain ⟨y, hy, ny⟩ := l
  by_cases h : n < M.length
  · rw [List.getElem?_append_left h] at hy
    exact .inl ⟨y, hy, ny⟩
  · have : n < (M ++ [x]).length := (List.getElem?_eq_some_iff.mp hy).1
    rw [List.length_append, List.length_singleton] at this
    exact .inr (by omega)
section
variable {μ : Nat → Addr} {G H : Hp} {Γ : VEnv} {M : Store} {σ : L2.St}
/-- a new cell at a -/
theorem Rel.cell (R : Rel c μ G Γ M σ H) {a : Addr} {x : Cel} (nl : ∀ n, Live M n → μ n ≠ a)
    (hx : ∀ μ', (∀ n, n < M.length → μ' n = μ n) → CelR c μ' (M.length + 1) G H a x) :
    ∃ μ', Ext μ G M.length μ' G (M ++ [x]).length ∧ μ' M.length = a ∧ Rel c μ' G Γ (M ++ [x]) σ H := by
  obtain ⟨μ', es, hm⟩ : ∃ μ' : Nat → Addr, μ' M.length = a ∧ ∀ n, n < M.length → μ' n = μ n := ⟨fun n => if n = M.length then a else μ n, if_pos rfl, fun n h => if_neg (Nat.ne_of_lt h)⟩
  have e : Ext μ G M.length μ' G (M ++ [x]).length := ⟨Same.refl _, hm, by rw [List.length_append]; exact Nat.le_add_right _ _⟩
  have lM : ∀ n, Live M n → n < M.length := fun n ⟨y, hy, _⟩ => (List.getElem?_eq_some_iff.mp hy).1
  refine ⟨μ', e, es, R.gh, R.len, fun i w h => ?_, fun n y hy => ?_, fun n m ln lm q => ?_⟩
  · obtain ⟨v, h1, h2⟩ := R.sl i w h
    exact ⟨v, h1, h2.ext e⟩
  · by_cases h : n < M.length
    · rw [List.getElem?_append_left h] at hy
      rw [hm n h]
      exact (R.ce n y hy).ext e (fun ny => (R.ce n y hy).none ny) fun _ => rfl
    · have hl : n < (M ++ [x]).length := (List.getElem?_eq_some_iff.mp hy).1
      rw [List.length_append, List.length_singleton] at hl
      have hn : n = M.length := by omega
      subst hn
      rw [List.getElem?_append_right (Nat.le_refl _), Nat.sub_self] at hy
      cases hy
      rw [es, List.length_append, List.length_singleton]
      exact hx _ hm
  · rcases live_append ln with l1 | e1
    · rw [hm n (lM n l1)] at q
      rcases live_append lm with l2 | e2
      · rw [hm m (lM m l2)] at q
        exact R.inj n m l1 l2 q
      · subst e2
        rw [es] at q
        exact absurd q (nl n l1)
    · subst e1
      rw [es] at q
      rcases live_append lm with l2 | e2
      · rw [hm m (lM m l2)] at q
        exact absurd q.symm (nl m l2)
      · exact e2.symm
theorem live_set {M : Store} {x : Cel} {n k : Nat} (l : Live (M.set k x) n) : (n = k ∧ x.on) ∨ (n ≠ k ∧ Live M n) := by
  obtain ⟨y, hy, ny⟩ := l
  by_cases h : n = k
  · subst h
    have hl : n < M.length := by
      have := (List.getElem?_eq_some_iff.mp hy).1
      rwa [List.length_set] at this
    rw [List.getElem?_set_self hl] at hy
    cases hy
    exact .inl ⟨rfl, ny⟩
  · rw [List.getElem?_set_ne (Ne.symm h)] at hy
    exact .inr ⟨h, y, hy, ny⟩
/-- a cell gets new contents -/
theorem Rel.put (R : Rel c μ G Γ M σ H) {k : Nat} {o : HO} {x : Cel} (lk : Live M k) (hx : CelR c μ M.length G (upd H (μ k) o) (μ k) x) : Rel c μ G Γ (M.set k x) σ (upd H (μ k) o) := by
  have gk := (R.live lk).1
  have other : ∀ n, Live M n → n ≠ k → μ n ≠ μ k := fun n l ne q => ne (R.inj n k l lk q)
  refine ⟨fun b u q => ?_, R.len, fun i w h => ?_, fun n y hy => ?_, fun n m ln lm q => ?_⟩
  · rw [upd_ne (ne_of_none q gk)]; exact R.gh b u q
  · rw [List.length_set]; exact R.sl i w h
  · rw [List.length_set]
    by_cases h : n = k
    · subst h
      have hl : n < M.length := by
        have := (List.getElem?_eq_some_iff.mp hy).1
        rwa [List.length_set] at this
      rw [List.getElem?_set_self hl] at hy
      cases hy
      exact hx
    · rw [List.getElem?_set_ne (Ne.symm h)] at hy
      exact (R.ce n y hy).ext Ext.refl (fun ny => (R.ce n y hy).none ny) fun ny => upd_ne (other n ⟨y, hy, ny⟩ h)
  · have f : ∀ n, Live (M.set k x) n → Live M n := fun n l => by
      rcases live_set l with ⟨rfl, _⟩ | ⟨_, l'⟩
      · exact lk
      · exact l'
    exact R.inj n m (f n ln) (f m lm) q
/-- a cell is given up -/
theorem Rel.drop (R : Rel c μ G Γ M σ H) (k : Nat) : Rel c μ G Γ (M.set k .dead) σ H := by
  have f : ∀ n, Live (M.set k .dead) n → Live M n := fun n l => by
    rcases live_set l with ⟨_, q⟩ | ⟨_, l'⟩
    · exact q.elim
    · exact l'
  refine ⟨R.gh, R.len, fun i w h => ?_, fun n y hy => ?_, fun n m ln lm q => R.inj n m (f n ln) (f m lm) q⟩
  · rw [List.length_set]; exact R.sl i w h
  · rw [List.length_set]
    by_cases h : n = k
    · subst h
      have hl : n < M.length := by
        have := (List.getElem?_eq_some_iff.mp hy).1
        rwa [List.length_set] at this
      rw [List.getElem?_set_self hl] at hy
      cases hy
      exact (show True from trivial)
    · rw [List.getElem?_set_ne (Ne.symm h)] at hy
      exact R.ce n y hy
/-- the plain data of a cell -/
def Cel.d : Cel → Option D
  | .lst xs => some (.lst xs)
  | .obj C fs => if fs.all (fun p => match p.2 with | .t _ => true | .l _ => false) then some (.ins C (fs.map (·.1)) (fs.map fun p => match p.2 with | .t d => d | .l _ => .non)) else none
  | .dead => none
  | .exn _ _ _ _ _ => none
  | .rng _ _ => none
  | .opq _ _ _ _ => none
theorem FR.plain : ∀ {fs : List (Nat × Wv)} {vs : List (Str × V)}, FR c (WR c μ M.length G) fs vs → fs.all (fun p => match p.2 with | .t _ => true | .l _ => false) = true →
    vs.map (·.1) = (fs.map (·.1)).map c.nm ∧ (∀ n ∈ fs.map (·.1), n < c.N) ∧ RFs c G (fs.map fun p => match p.2 with | .t d => d | .l _ => .non) (vs.map (·.2))
  | [], vs, h, _ => by
    cases (show vs = [] from h)
    exact ⟨rfl, by simp, RFs.nil⟩
  | (f, w) :: r, vs, h, ha => by
    obtain ⟨v, s, e, n, q, t⟩ := h
    rw [List.all_cons, Bool.and_eq_true] at ha
    obtain ⟨i1, i2, i3⟩ := FR.plain t ha.2
    subst e
    cases w with
    | l k => exact absurd ha.1 (by simp)
    | t d =>
      refine ⟨by simp only [List.map_cons, i1], fun k hk => ?_, ?_⟩
      · rw [List.map_cons] at hk
        rcases List.mem_cons.mp hk with e | e
        · rw [e]; exact n
        · exact i2 k e
      · rw [List.map_cons, List.map_cons]
        exact RFs.cons q i3
/-- a cell is given up and its object is a result that nobody holds -/
theorem Rel.take (R : Rel c μ G Γ M σ H) {k : Nat} {x : Cel} {d : D} (hx : M[k]? = some x) (hd : x.d = some d) : Rel c μ G Γ (M.set k .dead) σ H ∧ RR c μ (M.set k .dead) G H (.f d) (.ref (μ k)) := by
  have nx : x.on := by cases x <;> first | trivial | cases hd
  have lk : Live M k := ⟨x, hx, nx⟩
  refine ⟨R.drop k, μ k, rfl, (R.live lk).1, fun n l q => ?_, ?_⟩
  · rcases live_set l with ⟨_, z⟩ | ⟨ne, l'⟩
    · exact z.elim
    · exact ne (R.inj n k l' lk q)
  · have hc := R.ce k x hx
    cases x with
    | dead => exact nx.elim
    | exn a' cls dd C fs => exact nx.elim
    | rng lo hi => cases hd
    | opq t k as ds => cases hd
    | lst xs =>
      cases hd
      obtain ⟨_, vs, h1, h2⟩ := hc
      exact ⟨vs, h1, h2⟩
    | obj C fs =>
      obtain ⟨_, dx, vs, h1, h2⟩ := hc
      simp only [Cel.d] at hd
      by_cases ha : fs.all (fun p => match p.2 with | .t _ => true | .l _ => false) = true
      · rw [if_pos ha] at hd
        cases hd
        obtain ⟨i1, i2, i3⟩ := FR.plain h2 ha
        exact ⟨dx, vs, h1, i1, i2, i3⟩
      · rw [if_neg ha] at hd
        cases hd
end
end VL

set_option Elab.async false
set_option linter.all false
set_option maxRecDepth 100000
set_option maxHeartbeats 200000
/-! VL2: results, the judgements, the rules for expressions. -/
namespace VL
open PySem PySem.Spec PyProof.Rows L2

/-- a computation's end: a result, an exception of an own class with its attributes, or nothing promised -/
inductive Res (α : Type) where
  | ok (a : α) (M : Store)
  | exc (C : Nat) (fs : List (Nat × D)) (M : Store)
  | bad
def Res.bind {α β : Type} (x : Res α) (f : α → Store → Res β) : Res β := match x with
  | .ok a M => f a M
  | .exc C fs M => .exc C fs M
  | .bad => .bad
@[simp] theorem Res.bind_ok {α β : Type} (a : α) (M : Store) (f : α → Store → Res β) : (Res.ok a M).bind f = f a M := rfl
@[simp] theorem Res.bind_exc {α β : Type} (C : Nat) (fs : List (Nat × D)) (M : Store) (f : α → Store → Res β) : (Res.exc C fs M : Res α).bind f = .exc C fs M := rfl
@[simp] theorem Res.bind_bad {α β : Type} (f : α → Store → Res β) : (Res.bad : Res α).bind f = .bad := rfl
abbrev ES (α : Type) := VEnv → Store → Res α
abbrev SemE := ES Rv

/-- what a result must bring -/
def FinG {α β : Type} (c : Vc) (W : WX) (σ : L2.St) (Γ : VEnv) (rr : (Nat → Addr) → Store → Hp → Hp → α → β → Prop) (μ : Nat → Addr) (G : Hp) (m : Nat) (Q : β → Hp → Prop) : Res α → Prop
  | .ok r M' => ∀ μ' G' v H', Ext μ G m μ' G' M'.length → Rel c μ' G' Γ M' σ H' → rr μ' M' G' H' r v → Q v H'
  | .exc C fs M' => ∀ μ' G' cls dd H', Ext μ G m μ' G' M'.length → Rel c μ' G' Γ M' σ H' → ExcAt c G' C fs cls dd → W cls dd σ H'
  | .bad => False
section
variable {α β : Type} {c : Vc} {W : WX} {σ : L2.St} {Γ : VEnv} {rr : (Nat → Addr) → Store → Hp → Hp → α → β → Prop} {μ μ' : Nat → Addr} {G G' H : Hp} {m m' : Nat} {Q Q' : β → Hp → Prop} {x : Res α}
theorem FinG.ext (e : Ext μ G m μ' G' m') (h : FinG c W σ Γ rr μ G m Q x) : FinG c W σ Γ rr μ' G' m' Q x := by
  cases x with
  | ok r M => exact fun μ2 G2 v H' e2 R q => h μ2 G2 v H' (e.trans e2) R q
  | exc C fs M => exact fun μ2 G2 cls dd H' e2 R q => h μ2 G2 cls dd H' (e.trans e2) R q
  | bad => exact h
theorem FinG.mono (i : ∀ v H, Q v H → Q' v H) (h : FinG c W σ Γ rr μ G m Q x) : FinG c W σ Γ rr μ G m Q' x := by
  cases x with
  | ok r M => exact fun μ2 G2 v H' e2 R q => i _ _ (h μ2 G2 v H' e2 R q)
  | exc C fs M => exact h
  | bad => exact h
end
/-- the values that are held while more is reckoned -/
def Held (c : Vc) (μ : Nat → Addr) (m : Nat) (G : Hp) : List Wv → List V → Prop
  | [], vs => vs = []
  | w :: ws, vs => ∃ v r, vs = v :: r ∧ WR c μ m G w v ∧ Held c μ m G ws r
theorem Held.ext {c : Vc} {μ μ' : Nat → Addr} {m m' : Nat} {G G' : Hp} (e : Ext μ G m μ' G' m') : ∀ {ws : List Wv} {vs : List V}, Held c μ m G ws vs → Held c μ' m' G' ws vs
  | [], _, h => h
  | w :: ws, vs, h => by
    obtain ⟨v, r, q, h1, h2⟩ := h
    exact ⟨v, r, q, h1.ext e, Held.ext e h2⟩
theorem Held.length {c : Vc} {μ : Nat → Addr} {m : Nat} {G : Hp} : ∀ {ws : List Wv} {vs : List V}, Held c μ m G ws vs → vs.length = ws.length
  | [], _, h => by cases (show _ = [] from h); rfl
  | w :: ws, vs, h => by
    obtain ⟨v, r, q, h1, h2⟩ := h
    rw [q, List.length_cons, List.length_cons, Held.length h2]

abbrev rrE (c : Vc) : (Nat → Addr) → Store → Hp → Hp → Rv → V → Prop := fun μ M G H r v => RR c μ M G H r v
abbrev rrA (c : Vc) : (Nat → Addr) → Store → Hp → Hp → List Wv → List V → Prop := fun μ M G _ ws vs => Held c μ M.length G ws vs
abbrev rrT : (Nat → Addr) → Store → Hp → Hp → Bool → Bool → Prop := fun _ _ _ _ a b => a = b
/-- the reading of a function over plain data, values ws held at vs -/
def liftG {α β : Type} (c : Vc) (W : WX) (rr : (Nat → Addr) → Store → Hp → Hp → α → β → Prop) (ws : List Wv) (vs : List V) (f : ES α) : L2.St → Hp → (β → Hp → Prop) → Prop := fun σ H Q =>
  ∃ μ G Γ M, Rel c μ G Γ M σ H ∧ Held c μ M.length G ws vs ∧ FinG c W σ Γ rr μ G M.length Q (f Γ M)
abbrev lift (c : Vc) (W : WX) (f : SemE) : TE := liftG c W (rrE c) [] [] f
abbrev liftA (c : Vc) (W : WX) (f : ES (List Wv)) : TA := liftG c W (rrA c) [] [] f
abbrev liftT (c : Vc) (W : WX) (f : ES Bool) : TT := liftG c W rrT [] [] f
theorem liftG.mono {α β : Type} {c : Vc} {W : WX} {rr : (Nat → Addr) → Store → Hp → Hp → α → β → Prop} {ws : List Wv} {vs : List V} {f : ES α} {σ : L2.St} {H : Hp} {Q Q' : β → Hp → Prop} (h : liftG c W rr ws vs f σ H Q) (i : ∀ v H, Q v H → Q' v H) : liftG c W rr ws vs f σ H Q' := by
  obtain ⟨μ, G, Γ, M, R, hd, F⟩ := h
  exact ⟨μ, G, Γ, M, R, hd, F.mono i⟩

/-- THE COMPOSITION: f, then g, its value held -/
theorem lift_bind {α β : Type} {c : Vc} {W : WX} {rr : (Nat → Addr) → Store → Hp → Hp → α → β → Prop} {f : SemE} {g : Wv → ES α} {ws : List Wv} {vs : List V} {σ : L2.St} {H : Hp} {Q : β → Hp → Prop} {P : V → Hp → Prop}
    (h : liftG c W rr ws vs (fun Γ M => (f Γ M).bind fun r M1 => g r.w Γ M1) σ H Q) (k : ∀ w x H1, liftG c W rr (w :: ws) (x :: vs) (g w) σ H1 Q → P x H1) : lift c W f σ H P := by
  obtain ⟨μ, G, Γ, M, R, hd, F⟩ := h
  refine ⟨μ, G, Γ, M, R, rfl, ?_⟩
  cases e : f Γ M with
  | ok r M1 =>
    dsimp only at F
    rw [e] at F
    intro μ' G' v H' ex R1 q
    obtain ⟨G2, s, R2, wr⟩ := RR.frz R1 q
    have ex2 : Ext μ G M.length μ' G2 M1.length := ex.trans ⟨s, fun _ _ => rfl, Nat.le_refl _⟩
    exact k r.w v H' ⟨μ', G2, Γ, M1, R2, ⟨v, vs, rfl, wr, hd.ext ex2⟩, FinG.ext ex2 F⟩
  | exc C fs M1 =>
    dsimp only at F
    rw [e] at F
    exact F
  | bad =>
    dsimp only at F
    rw [e] at F
    exact F
/-- f, then g, its result (new or not) handed on -/
theorem lift_bindR {α β : Type} {c : Vc} {W : WX} {rr : (Nat → Addr) → Store → Hp → Hp → α → β → Prop} {f : SemE} {g : Rv → ES α} {σ : L2.St} {H : Hp} {Q : β → Hp → Prop} {P : V → Hp → Prop}
    (h : liftG c W rr [] [] (fun Γ M => (f Γ M).bind fun r M1 => g r Γ M1) σ H Q)
    (k : ∀ r x H1 μ G Γ M, Rel c μ G Γ M σ H1 → RR c μ M G H1 r x → FinG c W σ Γ rr μ G M.length Q (g r Γ M) → P x H1) : lift c W f σ H P := by
  obtain ⟨μ, G, Γ, M, R, hd, F⟩ := h
  refine ⟨μ, G, Γ, M, R, rfl, ?_⟩
  cases e : f Γ M with
  | ok r M1 =>
    dsimp only at F
    rw [e] at F
    intro μ' G' v H' ex R1 q
    exact k r v H' μ' G' Γ M1 R1 q (FinG.ext ex F)
  | exc C fs M1 =>
    dsimp only at F
    rw [e] at F
    exact F
  | bad =>
    dsimp only at F
    rw [e] at F
    exact F
/-- .. a list of arguments -/
theorem lift_bindA {α β : Type} {c : Vc} {W : WX} {rr : (Nat → Addr) → Store → Hp → Hp → α → β → Prop} {f : ES (List Wv)} {g : List Wv → ES α} {ws : List Wv} {vs : List V} {σ : L2.St} {H : Hp} {Q : β → Hp → Prop} {P : List V → Hp → Prop}
    (h : liftG c W rr ws vs (fun Γ M => (f Γ M).bind fun r M1 => g r Γ M1) σ H Q)
    (k : ∀ as xs H1 μ G Γ M, Rel c μ G Γ M σ H1 → Held c μ M.length G as xs → Held c μ M.length G ws vs → FinG c W σ Γ rr μ G M.length Q (g as Γ M) → P xs H1) : liftA c W f σ H P := by
  obtain ⟨μ, G, Γ, M, R, hd, F⟩ := h
  refine ⟨μ, G, Γ, M, R, rfl, ?_⟩
  cases e : f Γ M with
  | ok r M1 =>
    dsimp only at F
    rw [e] at F
    intro μ' G' v H' ex R1 q
    exact k r v H' μ' G' Γ M1 R1 q (hd.ext ex) (FinG.ext ex F)
  | exc C fs M1 =>
    dsimp only at F
    rw [e] at F
    exact F
  | bad =>
    dsimp only at F
    rw [e] at F
    exact F
/-- .. a test -/
theorem lift_bindT {α β : Type} {c : Vc} {W : WX} {rr : (Nat → Addr) → Store → Hp → Hp → α → β → Prop} {f : ES Bool} {g : Bool → ES α} {ws : List Wv} {vs : List V} {σ : L2.St} {H : Hp} {Q : β → Hp → Prop} {P : Bool → Hp → Prop}
    (h : liftG c W rr ws vs (fun Γ M => (f Γ M).bind fun r M1 => g r Γ M1) σ H Q) (k : ∀ b H1, liftG c W rr ws vs (g b) σ H1 Q → P b H1) : liftT c W f σ H P := by
  obtain ⟨μ, G, Γ, M, R, hd, F⟩ := h
  refine ⟨μ, G, Γ, M, R, rfl, ?_⟩
  cases e : f Γ M with
  | ok r M1 =>
    dsimp only at F
    rw [e] at F
    intro μ' G' v H' ex R1 q
    cases q
    exact k r H' ⟨μ', G', Γ, M1, R1, hd.ext ex, FinG.ext ex F⟩
  | exc C fs M1 =>
    dsimp only at F
    rw [e] at F
    exact F
  | bad =>
    dsimp only at F
    rw [e] at F
    exact F

theorem peImp {X : Cx} {e : Expr} {t t' : TE} (h : PE X e t) (i : ∀ σ H Q, t' σ H Q → t σ H Q) : PE X e t' := ⟨fun pins s σ H Q I q => h.run pins s σ H Q I (i _ _ _ q)⟩
theorem ptImp {X : Cx} {e : Expr} {t t' : TT} (h : PT X e t) (i : ∀ σ H Q, t' σ H Q → t σ H Q) : PT X e t' := ⟨fun pins s σ H Q I q => h.run pins s σ H Q I (i _ _ _ q)⟩
theorem paImp {X : Cx} {e : List Expr} {t t' : TA} (h : PA X e t) (i : ∀ σ H Q, t' σ H Q → t σ H Q) : PA X e t' := ⟨fun pos pins s σ H Q I q => h.run pos pins s σ H Q I (i _ _ _ q)⟩

abbrev DE (c : Vc) (X : Cx) (W : WX) (e : Expr) (f : SemE) : Prop := PE X e (lift c W f)
abbrev DA (c : Vc) (X : Cx) (W : WX) (es : List Expr) (f : ES (List Wv)) : Prop := PA X es (liftA c W f)
abbrev DT (c : Vc) (X : Cx) (W : WX) (e : Expr) (f : ES Bool) : Prop := PT X e (liftT c W f)

section
variable {c : Vc} {X : Cx} {W : WX}

/-! ### names, constants -/
def vVar (i : Nat) : SemE := fun Γ M => match Γ[i]? with
  | some (some (.t d)) => .ok (.t d) M
  | some (some (.l n)) => .ok (.l n) M
  | _ => .bad
theorem de_var {i : Nat} {e : Expr} (h : PE X e (tVar i)) : DE c X W e (vVar i) := by
  refine peImp h fun σ H Q ⟨μ, G, Γ, M, R, _, F⟩ => ?_
  unfold vVar at F
  split at F
  · rename_i d e
    obtain ⟨v, h1, h2⟩ := R.sl i _ e
    exact ⟨v, h1, F μ G v H Ext.refl R h2⟩
  · rename_i n e
    obtain ⟨v, h1, h2⟩ := R.sl i _ e
    exact ⟨v, h1, F μ G v H Ext.refl R h2⟩
  · exact F.elim
/-- a mutable local is given up: its data, frozen or new -/
def vTake (i : Nat) : SemE := fun Γ M => match Γ[i]? with
  | some (some (.l n)) => (match M[n]? with
    | some x => (match x.d with
      | some d => .ok (.f d) (M.set n .dead)
      | none => .bad)
    | none => .bad)
  | _ => .bad
theorem de_take {i : Nat} {e : Expr} (h : PE X e (tVar i)) : DE c X W e (vTake i) := by
  refine peImp h fun σ H Q ⟨μ, G, Γ, M, R, _, F⟩ => ?_
  unfold vTake at F
  split at F
  · rename_i n e
    obtain ⟨v, h1, h2⟩ := R.sl i _ e
    obtain ⟨hn, rfl⟩ := (show n < M.length ∧ v = .ref (μ n) from h2)
    split at F
    · rename_i x hx
      split at F
      · rename_i d hd
        obtain ⟨R', q⟩ := R.take hx hd
        refine ⟨_, h1, F μ G _ H ⟨Same.refl _, fun _ _ => rfl, by rw [List.length_set]; exact Nat.le_refl _⟩ R' q⟩
      · exact F.elim
    · exact F.elim
  · exact F.elim
def vC (d : D) : SemE := fun _ M => .ok (.t d) M
theorem de_c {e : Expr} {d : D} {v : V} (h : PE X e (tC v)) (hr : ∀ G, RF c G d v) : DE c X W e (vC d) :=
  peImp h fun σ H Q ⟨μ, G, Γ, M, R, _, F⟩ => F μ G v H Ext.refl R (hr G)
theorem de_int {i : Int} {j pos} : DE c X W (.Constant (.int i) j pos) (vC (.int i)) := de_c pe_int fun G => by rw [RF]
theorem de_bl {b : Bool} {j pos} : DE c X W (.Constant (.bool b) j pos) (vC (.bl b)) := de_c pe_bl fun G => by rw [RF]
theorem de_non {j pos} : DE c X W (.Constant .none j pos) (vC .non) := de_c pe_non fun G => by rw [RF]
theorem de_str {x : Str} {j pos} : DE c X W (.Constant (.str x) j pos) (vC (.str x)) := de_c pe_str fun G => by rw [RF]
theorem de_gint {x : Str} {i : Int} {pos} (hg : Gl X x) (hm : ∃ t, X.mg x = some (.int i t)) (hd : (x == ("__debug__" : Str)) = false := by decide) : DE c X W (.Name x pos) (vC (.int i)) := by
  obtain ⟨t, hm⟩ := hm
  exact de_c (v := .int i) (pe_glob hg hm ⟨t, rfl⟩ hd) fun G => by rw [RF]

/-! ### argument lists -/
def vNil : ES (List Wv) := fun _ M => .ok [] M
def vCons (f : SemE) (g : ES (List Wv)) : ES (List Wv) := fun Γ M => (f Γ M).bind fun r M1 => (g Γ M1).bind fun ws M2 => .ok (r.w :: ws) M2
theorem da_nil : DA c X W [] vNil := paImp pa_nil fun σ H Q ⟨μ, G, Γ, M, R, _, F⟩ => F μ G [] H Ext.refl R rfl
theorem da_cons {e : Expr} {es : List Expr} {f : SemE} {g : ES (List Wv)} (h1 : DE c X W e f) (h2 : DA c X W es g) (hs : starEach (e :: es) X.env = (false, eval e X.env) :: starEach es X.env := by rfl) : DA c X W (e :: es) (vCons f g) := by
  refine paImp (pa_cons h1 h2 hs) fun σ H Q h => ?_
  refine lift_bind (g := fun w Γ M1 => (g Γ M1).bind fun ws M2 => .ok (w :: ws) M2) h fun w x H1 h => ?_
  refine lift_bindA h fun as xs H2 μ G Γ M R ha hw F => ?_
  obtain ⟨v, r, e, wr, hr⟩ := hw
  obtain ⟨rfl, rfl⟩ := List.cons.inj e
  exact F μ G _ H2 Ext.refl R ⟨x, xs, rfl, wr, ha⟩

/-! ### operators by values -/
abbrev Op2 := Wv → Wv → Store → Res Rv
def OpOk (c : Vc) (W : WX) (r : R2) (op : Op2) : Prop := ∀ (σ : L2.St) (H : Hp) (Q : VK) (w1 w2 : Wv) (x y : V), liftG c W (rrE c) [w2, w1] [y, x] (fun _ M => op w1 w2 M) σ H Q → r x y H Q
def vOp (op : Op2) (f g : SemE) : SemE := fun Γ M => (f Γ M).bind fun r1 M1 => (g Γ M1).bind fun r2 M2 => op r1.w r2.w M2
theorem vOp_ok {r : R2} {op : Op2} {f g : SemE} (ho : OpOk c W r op) (σ : L2.St) (H : Hp) (Q : VK) (h : lift c W (vOp op f g) σ H Q) : tOp r (lift c W f) (lift c W g) σ H Q := by
  refine lift_bind (g := fun w Γ M1 => (g Γ M1).bind fun r2 M2 => op w r2.w M2) h fun w x H1 h => ?_
  refine lift_bind (g := fun w2 Γ M1 => op w w2 M1) h fun w2 y H2 h => ?_
  exact ho σ H2 Q w w2 x y h
theorem de_op {op : Operator} {r : R2} {o : Op2} {a b : Expr} {f g : SemE} {pos : Pos} (ho : OpR X (binaryOp op) r) (hk : OpOk c W r o) (ha : DE c X W a f) (hb : DE c X W b g) : DE c X W (.BinOp a op b pos) (vOp o f g) :=
  peImp (pe_op ho ha hb) fun σ H Q h => vOp_ok hk σ H Q h
theorem de_cmp {op : CmpOp} {r : R2} {o : Op2} {a b : Expr} {f g : SemE} {pos : Pos} (ho : OpR X (compareOp op) r) (hk : OpOk c W r o) (ha : DE c X W a f) (hb : DE c X W b g) (hm : behindInMarks op b = false) : DE c X W (.Compare a [op] [b] pos) (vOp o f g) :=
  peImp (pe_cmpR ho ha hb hm) fun σ H Q h => vOp_ok hk σ H Q h
/-- a test from a value that is a bool -/
def vTest (f : SemE) : ES Bool := fun Γ M => (f Γ M).bind fun r M1 => match r with
  | .t (.bl b) => .ok b M1
  | _ => .bad
theorem vTest_ok {f : SemE} {σ : L2.St} {H : Hp} {Q : Bool → Hp → Prop} (h : liftT c W (vTest f) σ H Q) : lift c W f σ H (fun x H' => ∃ k, x = .bl k ∧ Q k H') := by
  refine lift_bindR (g := fun r Γ M1 => match r with | .t (.bl b) => .ok b M1 | _ => .bad) h fun r x H1 μ G Γ M R q F => ?_
  cases r with
  | t d =>
    cases d with
    | bl b =>
      have e : x = .bl b := by
        have q' : RF c G (.bl b) x := q
        rw [RF] at q'; exact q'
      exact ⟨b, e, F μ G b H1 Ext.refl R rfl⟩
    | _ => exact F.elim
  | _ => exact F.elim
theorem dt_cmp {op : CmpOp} {r : R2} {o : Op2} {a b : Expr} {f g : SemE} {pos : Pos} (ho : OpR X (compareOp op) r) (hk : OpOk c W r o) (ha : DE c X W a f) (hb : DE c X W b g) (hm : behindInMarks op b = false) : DT c X W (.Compare a [op] [b] pos) (vTest (vOp o f g)) :=
  ptImp (pt_cmpR ho ha hb hm) fun σ H Q h => vOp_ok hk σ H _ (vTest_ok h)
theorem dt_val {e : Expr} {f : SemE} (h : DE c X W e f) (he : ∀ whole, isTrue e X.env whole = (do let v ← whole; standAt e.pos; holding [v] (truthy v)) := by intro _; rfl) : DT c X W e (vTest f) :=
  ptImp (pt_val h he) fun σ H Q h => vTest_ok h

/-- two ints -/
def oII (p : Int → Int → Bool) (g : Int → Int → D) : Op2 := fun w1 w2 M => match w1, w2 with
  | .t (.int i), .t (.int j) => if p i j then .ok (.t (g i j)) M else .bad
  | _, _ => .bad
theorem heldTwo {μ : Nat → Addr} {m : Nat} {G : Hp} {w1 w2 : Wv} {x y : V} (h : Held c μ m G [w2, w1] [y, x]) : WR c μ m G w1 x ∧ WR c μ m G w2 y := by
  obtain ⟨v, r, e, h1, v', r', e', h2, _⟩ := h
  obtain ⟨rfl, rfl⟩ := List.cons.inj e
  obtain ⟨rfl, _⟩ := List.cons.inj e'
  exact ⟨h2, h1⟩
theorem heldOne {μ : Nat → Addr} {m : Nat} {G : Hp} {w1 : Wv} {x : V} (h : Held c μ m G [w1] [x]) : WR c μ m G w1 x := by
  obtain ⟨v, r, e, h1, _⟩ := h
  obtain ⟨rfl, _⟩ := List.cons.inj e
  exact h1
theorem rf_int {G : Hp} {i : Int} {v : V} : RF c G (.int i) v ↔ v = .int i := by rw [RF]
theorem rf_bl {G : Hp} {b : Bool} {v : V} : RF c G (.bl b) v ↔ v = .bl b := by rw [RF]
theorem rf_non {G : Hp} {v : V} : RF c G .non v ↔ v = .non := by rw [RF]
theorem rf_str {G : Hp} {z : Str} {v : V} : RF c G (.str z) v ↔ v = .str z := by rw [RF]
theorem rf_lst {G : Hp} {xs : List D} {v : V} : RF c G (.lst xs) v ↔ ∃ a vs, v = .ref a ∧ G a = some (.lst vs) ∧ RFs c G xs vs := by rw [RF]
theorem rf_scr {G : Hp} {xs : List D} {v : V} : RF c G (.scr xs) v ↔ ∃ a vs, v = .ref a ∧ SqL c.K G a vs ∧ RFs c G xs vs := by rw [RF]
theorem rf_tup {G : Hp} {xs : List D} {v : V} : RF c G (.tup xs) v ↔ ∃ a vs, v = .ref a ∧ SqT c.K G a vs ∧ RFs c G xs vs := by rw [RF]
theorem rf_ins {G : Hp} {C : Nat} {ns : List Nat} {xs : List D} {v : V} : RF c G (.ins C ns xs) v ↔ ∃ a dx fs, v = .ref a ∧ G a = some (.ins (c.ρ C) dx fs) ∧ fs.map (·.1) = ns.map c.nm ∧ (∀ n ∈ ns, n < c.N) ∧ RFs c G xs (fs.map (·.2)) := by rw [RF]
theorem wr_t {μ : Nat → Addr} {m : Nat} {G : Hp} {d : D} {v : V} (h : WR c μ m G (.t d) v) : RF c G d v := h
theorem wr_int {μ : Nat → Addr} {m : Nat} {G : Hp} {i : Int} {v : V} (h : WR c μ m G (.t (.int i)) v) : v = .int i := rf_int.mp (wr_t h)
theorem wr_bl {μ : Nat → Addr} {m : Nat} {G : Hp} {i : Bool} {v : V} (h : WR c μ m G (.t (.bl i)) v) : v = .bl i := rf_bl.mp (wr_t h)
theorem wr_str {μ : Nat → Addr} {m : Nat} {G : Hp} {i : Str} {v : V} (h : WR c μ m G (.t (.str i)) v) : v = .str i := rf_str.mp (wr_t h)
theorem wr_non {μ : Nat → Addr} {m : Nat} {G : Hp} {v : V} (h : WR c μ m G (.t .non) v) : v = .non := rf_non.mp (wr_t h)
theorem opII_ok {r : R2} {p : Int → Int → Bool} {g : Int → Int → D} {gV : Int → Int → V} (hg : ∀ i j G, RF c G (g i j) (gV i j)) (hr : ∀ i j H Q, p i j = true → Q (gV i j) H → r (.int i) (.int j) H Q) : OpOk c W r (oII p g) := by
  rintro σ H Q w1 w2 x y ⟨μ, G, Γ, M, R, hd, F⟩
  obtain ⟨h1, h2⟩ := heldTwo hd
  unfold oII at F
  split at F
  · rename_i i j
    have e1 : x = .int i := wr_int h1
    have e2 : y = .int j := wr_int h2
    subst e1 e2
    split at F
    · rename_i hp
      exact hr i j H Q hp (F μ G _ H Ext.refl R (hg i j G))
    · exact F.elim
  · exact F.elim
def oAdd : Op2 := oII (fun _ _ => true) fun i j => .int (i + j)
def oSub : Op2 := oII (fun _ _ => true) fun i j => .int (i - j)
def oMod : Op2 := oII (fun _ j => decide (0 < j)) fun i j => .int (i % j)
def oLt : Op2 := oII (fun _ _ => true) fun i j => .bl (decide (i < j))
def oLe : Op2 := oII (fun _ _ => true) fun i j => .bl (decide (i ≤ j))
def oGt : Op2 := oII (fun _ _ => true) fun i j => .bl (decide (j < i))
def oGe : Op2 := oII (fun _ _ => true) fun i j => .bl (decide (j ≤ i))
theorem ok_add : OpOk c W (rI0 fun i j => .int (i + j)) oAdd := opII_ok (gV := fun i j => .int (i + j)) (fun _ _ _ => rf_int.mpr rfl) fun i j H Q _ q => ⟨i, j, rfl, rfl, q⟩
theorem ok_sub : OpOk c W (rI0 fun i j => .int (i - j)) oSub := opII_ok (gV := fun i j => .int (i - j)) (fun _ _ _ => rf_int.mpr rfl) fun i j H Q _ q => ⟨i, j, rfl, rfl, q⟩
theorem ok_mod : OpOk c W (rI (fun _ j => 0 < j) fun i j => .int (i % j)) oMod := opII_ok (gV := fun i j => .int (i % j)) (fun _ _ _ => rf_int.mpr rfl) fun i j H Q p q => ⟨i, j, rfl, rfl, of_decide_eq_true p, q⟩
theorem ok_lt : OpOk c W (rI0 fun i j => .bl (decide (i < j))) oLt := opII_ok (gV := fun i j => .bl (decide (i < j))) (fun _ _ _ => rf_bl.mpr rfl) fun i j H Q _ q => ⟨i, j, rfl, rfl, q⟩
theorem ok_le : OpOk c W (rI0 fun i j => .bl (decide (i ≤ j))) oLe := opII_ok (gV := fun i j => .bl (decide (i ≤ j))) (fun _ _ _ => rf_bl.mpr rfl) fun i j H Q _ q => ⟨i, j, rfl, rfl, q⟩
theorem ok_gt : OpOk c W (rI0 fun i j => .bl (decide (j < i))) oGt := opII_ok (gV := fun i j => .bl (decide (j < i))) (fun _ _ _ => rf_bl.mpr rfl) fun i j H Q _ q => ⟨i, j, rfl, rfl, q⟩
theorem ok_ge : OpOk c W (rI0 fun i j => .bl (decide (j ≤ i))) oGe := opII_ok (gV := fun i j => .bl (decide (j ≤ i))) (fun _ _ _ => rf_bl.mpr rfl) fun i j H Q _ q => ⟨i, j, rfl, rfl, q⟩
end
end VL

set_option Elab.async false
set_option linter.all false
set_option maxRecDepth 100000
set_option maxHeartbeats 200000
/-! VL3: further expressions. -/
namespace VL
open PySem PySem.Spec PyProof.Rows L2

/-- the plain data behind a value -/
def dr (M : Store) : Wv → Option D
  | .t d => some d
  | .l n => match M[n]? with
    | some x => x.d
    | none => none
@[simp] theorem dr_t (M : Store) (d : D) : dr M (.t d) = some d := rfl
section
variable {c : Vc} {μ : Nat → Addr} {G H : Hp} {Γ : VEnv} {M : Store} {σ : L2.St}
theorem Rel.drL (R : Rel c μ G Γ M σ H) {w : Wv} {v : V} {xs : List D} (hw : WR c μ M.length G w v) (h : dr M w = some (.lst xs)) : ∃ a vs, v = .ref a ∧ H a = some (.lst vs) ∧ RFs c G xs vs := by
  cases w with
  | t d =>
    cases h
    obtain ⟨a, vs, e, q, r⟩ := rf_lst.mp (wr_t hw)
    exact ⟨a, vs, e, R.gh _ _ q, r⟩
  | l n =>
    obtain ⟨hn, e⟩ := (show n < M.length ∧ v = .ref (μ n) from hw)
    unfold dr at h
    simp only at h
    split at h
    · rename_i x hx
      have hc := R.ce n x hx
      cases x with
      | dead => cases h
      | exn a' cls dd C fs => cases h
      | rng lo hi => cases h
      | opq t k as ds => cases h
      | lst ys =>
        cases h
        obtain ⟨_, vs, h1, h2⟩ := hc
        exact ⟨_, vs, e, h1, h2⟩
      | obj C fs =>
        simp only [Cel.d] at h
        split at h <;> cases h
    · cases h
theorem drN {n : Nat} {d : D} (h : dr M (.l n) = some d) : (∃ xs, d = .lst xs) ∨ ∃ C ns xs, d = .ins C ns xs := by
  unfold dr at h
  simp only at h
  split at h
  · rename_i x hx
    cases x with
    | dead => cases h
    | exn a' cls dd C fs => cases h
    | rng lo hi => cases h
    | opq t k as ds => cases h
    | lst ys => cases h; exact .inl ⟨_, rfl⟩
    | obj C fs =>
      simp only [Cel.d] at h
      split at h
      · cases h; exact .inr ⟨_, _, _, rfl⟩
      · cases h
  · cases h
theorem Rel.drR (R : Rel c μ G Γ M σ H) {w : Wv} {v : V} {xs : List D} (hw : WR c μ M.length G w v) (h : dr M w = some (.scr xs)) : ∃ a vs, v = .ref a ∧ SqL c.K H a vs ∧ RFs c G xs vs := by
  cases w with
  | t d =>
    cases h
    obtain ⟨a, vs, e, q, r⟩ := rf_scr.mp (wr_t hw)
    exact ⟨a, vs, e, R.gh.seq q, r⟩
  | l n => rcases drN h with ⟨_, e⟩ | ⟨_, _, _, e⟩ <;> cases e
theorem Rel.drT (R : Rel c μ G Γ M σ H) {w : Wv} {v : V} {xs : List D} (hw : WR c μ M.length G w v) (h : dr M w = some (.tup xs)) : ∃ a vs, v = .ref a ∧ SqT c.K H a vs ∧ RFs c G xs vs := by
  cases w with
  | t d =>
    cases h
    obtain ⟨a, vs, e, q, r⟩ := rf_tup.mp (wr_t hw)
    exact ⟨a, vs, e, seqT_mono R.gh q, r⟩
  | l n =>
    unfold dr at h
    simp only at h
    split at h
    · rename_i x hx
      cases x with
      | dead => cases h
      | exn a' cls dd C fs => cases h
      | rng lo hi => cases h
      | opq t k as ds => cases h
      | lst ys => cases h
      | obj C fs =>
        simp only [Cel.d] at h
        split at h <;> cases h
    · cases h
theorem drI {w : Wv} {i : Int} (h : dr M w = some (.int i)) : w = .t (.int i) := by
  cases w with
  | t d => cases h; rfl
  | l n => rcases drN h with ⟨_, e⟩ | ⟨_, _, _, e⟩ <;> cases e
/-- a new list as a result -/
theorem finL {W : WX} {Q : VK} {xs : List D} {vs : List V} {p : Addr} (R : Rel c μ G Γ M σ H) (F : FinG c W σ Γ (rrE c) μ G M.length Q (.ok (.f (.lst xs)) M)) (r : RFs c G xs vs) (hp : H p = none) : Q (.ref p) (upd H p (.lst vs)) := by
  obtain ⟨R', gp, nl⟩ := R.layF (o := .lst vs) hp
  exact F μ G _ _ Ext.refl R' ⟨p, rfl, gp, nl, vs, upd_same, r⟩
/-- a new tuple as a result -/
theorem finT {W : WX} {Q : VK} {xs : List D} {vs : List V} {p : Addr} (R : Rel c μ G Γ M σ H) (F : FinG c W σ Γ (rrE c) μ G M.length Q (.ok (.t (.tup xs)) M)) (r : RFs c G xs vs) (hp : H p = none) : Q (.ref p) (upd H p (.tup vs)) := by
  obtain ⟨R', s⟩ := R.lay (o := .tup vs) hp
  refine F μ _ _ _ ⟨s, fun _ _ => rfl, Nat.le_refl _⟩ R' ?_
  exact rf_tup.mpr ⟨p, vs, rfl, SqT.of upd_same, RFs.mono s xs r⟩
end

section
variable {c : Vc} {μ : Nat → Addr} {G H : Hp} {M : Store}
theorem rr_t {d : D} {v : V} (h : RR c μ M G H (.t d) v) : RF c G d v := h
theorem rr_int {i : Int} {v : V} (h : RR c μ M G H (.t (.int i)) v) : v = .int i := rf_int.mp (rr_t h)
theorem rr_bl {i : Bool} {v : V} (h : RR c μ M G H (.t (.bl i)) v) : v = .bl i := rf_bl.mp (rr_t h)
theorem rr_str {i : Str} {v : V} (h : RR c μ M G H (.t (.str i)) v) : v = .str i := rf_str.mp (rr_t h)
theorem mk_int {i : Int} : RR c μ M G H (.t (.int i)) (.int i) := (show RF c G (.int i) (.int i) from rf_int.mpr rfl)
theorem mk_bl {i : Bool} : RR c μ M G H (.t (.bl i)) (.bl i) := (show RF c G (.bl i) (.bl i) from rf_bl.mpr rfl)
theorem mk_non : RR c μ M G H (.t .non) .non := (show RF c G .non .non from rf_non.mpr rfl)
theorem mk_str {i : Str} : RR c μ M G H (.t (.str i)) (.str i) := (show RF c G (.str i) (.str i) from rf_str.mpr rfl)
end
section
variable {c : Vc} {X : Cx} {W : WX}
/-! ### displays -/
def tds : List Wv → Option (List D)
  | [] => some []
  | .t d :: r => (tds r).map (d :: ·)
  | .l _ :: _ => none
theorem held_tds {μ : Nat → Addr} {m : Nat} {G : Hp} : ∀ {ws : List Wv} {vs : List V} {ds : List D}, Held c μ m G ws vs → tds ws = some ds → RFs c G ds vs
  | [], vs, ds, h, e => by
    cases e
    cases (show vs = [] from h)
    exact RFs.nil
  | .t d :: r, vs, ds, h, e => by
    obtain ⟨v, s, q, h1, h2⟩ := h
    rw [tds, Option.map_eq_some_iff] at e
    obtain ⟨es, e1, e2⟩ := e
    subst e2 q
    exact RFs.cons h1 (held_tds h2 e1)
  | .l n :: r, vs, ds, h, e => by cases e
def kTup (ws : List Wv) (M1 : Store) : Res Rv := match tds ws with
  | some ds => if ds.length ≤ 16777216 then .ok (.t (.tup ds)) M1 else .bad
  | none => .bad
def kLst (ws : List Wv) (M1 : Store) : Res Rv := match tds ws with
  | some ds => if ds.length ≤ 16777216 then .ok (.f (.lst ds)) M1 else .bad
  | none => .bad
def vTup (g : ES (List Wv)) : SemE := fun Γ M => (g Γ M).bind kTup
def vLst (g : ES (List Wv)) : SemE := fun Γ M => (g Γ M).bind kLst
theorem line_eq : (sizeLine : Nat) = 16777216 := sizeLine_eq
theorem de_tup {es : List Expr} {g : ES (List Wv)} {x1} {pos : Pos} (h : DA c X W es g) : DE c X W (.Tuple es x1 pos) (vTup g) := by
  refine peImp (pe_tup h) fun σ H Q h => ?_
  refine lift_bindA (g := fun ws Γ M1 => kTup ws M1) h fun as xs H1 μ G Γ M R ha _ F => ?_
  dsimp only [kTup] at F
  split at F
  · rename_i ds e
    split at F
    · rename_i hl
      have r := held_tds ha e
      exact ⟨by rw [r.length, line_eq]; exact hl, fun p hp => finT R F r hp⟩
    · exact F.elim
  · exact F.elim
theorem de_lst {es : List Expr} {g : ES (List Wv)} {pos : Pos} (h : DA c X W es g) : DE c X W (.List es pos) (vLst g) := by
  refine peImp (pe_lst h) fun σ H Q h => ?_
  refine lift_bindA (g := fun ws Γ M1 => kLst ws M1) h fun as xs H1 μ G Γ M R ha _ F => ?_
  dsimp only [kLst] at F
  split at F
  · rename_i ds e
    split at F
    · rename_i hl
      have r := held_tds ha e
      exact ⟨by rw [r.length, line_eq]; exact hl, fun p hp => finL R F r hp⟩
    · exact F.elim
  · exact F.elim

/-! ### numbers -/
def oFdiv : Op2 := oII (fun _ j => decide (0 < j) && decide (j.natAbs.log2 < 9000)) fun i j => .int (i / j)
def oMul : Op2 := oII (fun i j => decide (i.natAbs.log2 + j.natAbs.log2 < 1000000)) fun i j => .int (i * j)
def oPow : Op2 := oII (fun i j => decide (0 ≤ j) && decide (j ≤ 1000000) && decide (i.natAbs < 2 ^ 64)) fun i j => .int (i ^ j.toNat)
theorem ok_fdiv : OpOk c W (rI CDivW fun i j => .int (i / j)) oFdiv := opII_ok (gV := fun i j => .int (i / j)) (fun _ _ _ => rf_int.mpr rfl) fun i j H Q p q => by
  rw [Bool.and_eq_true] at p
  exact ⟨i, j, rfl, rfl, ⟨of_decide_eq_true p.1, of_decide_eq_true p.2⟩, q⟩
theorem ok_mul : OpOk c W (rI CMulW fun i j => .int (i * j)) oMul := opII_ok (gV := fun i j => .int (i * j)) (fun _ _ _ => rf_int.mpr rfl) fun i j H Q p q => ⟨i, j, rfl, rfl, (show i.natAbs.log2 + j.natAbs.log2 < 1000000 from of_decide_eq_true p), q⟩
theorem ok_pow : OpOk c W (rI CPow fun i j => .int (i ^ j.toNat)) oPow := opII_ok (gV := fun i j => .int (i ^ j.toNat)) (fun _ _ _ => rf_int.mpr rfl) fun i j H Q p q => by
  rw [Bool.and_eq_true, Bool.and_eq_true] at p
  exact ⟨i, j, rfl, rfl, ⟨of_decide_eq_true p.1.1, of_decide_eq_true p.1.2, of_decide_eq_true p.2⟩, q⟩
def kNeg (r : Rv) (M1 : Store) : Res Rv := match r with
  | .t (.int i) => .ok (.t (.int (-i))) M1
  | _ => .bad
def vNeg (f : SemE) : SemE := fun Γ M => (f Γ M).bind kNeg
theorem de_neg {e : Expr} {f : SemE} {pos : Pos} (h : DE c X W e f) : DE c X W (.UnaryOp .USub e pos) (vNeg f) := by
  refine peImp (pe_un un_neg h) fun σ H Q h => ?_
  refine lift_bindR (g := fun r _ M1 => kNeg r M1) h fun r x H1 μ G Γ M R q F => ?_
  dsimp only [kNeg] at F
  split at F
  · rename_i i
    have e : x = .int i := rr_int q
    exact ⟨i, e, F μ G _ H1 Ext.refl R mk_int⟩
  · exact F.elim

/-! ### tests -/
def vNot (f : ES Bool) : ES Bool := fun Γ M => (f Γ M).bind fun b M1 => .ok (!b) M1
def kAnd (g : ES Bool) (b : Bool) (Γ : VEnv) (M1 : Store) : Res Bool := match b with
  | true => g Γ M1
  | false => .ok false M1
def kOr (g : ES Bool) (b : Bool) (Γ : VEnv) (M1 : Store) : Res Bool := match b with
  | true => .ok true M1
  | false => g Γ M1
def vAnd (f g : ES Bool) : ES Bool := fun Γ M => (f Γ M).bind fun b M1 => kAnd g b Γ M1
def vOr (f g : ES Bool) : ES Bool := fun Γ M => (f Γ M).bind fun b M1 => kOr g b Γ M1
abbrev DW (c : Vc) (X : Cx) (W : WX) (e : Expr) (f : ES Bool) : Prop := PW X e (liftT c W f)
theorem pwImp {e : Expr} {t t' : TT} (h : PW X e t) (i : ∀ σ H Q, t' σ H Q → t σ H Q) : PW X e t' := ⟨fun wh pins s σ H Q I q => h.run wh pins s σ H Q I (i _ _ _ q)⟩
theorem dt_w {e : Expr} {f : ES Bool} (h : DW c X W e f) : DT c X W e f := h.pt
theorem dt_not {e : Expr} {f : ES Bool} {pos : Pos} (h : DT c X W e f) : DT c X W (.UnaryOp .Not e pos) (vNot f) :=
  ptImp (pt_not h) fun σ H Q h => lift_bindT (g := fun b Γ M1 => .ok (!b) M1) h fun b H1 ⟨μ, G, Γ, M, R, _, F⟩ => F μ G _ H1 Ext.refl R rfl
theorem dw_and1 {e : Expr} {f : ES Bool} {pos : Pos} (h : DT c X W e f) : DW c X W (.BoolOp .And [e] pos) f := pw_and1 h
theorem dw_or1 {e : Expr} {f : ES Bool} {pos : Pos} (h : DT c X W e f) : DW c X W (.BoolOp .Or [e] pos) f := pw_or1 h
theorem dw_and {a b : Expr} {rest : List Expr} {f g : ES Bool} {pos : Pos} (ha : DT c X W a f) (hb : DW c X W (.BoolOp .And (b :: rest) pos) g) : DW c X W (.BoolOp .And (a :: b :: rest) pos) (vAnd f g) :=
  pwImp (pw_and ha hb) fun σ H Q h => lift_bindT (g := kAnd g) h fun b H1 h => by
    cases b with
    | true => exact h
    | false =>
      obtain ⟨μ, G, Γ, M, R, _, F⟩ := h
      exact F μ G _ H1 Ext.refl R rfl
theorem dw_or {a b : Expr} {rest : List Expr} {f g : ES Bool} {pos : Pos} (ha : DT c X W a f) (hb : DW c X W (.BoolOp .Or (b :: rest) pos) g) : DW c X W (.BoolOp .Or (a :: b :: rest) pos) (vOr f g) :=
  pwImp (pw_or ha hb) fun σ H Q h => lift_bindT (g := kOr g) h fun b H1 h => by
    cases b with
    | true =>
      obtain ⟨μ, G, Γ, M, R, _, F⟩ := h
      exact F μ G _ H1 Ext.refl R rfl
    | false => exact h
/-- a chain of two comparisons -/
def vChain (o o' : Op2) (f g h : SemE) : SemE := fun Γ M => (f Γ M).bind fun r1 M1 => (g Γ M1).bind fun r2 M2 => (o r1.w r2.w M2).bind fun r M3 => match r with
  | .t (.bl true) => (h Γ M3).bind fun r3 M4 => o' r2.w r3.w M4
  | .t (.bl false) => .ok (.t (.bl false)) M3
  | _ => .bad
/-! a test's values as a value -/
def kIf (f g : SemE) (b : Bool) (Γ : VEnv) (M1 : Store) : Res Rv := match b with
  | true => f Γ M1
  | false => g Γ M1
def vIf (t : ES Bool) (f g : SemE) : SemE := fun Γ M => (t Γ M).bind fun b M1 => kIf f g b Γ M1
theorem de_if {t a b : Expr} {ft : ES Bool} {f g : SemE} {pos : Pos} (ht : DT c X W t ft) (ha : DE c X W a f) (hb : DE c X W b g) : DE c X W (.IfExp t a b pos) (vIf ft f g) :=
  peImp (pe_ifExp ht ha hb) fun σ H Q h => lift_bindT (g := kIf f g) h fun b H1 h => by
    cases b with
    | true => exact iteT h
    | false => exact iteF h
/-- and, or of bools as values -/
def kAndV (g : SemE) (r : Rv) (Γ : VEnv) (M1 : Store) : Res Rv := match r with
  | .t (.bl true) => g Γ M1
  | .t (.bl false) => .ok (.t (.bl false)) M1
  | _ => .bad
def kOrV (g : SemE) (r : Rv) (Γ : VEnv) (M1 : Store) : Res Rv := match r with
  | .t (.bl true) => .ok (.t (.bl true)) M1
  | .t (.bl false) => g Γ M1
  | _ => .bad
def vAndV (f g : SemE) : SemE := fun Γ M => (f Γ M).bind fun r M1 => kAndV g r Γ M1
def vOrV (f g : SemE) : SemE := fun Γ M => (f Γ M).bind fun r M1 => kOrV g r Γ M1
def kNotV (r : Rv) (M1 : Store) : Res Rv := match r with
  | .t (.bl b) => .ok (.t (.bl (!b))) M1
  | _ => .bad
def vNotV (f : SemE) : SemE := fun Γ M => (f Γ M).bind kNotV
theorem de_one {op : BoolOp} {e : Expr} {f : SemE} {pos : Pos} (h : DE c X W e f) : DE c X W (.BoolOp op [e] pos) f := pe_one h
theorem de_and {a b : Expr} {rest : List Expr} {f g : SemE} {pos : Pos} (ha : DE c X W a f) (hb : DE c X W (.BoolOp .And (b :: rest) pos) g) : DE c X W (.BoolOp .And (a :: b :: rest) pos) (vAndV f g) := by
  refine peImp (pe_and ha hb) fun σ H Q h => ?_
  refine lift_bindR (g := kAndV g) h fun r x H1 μ G Γ M R q F => ?_
  dsimp only [kAndV] at F
  split at F
  · exact ⟨true, rr_bl q, iteT ⟨μ, G, Γ, M, R, rfl, F⟩⟩
  · exact ⟨false, rr_bl q, iteF (F μ G _ H1 Ext.refl R mk_bl)⟩
  · exact F.elim
theorem de_or {a b : Expr} {rest : List Expr} {f g : SemE} {pos : Pos} (ha : DE c X W a f) (hb : DE c X W (.BoolOp .Or (b :: rest) pos) g) : DE c X W (.BoolOp .Or (a :: b :: rest) pos) (vOrV f g) := by
  refine peImp (pe_or ha hb) fun σ H Q h => ?_
  refine lift_bindR (g := kOrV g) h fun r x H1 μ G Γ M R q F => ?_
  dsimp only [kOrV] at F
  split at F
  · exact ⟨true, rr_bl q, iteT (F μ G _ H1 Ext.refl R mk_bl)⟩
  · exact ⟨false, rr_bl q, iteF ⟨μ, G, Γ, M, R, rfl, F⟩⟩
  · exact F.elim
theorem de_not {a : Expr} {f : SemE} {pos : Pos} (ha : DE c X W a f) : DE c X W (.UnaryOp .Not a pos) (vNotV f) := by
  refine peImp (pe_not ha) fun σ H Q h => ?_
  refine lift_bindR (g := fun r _ M1 => kNotV r M1) h fun r x H1 μ G Γ M R q F => ?_
  dsimp only [kNotV] at F
  split at F
  · rename_i b
    exact ⟨b, rr_bl q, F μ G _ H1 Ext.refl R mk_bl⟩
  · exact F.elim
/-- x is None -/
def isNon : Rv → Bool
  | .t .non => true
  | _ => false
def kIsN (r : Rv) (M1 : Store) : Res Rv := .ok (.t (.bl (isNon r))) M1
def kNotN (r : Rv) (M1 : Store) : Res Rv := .ok (.t (.bl (!isNon r))) M1
def vIsN (f : SemE) : SemE := fun Γ M => (f Γ M).bind kIsN
def vNotN (f : SemE) : SemE := fun Γ M => (f Γ M).bind kNotN
theorem rr_non {μ : Nat → Addr} {M : Store} {G H : Hp} {r : Rv} {v : V} (h : RR c μ M G H r v) : decide (v = .non) = isNon r := by
  cases r with
  | l n =>
    obtain ⟨_, e⟩ := (show n < M.length ∧ v = .ref (μ n) from h)
    subst e
    rfl
  | f d =>
    obtain ⟨a, e, _⟩ := h
    subst e
    rfl
  | t d =>
    have q : RF c G d v := h
    clear h
    cases d with
    | non => rw [rf_non.mp q]; rfl
    | bl b => rw [rf_bl.mp q]; rfl
    | int b => rw [rf_int.mp q]; rfl
    | str b => rw [rf_str.mp q]; rfl
    | lst xs => obtain ⟨a, vs, e, _⟩ := rf_lst.mp q; rw [e]; rfl
    | scr xs => obtain ⟨a, vs, e, _⟩ := rf_scr.mp q; rw [e]; rfl
    | tup xs => obtain ⟨a, vs, e, _⟩ := rf_tup.mp q; rw [e]; rfl
    | ins C ns xs => obtain ⟨a, dx, fs, e, _⟩ := rf_ins.mp q; rw [e]; rfl
theorem de_isN {a : Expr} {f : SemE} {pos : Pos} {j pos'} (ha : DE c X W a f) : DE c X W (.Compare a [.Is] [.Constant .none j pos'] pos) (vIsN f) := by
  refine peImp (pe_cmp (pc_isN ha)) fun σ H Q h => ?_
  refine lift_bindR (g := fun r _ M1 => kIsN r M1) h fun r x H1 μ G Γ M R q F => ?_
  rw [rr_non q]
  exact F μ G _ H1 Ext.refl R mk_bl
theorem de_notN {a : Expr} {f : SemE} {pos : Pos} {j pos'} (ha : DE c X W a f) : DE c X W (.Compare a [.IsNot] [.Constant .none j pos'] pos) (vNotN f) := by
  refine peImp (pe_cmp (pc_notN ha)) fun σ H Q h => ?_
  refine lift_bindR (g := fun r _ M1 => kNotN r M1) h fun r x H1 μ G Γ M R q F => ?_
  rw [rr_non q]
  exact F μ G _ H1 Ext.refl R mk_bl

/-! ### == at any depth -/
mutual
def D.py : D → PyData
  | .non => .none
  | .bl b => .bool b
  | .int i => .int i
  | .str x => .str x
  | .lst xs => .list (pys xs)
  | .scr xs => .list (pys xs)
  | .tup xs => .tuple (pys xs)
  | .ins _ _ _ => .dict []
def pys : List D → List PyData
  | [] => []
  | d :: ds => d.py :: pys ds
end
mutual
theorem dp_of {G H : Hp} (s : Same G H) : ∀ (d : D) {v : V}, SeqAt.shaped d.py = true ∨ d.py.canLay0 = true → RF c G d v → Dp c.K H v d.py
  | .non, v, _, h => by rw [rf_non.mp h, D.py]; exact .non
  | .bl b, v, _, h => by rw [rf_bl.mp h, D.py]; exact .bl b
  | .int b, v, _, h => by rw [rf_int.mp h, D.py]; exact .int b
  | .str b, v, _, h => by rw [rf_str.mp h, D.py]; exact .str b
  | .lst xs, v, k, h => by
    obtain ⟨a, vs, e, q, r⟩ := rf_lst.mp h
    rw [e, D.py]
    rw [D.py] at k
    have k' : PyData.canLayAll0 (pys xs) = true := by
      rcases k with k | k
      · have := SeqAt.canLay_of_shaped k
        simpa only [PyData.canLay0] using this
      · simpa only [PyData.canLay0] using k
    exact .lst (SqL.of (s _ _ q)) (dps_of s xs k' r)
  | .scr xs, v, k, h => by
    obtain ⟨a, vs, e, q, r⟩ := rf_scr.mp h
    rw [e, D.py]
    rw [D.py] at k
    have k' : PyData.canLayAll0 (pys xs) = true := by
      rcases k with k | k
      · have := SeqAt.canLay_of_shaped k
        simpa only [PyData.canLay0] using this
      · simpa only [PyData.canLay0] using k
    exact .lst (s.seq q) (dps_of s xs k' r)
  | .tup xs, v, k, h => by
    obtain ⟨a, vs, e, q, r⟩ := rf_tup.mp h
    rw [e, D.py]
    rw [D.py] at k
    have k' : PyData.canLayAll0 (pys xs) = true := by
      rcases k with k | k
      · have := SeqAt.canLay_of_shaped k
        simpa only [PyData.canLay0] using this
      · simpa only [PyData.canLay0] using k
    exact .tup (seqT_mono s q) (dps_of s xs k' r)
  | .ins C ns xs, v, k, h => by
    rw [D.py] at k
    rcases k with k | k
    · have := SeqAt.canLay_of_shaped k
      simp [PyData.canLay0] at this
    · simp [PyData.canLay0] at k
theorem dps_of {G H : Hp} (s : Same G H) : ∀ (ds : List D) {vs : List V}, PyData.canLayAll0 (pys ds) = true → RFs c G ds vs → DpAll c.K H vs (pys ds)
  | [], vs, _, h => by rw [RFs] at h; rw [h, pys]; exact .nil
  | d :: ds, vs, k, h => by
    rw [RFs] at h
    obtain ⟨v, r, e, h1, h2⟩ := h
    rw [pys] at k
    simp only [PyData.canLayAll0, Bool.and_eq_true] at k
    rw [e, pys]
    exact .cons (dp_of s d (.inr k.1) h1) (dps_of s ds k.2 h2)
end
theorem Rel.dp {μ : Nat → Addr} {G H : Hp} {Γ : VEnv} {M : Store} {σ : L2.St} (R : Rel c μ G Γ M σ H) {w : Wv} {v : V} {d : D} (hw : WR c μ M.length G w v) (h : dr M w = some d) (k : SeqAt.shaped d.py = true) : Dp c.K H v d.py := by
  cases w with
  | t e =>
    cases h
    exact dp_of R.gh d (.inl k) (wr_t hw)
  | l n =>
    rcases drN h with ⟨xs, e⟩ | ⟨C, ns, xs, e⟩
    · subst e
      obtain ⟨a, vs, e, q, r⟩ := R.drL hw h
      rw [e, D.py]
      have := SeqAt.canLay_of_shaped k
      rw [D.py] at this
      exact .lst (SqL.of q) (dps_of R.gh xs (by simpa only [PyData.canLay0] using this) r)
    · subst e
      have := SeqAt.canLay_of_shaped k
      rw [D.py] at this
      simp [PyData.canLay0] at this
def oEq : Op2 := fun w1 w2 M => match dr M w1, dr M w2 with
  | some d, some e => if SeqAt.shaped d.py && SeqAt.shaped e.py then .ok (.t (.bl (d.py.eqv e.py))) M else .bad
  | _, _ => .bad
def oNe : Op2 := fun w1 w2 M => match dr M w1, dr M w2 with
  | some d, some e => if SeqAt.shaped d.py && SeqAt.shaped e.py then .ok (.t (.bl (!d.py.eqv e.py))) M else .bad
  | _, _ => .bad
theorem ok_eq : OpOk c W (rEqD c.K) oEq := by
  rintro σ H Q w1 w2 x y ⟨μ, G, Γ, M, R, hd, F⟩
  obtain ⟨h1, h2⟩ := heldTwo hd
  dsimp only [oEq] at F
  split at F
  · rename_i d e q1 q2
    split at F
    · rename_i hs
      rw [Bool.and_eq_true] at hs
      exact ⟨d.py, e.py, R.dp h1 q1 hs.1, R.dp h2 q2 hs.2, hs.1, hs.2, F μ G _ H Ext.refl R mk_bl⟩
    · exact F.elim
  · exact F.elim
theorem ok_ne : OpOk c W (rNeD c.K) oNe := by
  rintro σ H Q w1 w2 x y ⟨μ, G, Γ, M, R, hd, F⟩
  obtain ⟨h1, h2⟩ := heldTwo hd
  dsimp only [oNe] at F
  split at F
  · rename_i d e q1 q2
    split at F
    · rename_i hs
      rw [Bool.and_eq_true] at hs
      exact ⟨d.py, e.py, R.dp h1 q1 hs.1, R.dp h2 q2 hs.2, hs.1, hs.2, F μ G _ H Ext.refl R mk_bl⟩
    · exact F.elim
  · exact F.elim
end
end VL

set_option Elab.async false
set_option linter.all false
set_option maxRecDepth 100000
set_option maxHeartbeats 200000
/-! VL4: lists, tuples, built-in functions. -/
namespace VL
open PySem PySem.Spec PyProof.Rows L2

def seqOf : D → Option (List D)
  | .lst xs => some xs
  | .scr xs => some xs
  | .tup xs => some xs
  | _ => none
@[simp] theorem seqOf_lst (xs : List D) : seqOf (.lst xs) = some xs := rfl
@[simp] theorem seqOf_scr (xs : List D) : seqOf (.scr xs) = some xs := rfl
@[simp] theorem seqOf_tup (xs : List D) : seqOf (.tup xs) = some xs := rfl
/-- the items of a list or a tuple -/
def drS (M : Store) (w : Wv) : Option (List D) := (dr M w).bind seqOf
section
variable {c : Vc} {μ : Nat → Addr} {G H : Hp} {Γ : VEnv} {M : Store} {σ : L2.St}
theorem Rel.drS (R : Rel c μ G Γ M σ H) {w : Wv} {v : V} {xs : List D} (hw : WR c μ M.length G w v) (h : drS M w = some xs) : ∃ a vs, v = .ref a ∧ (SqL c.K H a vs ∨ SqT c.K H a vs) ∧ RFs c G xs vs := by
  unfold VL.drS at h
  cases e : dr M w with
  | none => rw [e] at h; cases h
  | some d =>
    rw [e] at h
    cases d with
    | lst ys =>
      cases h
      obtain ⟨a, vs, e1, q, r⟩ := R.drL hw e
      exact ⟨a, vs, e1, .inl (SqL.of q), r⟩
    | scr ys =>
      cases h
      obtain ⟨a, vs, e1, q, r⟩ := R.drR hw e
      exact ⟨a, vs, e1, .inl q, r⟩
    | tup ys =>
      cases h
      obtain ⟨a, vs, e1, q, r⟩ := R.drT hw e
      exact ⟨a, vs, e1, .inr q, r⟩
    | _ => cases h
theorem ixN_some {n : Nat} {i : Int} {j : Nat} (h : ixN n i = some j) : j < n := (ixN_seq h).2.1
theorem RFs.atI {ds : List D} {vs : List V} {i : Int} {d : D} (h : RFs c G ds vs) (e : atI ds i = some d) : ∃ v, L2.atI vs i = some v ∧ RF c G d v := by
  unfold L2.atI at e ⊢
  rw [h.length]
  cases q : ixN ds.length i with
  | none => rw [q] at e; cases e
  | some j =>
    rw [q] at e
    obtain ⟨v, e1, e2⟩ := h.get (i := j) (d := d) e
    exact ⟨v, e1, e2⟩
end
/-- a cut of data -/
def cutD (xs : List D) (lo hi : Option Int) : List D := (xs.drop (HT.sIx xs.length 0 lo)).take (HT.sIx xs.length xs.length hi - HT.sIx xs.length 0 lo)
theorem RFs.cut {c : Vc} {G : Hp} {ds : List D} {vs : List V} (h : RFs c G ds vs) (lo hi : Option Int) : RFs c G (cutD ds lo hi) (cutV vs lo hi) := by
  unfold cutD cutV
  rw [h.length]
  exact (h.drop _).take _

section
variable {c : Vc} {X : Cx} {W : WX}
/-! ### items, cuts -/
def oIx : Op2 := fun w1 w2 M => match VL.drS M w1, w2 with
  | some xs, .t (.int i) => (match L2.atI xs i with
    | some d => .ok (.t d) M
    | none => .bad)
  | _, _ => .bad
theorem ok_ix : OpOk c W (rIx c.K) oIx := by
  rintro σ H Q w1 w2 x y ⟨μ, G, Γ, M, R, hd, F⟩
  obtain ⟨h1, h2⟩ := heldTwo hd
  dsimp only [oIx] at F
  split at F
  · rename_i xs i e
    split at F
    · rename_i d ed
      obtain ⟨a, vs, ev, q, r⟩ := R.drS h1 e
      obtain ⟨v, e1, e2⟩ := r.atI ed
      have ey : y = .int i := wr_int h2
      have fin : Q v H := F μ G v H Ext.refl R e2
      rcases q with q | q
      · exact .inl ⟨a, vs, i, v, ev, ey, q, e1, fin⟩
      · exact .inr (.inl ⟨a, vs, i, v, ev, ey, q, e1, fin⟩)
    · exact F.elim
  · exact F.elim
theorem de_ix {a b : Expr} {f g : SemE} {pos : Pos} (hK : c.K = X.K) (ha : DE c X W a f) (hb : DE c X W b g) (hs : PlainIx b) : DE c X W (.Subscript a b pos) (vOp oIx f g) := by
  refine peImp (pe_ix ix_seq ha hb hs) fun σ H Q h => ?_
  rw [← hK]
  exact vOp_ok ok_ix σ H Q h

/-- an optional bound -/
abbrev liftO (c : Vc) (W : WX) (f : ES (Option Int)) : TO := liftG c W (fun _ _ _ _ (a b : Option Int) => a = b) [] [] f
abbrev DOp (c : Vc) (X : Cx) (W : WX) (e : Option Expr) (f : ES (Option Int)) : Prop := PO X e (liftO c W f)
theorem poImp {e : Option Expr} {t t' : TO} (h : PO X e t) (i : ∀ σ H Q, t' σ H Q → t σ H Q) : PO X e t' := ⟨fun pins s σ H Q I q => h.run pins s σ H Q I (i _ _ _ q)⟩
def vNoPart : ES (Option Int) := fun _ M => .ok none M
def kPart (r : Rv) (M : Store) : Res (Option Int) := match r with
  | .t (.int i) => .ok (some i) M
  | _ => .bad
def vPart (f : SemE) : ES (Option Int) := fun Γ M => (f Γ M).bind kPart
theorem do_none : DOp c X W none vNoPart := poImp po_none fun σ H Q ⟨μ, G, Γ, M, R, _, F⟩ => F μ G _ H Ext.refl R rfl
theorem do_some {e : Expr} {f : SemE} (h : DE c X W e f) : DOp c X W (some e) (vPart f) :=
  poImp (po_some h) fun σ H Q h => lift_bindR (g := fun r _ M1 => kPart r M1) h fun r x H1 μ G Γ M R q F => by
    dsimp only [kPart] at F
    split at F
    · rename_i i
      exact ⟨i, rr_int q, F μ G _ H1 Ext.refl R rfl⟩
    · exact F.elim
/-- .. composed -/
theorem lift_bindO {α β : Type} {rr : (Nat → Addr) → Store → Hp → Hp → α → β → Prop} {f : ES (Option Int)} {g : Option Int → ES α} {ws : List Wv} {vs : List V} {σ : L2.St} {H : Hp} {Q : β → Hp → Prop} {P : Option Int → Hp → Prop}
    (h : liftG c W rr ws vs (fun Γ M => (f Γ M).bind fun r M1 => g r Γ M1) σ H Q) (k : ∀ b H1, liftG c W rr ws vs (g b) σ H1 Q → P b H1) : liftO c W f σ H P := by
  obtain ⟨μ, G, Γ, M, R, hd, F⟩ := h
  refine ⟨μ, G, Γ, M, R, rfl, ?_⟩
  cases e : f Γ M with
  | ok r M1 =>
    dsimp only at F
    rw [e] at F
    intro μ' G' v H' ex R1 q
    cases q
    exact k r H' ⟨μ', G', Γ, M1, R1, hd.ext ex, FinG.ext ex F⟩
  | exc C fs M1 =>
    dsimp only at F
    rw [e] at F
    exact F
  | bad =>
    dsimp only at F
    rw [e] at F
    exact F
def kCut (w : Wv) (lo hi : Option Int) (M : Store) : Res Rv := match dr M w with
  | some (.lst xs) => .ok (.f (.lst (cutD xs lo hi))) M
  | some (.scr xs) => .ok (.f (.lst (cutD xs lo hi))) M
  | some (.tup xs) => .ok (.t (.tup (cutD xs lo hi))) M
  | _ => .bad
def vCut (f : SemE) (l h : ES (Option Int)) : SemE := fun Γ M => (f Γ M).bind fun r M1 => (l Γ M1).bind fun lo M2 => (h Γ M2).bind fun hi M3 => kCut r.w lo hi M3
theorem de_cut {e : Expr} {lo hi : Option Expr} {f : SemE} {l h : ES (Option Int)} {pos p2 : Pos} (hK : c.K = X.K) (he : DE c X W e f) (hl : DOp c X W lo l) (hh : DOp c X W hi h) : DE c X W (.Subscript e (.Slice lo hi none p2) pos) (vCut f l h) := by
  refine peImp (pe_slice (sl_list.or sl_tupA) he hl hh) fun σ H Q h' => ?_
  refine lift_bind (g := fun w Γ M1 => (l Γ M1).bind fun lo M2 => (h Γ M2).bind fun hi M3 => kCut w lo hi M3) h' fun w x H1 h' => ?_
  refine lift_bindO (g := fun lo Γ M2 => (h Γ M2).bind fun hi M3 => kCut w lo hi M3) h' fun lo H2 h' => ?_
  refine lift_bindO (g := fun hi Γ M3 => kCut w lo hi M3) h' fun hi H3 ⟨μ, G, Γ, M, R, hd, F⟩ => ?_
  have hw := heldOne hd
  rw [← hK]
  dsimp only [kCut] at F
  split at F
  · rename_i xs e
    obtain ⟨a, vs, ev, q, r⟩ := R.drL hw e
    exact .inl ⟨a, vs, ev, SqL.of q, fun p hp => finL R F (r.cut lo hi) hp⟩
  · rename_i xs e
    obtain ⟨a, vs, ev, q, r⟩ := R.drR hw e
    exact .inl ⟨a, vs, ev, q, fun p hp => finL R F (r.cut lo hi) hp⟩
  · rename_i xs e
    obtain ⟨a, vs, ev, q, r⟩ := R.drT hw e
    refine .inr ⟨a, vs, ev, q, fun ⟨e1, e2⟩ => ?_, fun _ p hp => finT R F (r.cut lo hi) hp⟩
    have ec : cutD xs lo hi = xs := by
      unfold cutD
      rw [r.length] at e1 e2
      rw [e1, e2]
      simp
    rw [ec] at F
    refine F μ G _ H3 Ext.refl R ?_
    obtain ⟨d, hd⟩ | hn : (∃ d, w = .t d) ∨ ∃ n, w = .l n := by cases w with | t d => exact .inl ⟨d, rfl⟩ | l n => exact .inr ⟨n, rfl⟩
    · subst hd
      cases e
      rw [← ev]
      exact hw
    · obtain ⟨n, rfl⟩ := hn
      rcases drN e with ⟨_, z⟩ | ⟨_, _, _, z⟩ <;> cases z
  · exact F.elim
end
end VL

set_option Elab.async false
set_option linter.all false
set_option maxRecDepth 100000
set_option maxHeartbeats 200000
/-! VL5: operators on lists and tuples, built-in functions, methods of lists. -/
namespace VL
open PySem PySem.Spec PyProof.Rows L2
section
variable {c : Vc} {X : Cx} {W : WX}
/-! ### + and * of sequences -/
def oCat : Op2 := fun w1 w2 M => match dr M w1, dr M w2 with
  | some (.lst xs), some (.lst ys) => if xs.length + ys.length ≤ 16777216 then .ok (.f (.lst (xs ++ ys))) M else .bad
  | _, _ => .bad
def oCatT : Op2 := fun w1 w2 M => match w1, w2 with
  | .t (.tup xs), .t (.tup ys) => if xs.length + ys.length ≤ 16777216 then .ok (.t (.tup (xs ++ ys))) M else .bad
  | _, _ => .bad
def oRep : Op2 := fun w1 w2 M => match dr M w1, w2 with
  | some (.lst xs), .t (.int k) => if k < 16777216 ∧ -16777216 < k ∧ xs.length * k.toNat ≤ 16777216 then .ok (.f (.lst (List.replicate k.toNat xs).flatten)) M else .bad
  | _, _ => .bad
theorem ok_cat : OpOk c W rCat oCat := by
  rintro σ H Q w1 w2 x y ⟨μ, G, Γ, M, R, hd, F⟩
  obtain ⟨h1, h2⟩ := heldTwo hd
  dsimp only [oCat] at F
  split at F
  · rename_i xs ys e1 e2
    split at F
    · rename_i hl
      obtain ⟨a, vs, ev, q, r⟩ := R.drL h1 e1
      obtain ⟨b, us, eu, q', r'⟩ := R.drL h2 e2
      exact ⟨a, b, vs, us, ev, eu, q, q', by rw [r.length, r'.length, line_eq]; exact hl, fun p hp => finL R F (r.append r') hp⟩
    · exact F.elim
  · exact F.elim
theorem ok_catT : OpOk c W (rCatA c.K) oCatT := by
  rintro σ H Q w1 w2 x y ⟨μ, G, Γ, M, R, hd, F⟩
  obtain ⟨h1, h2⟩ := heldTwo hd
  dsimp only [oCatT] at F
  split at F
  · rename_i xs ys
    split at F
    · rename_i hl
      obtain ⟨a, vs, ev, q, r⟩ := R.drT h1 rfl
      obtain ⟨b, us, eu, q', r'⟩ := R.drT h2 rfl
      refine ⟨a, b, vs, us, ev, eu, q, q', by rw [r.length, r'.length, line_eq]; exact hl, fun e => ?_, fun _ e => ?_, fun _ _ p hp => finT R F (r.append r') hp⟩
      · subst e
        have : xs = [] := List.length_eq_zero_iff.mp (by rw [← r.length]; rfl)
        subst this
        rw [← eu]
        exact F μ G y H Ext.refl R h2
      · subst e
        have : ys = [] := List.length_eq_zero_iff.mp (by rw [← r'.length]; rfl)
        subst this
        rw [← ev]
        rw [List.append_nil] at F
        exact F μ G x H Ext.refl R h1
    · exact F.elim
  · exact F.elim
theorem RFs.rep {G : Hp} {ds : List D} {vs : List V} (h : RFs c G ds vs) : ∀ k : Nat, RFs c G (List.replicate k ds).flatten (List.replicate k vs).flatten
  | 0 => RFs.nil
  | k + 1 => by
    rw [List.replicate_succ, List.replicate_succ, List.flatten_cons, List.flatten_cons]
    exact h.append (RFs.rep h k)
theorem ok_rep : OpOk c W rRep oRep := by
  rintro σ H Q w1 w2 x y ⟨μ, G, Γ, M, R, hd, F⟩
  obtain ⟨h1, h2⟩ := heldTwo hd
  dsimp only [oRep] at F
  split at F
  · rename_i xs k e1
    split at F
    · rename_i hl
      obtain ⟨a, vs, ev, q, r⟩ := R.drL h1 e1
      exact ⟨a, k, vs, ev, wr_int h2, q, by omega, by omega, by rw [r.length, line_eq]; exact hl.2.2, fun p hp => finL R F (r.rep k.toNat) hp⟩
    · exact F.elim
  · exact F.elim

/-! ### calls of built-in functions -/
def CallOk (c : Vc) (W : WX) (r : List V → Hp → VK → Prop) (op : List Wv → Store → Res Rv) : Prop :=
  ∀ (σ : L2.St) (H : Hp) (Q : VK) (as : List Wv) (xs : List V) (μ : Nat → Addr) (G : Hp) (Γ : VEnv) (M : Store), Rel c μ G Γ M σ H → Held c μ M.length G as xs → FinG c W σ Γ (rrE c) μ G M.length Q (op as M) → r xs H Q
def vCall (op : List Wv → Store → Res Rv) (g : ES (List Wv)) : SemE := fun Γ M => (g Γ M).bind op
theorem vCall_ok {r : List V → Hp → VK → Prop} {op : List Wv → Store → Res Rv} {g : ES (List Wv)} (hk : CallOk c W r op) (σ : L2.St) (H : Hp) (Q : VK) (h : lift c W (vCall op g) σ H Q) : tCB r (liftA c W g) σ H Q :=
  lift_bindA (g := fun as _ M1 => op as M1) h fun as xs H1 μ G Γ M R ha _ F => hk σ H1 Q as xs μ G Γ M R ha F
section
variable {x : Str} {p pos : Pos} {e : Expr} {es : List Expr} {g : ES (List Wv)} {id T : String} {r : List V → Hp → VK → Prop} {op : List Wv → Store → Res Rv}
theorem de_callB (hc : CallR X (.builtin id) r) (hk : CallOk c W r op) (hg : Gl X x) (hm : X.mg x = none) (hv : bootBuiltins x = some (.builtin id)) (ha : DA c X W (e :: es) g) (hn : x ≠ "__name__" := by decide) (hdb : (x == ("__debug__" : Str)) = false := by decide)
    (he : starEach (e :: es) X.env = (false, eval e X.env) :: starEach es X.env := by rfl) (hpl : (backTo pos (starEach es X.env)).any (·.1) = false := by rfl) : DE c X W (.Call (.Name x p) (e :: es) [] pos) (vCall op g) :=
  peImp (pe_callB hc hg hm hv ha hn hdb he hpl) fun σ H Q h => vCall_ok hk σ H Q h
theorem de_callTy (hc : CallR X (.type T) r) (hk : CallOk c W r op) (hg : Gl X x) (hm : X.mg x = none) (hv : bootBuiltins x = some (.type T)) (ha : DA c X W (e :: es) g) (hn : x ≠ "__name__" := by decide) (hdb : (x == ("__debug__" : Str)) = false := by decide)
    (he : starEach (e :: es) X.env = (false, eval e X.env) :: starEach es X.env := by rfl) (hpl : (backTo pos (starEach es X.env)).any (·.1) = false := by rfl) : DE c X W (.Call (.Name x p) (e :: es) [] pos) (vCall op g) :=
  peImp (pe_callTy hc hg hm hv ha hn hdb he hpl) fun σ H Q h => vCall_ok hk σ H Q h
theorem de_callM (hc : CallR X (.builtin id) r) (hk : CallOk c W r op) (hg : Gl X x) (hm : X.mg x = some (.builtin id)) (ha : DA c X W (e :: es) g) (hdb : (x == ("__debug__" : Str)) = false := by decide)
    (he : starEach (e :: es) X.env = (false, eval e X.env) :: starEach es X.env := by rfl) (hpl : (backTo pos (starEach es X.env)).any (·.1) = false := by rfl) : DE c X W (.Call (.Name x p) (e :: es) [] pos) (vCall op g) :=
  peImp (pe_callBfun hc hg hm ha hdb he hpl) fun σ H Q h => vCall_ok hk σ H Q h
end
theorem held1 {μ : Nat → Addr} {m : Nat} {G : Hp} {w : Wv} {xs : List V} (h : Held c μ m G [w] xs) : ∃ v, xs = [v] ∧ WR c μ m G w v := by
  obtain ⟨v, r, e, h1, h2⟩ := h
  cases (show r = [] from h2)
  exact ⟨v, e, h1⟩
theorem held2 {μ : Nat → Addr} {m : Nat} {G : Hp} {w u : Wv} {xs : List V} (h : Held c μ m G [w, u] xs) : ∃ v y, xs = [v, y] ∧ WR c μ m G w v ∧ WR c μ m G u y := by
  obtain ⟨v, r, e, h1, h2⟩ := h
  obtain ⟨y, e2, h3⟩ := held1 h2
  subst e2
  exact ⟨v, y, e, h1, h3⟩
theorem held0 {μ : Nat → Addr} {m : Nat} {G : Hp} {xs : List V} (h : Held c μ m G [] xs) : xs = [] := h
def fLen : List Wv → Store → Res Rv
  | [.t (.str z)], M => if z.length ≤ 16777216 then .ok (.t (.int z.length)) M else .bad
  | [w], M => (match drS M w with
    | some xs => .ok (.t (.int xs.length)) M
    | none => .bad)
  | _, _ => .bad
theorem ok_len : CallOk c W (fun xs H Q => ∃ x n, xs = [x] ∧ LenV c.K x H n ∧ Q (.int n) H) fLen := by
  intro σ H Q as xs μ G Γ M R ha F
  unfold fLen at F
  split at F
  · rename_i z
    split at F
    · rename_i hz
      obtain ⟨v, e, hw⟩ := held1 ha
      have ev := wr_str hw
      subst ev
      exact ⟨_, z.length, e, ⟨by rw [line_eq]; exact hz, rfl⟩, F μ G _ H Ext.refl R mk_int⟩
    · exact F.elim
  · rename_i w _
    split at F
    · rename_i ds e
      obtain ⟨v, ev, hw⟩ := held1 ha
      obtain ⟨a, vs, ev2, q, r⟩ := R.drS hw e
      subst ev2
      refine ⟨_, vs.length, ev, ?_, ?_⟩
      · show (∃ xs, SqL c.K H a xs ∧ vs.length = xs.length) ∨ ∃ xs, SqT c.K H a xs ∧ vs.length = xs.length
        rcases q with q | q
        · exact .inl ⟨vs, q, rfl⟩
        · exact .inr ⟨vs, q, rfl⟩
      · rw [r.length]
        exact F μ G _ H Ext.refl R mk_int
    · exact F.elim
  · exact F.elim
def fInt : List Wv → Store → Res Rv
  | [.t (.int i)], M => .ok (.t (.int i)) M
  | [.t (.bl b)], M => .ok (.t (.int (if b then 1 else 0))) M
  | _, _ => .bad
theorem ok_int : CallOk c W (fun xs H Q => (∃ i, xs = [.int i] ∧ Q (.int i) H) ∨ ∃ k, xs = [.bl k] ∧ Q (.int (if k then 1 else 0)) H) fInt := by
  intro σ H Q as xs μ G Γ M R ha F
  unfold fInt at F
  split at F
  · rename_i i
    obtain ⟨v, e, hw⟩ := held1 ha
    rw [wr_int hw] at e
    exact .inl ⟨i, e, F μ G _ H Ext.refl R mk_int⟩
  · rename_i b
    obtain ⟨v, e, hw⟩ := held1 ha
    rw [wr_bl hw] at e
    exact .inr ⟨b, e, F μ G _ H Ext.refl R mk_int⟩
  · exact F.elim
def fAbs : List Wv → Store → Res Rv
  | [.t (.int i)], M => .ok (.t (.int (if i < 0 then -i else i))) M
  | _, _ => .bad
theorem ok_abs : CallOk c W (fun xs H Q => ∃ i, xs = [.int i] ∧ Q (.int (if i < 0 then -i else i)) H) fAbs := by
  intro σ H Q as xs μ G Γ M R ha F
  unfold fAbs at F
  split at F
  · rename_i i
    obtain ⟨v, e, hw⟩ := held1 ha
    rw [wr_int hw] at e
    exact ⟨i, e, F μ G _ H Ext.refl R mk_int⟩
  · exact F.elim
/-- two ints to one -/
def fII (f : Int → Int → Int) : List Wv → Store → Res Rv
  | [.t (.int i), .t (.int j)], M => .ok (.t (.int (f i j))) M
  | _, _ => .bad
theorem okII (f : Int → Int → Int) : CallOk c W (fun xs H Q => ∃ i j, xs = [.int i, .int j] ∧ Q (.int (f i j)) H) (fII f) := by
  intro σ H Q as xs μ G Γ M R ha F
  unfold fII at F
  split at F
  · rename_i i j
    obtain ⟨v, y, e, hw, hu⟩ := held2 ha
    rw [wr_int hw, wr_int hu] at e
    exact ⟨i, j, e, F μ G _ H Ext.refl R mk_int⟩
  · exact F.elim
abbrev fMax2 := fII fun i j => if j > i then j else i
abbrev fMin2 := fII fun i j => if j < i then j else i
abbrev fGcd := fII fun a b => ((Nat.gcd a.natAbs b.natAbs : Nat) : Int)
/-- ints -/
def ints? : List D → Option (List Int)
  | [] => some []
  | .int i :: r => (ints? r).map (i :: ·)
  | _ :: _ => none
theorem RFs.ints {G : Hp} : ∀ {ds : List D} {vs : List V} {ns : List Int}, RFs c G ds vs → ints? ds = some ns → vs = ns.map V.int
  | [], vs, ns, h, e => by
    cases e
    rw [RFs] at h
    exact h
  | .int i :: r, vs, ns, h, e => by
    rw [RFs] at h
    obtain ⟨v, s, q, h1, h2⟩ := h
    rw [ints?, Option.map_eq_some_iff] at e
    obtain ⟨ms, e1, e2⟩ := e
    rw [q, rf_int.mp h1, RFs.ints h2 e1, ← e2]
    rfl
  | .non :: _, _, _, _, e => by cases e
  | .bl _ :: _, _, _, _, e => by cases e
  | .str _ :: _, _, _, _, e => by cases e
  | .lst _ :: _, _, _, _, e => by cases e
  | .scr _ :: _, _, _, _, e => by cases e
  | .tup _ :: _, _, _, _, e => by cases e
  | .ins _ _ _ :: _, _, _, _, e => by cases e
/-- the ints of a list -/
def drN' (M : Store) (w : Wv) : Option (List Int) := match dr M w with
  | some (.lst xs) => ints? xs
  | some (.scr xs) => ints? xs
  | _ => none
theorem Rel.drNs {μ : Nat → Addr} {G H : Hp} {Γ : VEnv} {M : Store} {σ : L2.St} (R : Rel c μ G Γ M σ H) {w : Wv} {v : V} {ns : List Int} (hw : WR c μ M.length G w v) (h : drN' M w = some ns) : ∃ a, v = .ref a ∧ SqL c.K H a (ns.map V.int) := by
  unfold drN' at h
  split at h
  · rename_i xs e
    obtain ⟨a, vs, ev, q, r⟩ := R.drL hw e
    rw [r.ints h] at q
    exact ⟨a, ev, SqL.of q⟩
  · rename_i xs e
    obtain ⟨a, vs, ev, q, r⟩ := R.drR hw e
    rw [r.ints h] at q
    exact ⟨a, ev, q⟩
  · cases h
def fSum : List Wv → Store → Res Rv
  | [w], M => (match drN' M w with
    | some ns => .ok (.t (.int ns.sum)) M
    | none => .bad)
  | _, _ => .bad
theorem ok_sum : CallOk c W (rSum c.K) fSum := by
  intro σ H Q as xs μ G Γ M R ha F
  unfold fSum at F
  split at F
  · rename_i w
    split at F
    · rename_i ns e
      obtain ⟨v, ev, hw⟩ := held1 ha
      obtain ⟨a, ea, q⟩ := R.drNs hw e
      rw [ea] at ev
      exact ⟨a, ns, ev, q, F μ G _ H Ext.refl R mk_int⟩
    · exact F.elim
  · exact F.elim
def maxL (i : Int) (ns : List Int) : Int := ns.foldl (fun a b => if a < b then b else a) i
def minL (i : Int) (ns : List Int) : Int := ns.foldl (fun a b => if b < a then b else a) i
theorem maxL_of {m : Int} : ∀ {ns : List Int} {i : Int}, m ∈ i :: ns → (∀ y ∈ i :: ns, y ≤ m) → maxL i ns = m
  | [], i, h, _ => by
    rcases List.mem_cons.mp h with e | e
    · exact e.symm
    · cases e
  | n :: ns, i, h, b => by
    unfold maxL
    rw [List.foldl_cons]
    by_cases z : i < n
    · rw [if_pos z]
      refine maxL_of (i := n) ?_ fun y hy => b y (List.mem_cons_of_mem _ hy)
      rcases List.mem_cons.mp h with e | e
      · have := b n (by simp)
        rw [e] at this
        omega
      · exact e
    · rw [if_neg z]
      refine maxL_of (i := i) ?_ fun y hy => b y ?_
      · rcases List.mem_cons.mp h with e | e
        · rw [e]; exact List.mem_cons_self
        · rcases List.mem_cons.mp e with e | e
          · have := b i (by simp)
            have : m = i := by rw [e] at this ⊢; omega
            rw [this]; exact List.mem_cons_self
          · exact List.mem_cons_of_mem _ e
      · rcases List.mem_cons.mp hy with e | e
        · rw [e]; exact List.mem_cons_self
        · exact List.mem_cons_of_mem _ (List.mem_cons_of_mem _ e)
theorem minL_of {m : Int} : ∀ {ns : List Int} {i : Int}, m ∈ i :: ns → (∀ y ∈ i :: ns, m ≤ y) → minL i ns = m
  | [], i, h, _ => by
    rcases List.mem_cons.mp h with e | e
    · exact e.symm
    · cases e
  | n :: ns, i, h, b => by
    unfold minL
    rw [List.foldl_cons]
    by_cases z : n < i
    · rw [if_pos z]
      refine minL_of (i := n) ?_ fun y hy => b y (List.mem_cons_of_mem _ hy)
      rcases List.mem_cons.mp h with e | e
      · have := b n (by simp)
        rw [e] at this
        omega
      · exact e
    · rw [if_neg z]
      refine minL_of (i := i) ?_ fun y hy => b y ?_
      · rcases List.mem_cons.mp h with e | e
        · rw [e]; exact List.mem_cons_self
        · rcases List.mem_cons.mp e with e | e
          · have := b i (by simp)
            have : m = i := by rw [e] at this ⊢; omega
            rw [this]; exact List.mem_cons_self
          · exact List.mem_cons_of_mem _ e
      · rcases List.mem_cons.mp hy with e | e
        · rw [e]; exact List.mem_cons_self
        · exact List.mem_cons_of_mem _ (List.mem_cons_of_mem _ e)
def fMaxL : List Wv → Store → Res Rv
  | [w], M => (match drN' M w with
    | some (n :: ns) => .ok (.t (.int (maxL n ns))) M
    | _ => .bad)
  | _, _ => .bad
def fMinL : List Wv → Store → Res Rv
  | [w], M => (match drN' M w with
    | some (n :: ns) => .ok (.t (.int (minL n ns))) M
    | _ => .bad)
  | _, _ => .bad
theorem ok_maxL : CallOk c W (rMax c.K) fMaxL := by
  intro σ H Q as xs μ G Γ M R ha F
  unfold fMaxL at F
  split at F
  · rename_i w
    split at F
    · rename_i n ns e
      obtain ⟨v, ev, hw⟩ := held1 ha
      obtain ⟨a, ea, q⟩ := R.drNs hw e
      rw [ea] at ev
      exact ⟨a, n :: ns, ev, q, by simp, fun m hm hb => by rw [← maxL_of hm hb]; exact F μ G _ H Ext.refl R mk_int⟩
    · exact F.elim
  · exact F.elim
theorem ok_minL : CallOk c W (rMin c.K) fMinL := by
  intro σ H Q as xs μ G Γ M R ha F
  unfold fMinL at F
  split at F
  · rename_i w
    split at F
    · rename_i n ns e
      obtain ⟨v, ev, hw⟩ := held1 ha
      obtain ⟨a, ea, q⟩ := R.drNs hw e
      rw [ea] at ev
      exact ⟨a, n :: ns, ev, q, by simp, fun m hm hb => by rw [← minL_of hm hb]; exact F μ G _ H Ext.refl R mk_int⟩
    · exact F.elim
  · exact F.elim
def fList : List Wv → Store → Res Rv
  | [w], M => (match drS M w with
    | some xs => .ok (.f (.lst xs)) M
    | none => .bad)
  | _, _ => .bad
def fTuple : List Wv → Store → Res Rv
  | [w], M => (match dr M w with
    | some (.lst xs) => .ok (.t (.tup xs)) M
    | some (.scr xs) => .ok (.t (.tup xs)) M
    | some (.tup xs) => .ok (.t (.tup xs)) M
    | _ => .bad)
  | _, _ => .bad
theorem ok_list : CallOk c W (fun xs H Q => ∃ p ys, xs = [.ref p] ∧ (SqL c.K H p ys ∨ SqT c.K H p ys) ∧ ∀ l, H l = none → Q (.ref l) (upd H l (.lst ys))) fList := by
  intro σ H Q as xs μ G Γ M R ha F
  unfold fList at F
  split at F
  · rename_i w
    split at F
    · rename_i ds e
      obtain ⟨v, ev, hw⟩ := held1 ha
      obtain ⟨a, vs, ev2, q, r⟩ := R.drS hw e
      rw [ev2] at ev
      exact ⟨a, vs, ev, q, fun p hp => finL R F r hp⟩
    · exact F.elim
  · exact F.elim
theorem ok_tuple : CallOk c W (fun xs H Q => ∃ p ys, xs = [.ref p] ∧ ((SqL c.K H p ys ∧ ∀ l, H l = none → Q (.ref l) (upd H l (.tup ys))) ∨ (SqT c.K H p ys ∧ Q (.ref p) H))) fTuple := by
  intro σ H Q as xs μ G Γ M R ha F
  unfold fTuple at F
  split at F
  · rename_i w
    obtain ⟨v, ev, hw⟩ := held1 ha
    split at F
    · rename_i ds e
      obtain ⟨a, vs, ev2, q, r⟩ := R.drL hw e
      rw [ev2] at ev
      exact ⟨a, vs, ev, .inl ⟨SqL.of q, fun p hp => finT R F r hp⟩⟩
    · rename_i ds e
      obtain ⟨a, vs, ev2, q, r⟩ := R.drR hw e
      rw [ev2] at ev
      exact ⟨a, vs, ev, .inl ⟨q, fun p hp => finT R F r hp⟩⟩
    · rename_i ds e
      obtain ⟨a, vs, ev2, q, r⟩ := R.drT hw e
      rw [ev2] at ev
      refine ⟨a, vs, ev, .inr ⟨q, ?_⟩⟩
      cases w with
      | l n => rcases drN e with ⟨_, z⟩ | ⟨_, _, _, z⟩ <;> cases z
      | t d' =>
        cases e
        rw [← ev2]
        exact F μ G v H Ext.refl R hw
    · exact F.elim
  · exact F.elim

/-! ### divmod, isinstance -/
def fDivmod : List Wv → Store → Res Rv
  | [.t (.int i), .t (.int j)], M => if 0 < j ∧ Builtin.divisionGoesByPylong i j = false then .ok (.t (.tup [.int (i / j), .int (i % j)])) M else .bad
  | _, _ => .bad
theorem ok_divmod : CallOk c W (fun xs H Q => ∃ i j, xs = [.int i, .int j] ∧ CDivP i j ∧ ∀ p, H p = none → Q (.ref p) (upd H p (.tup [.int (i / j), .int (i % j)]))) fDivmod := by
  intro σ H Q as xs μ G Γ M R ha F
  unfold fDivmod at F
  split at F
  · rename_i i j
    split at F
    · rename_i hz
      obtain ⟨v, y, e, hw, hu⟩ := held2 ha
      rw [wr_int hw, wr_int hu] at e
      exact ⟨i, j, e, hz, fun p hp => finT R F (.cons (rf_int.mpr rfl) (.cons (rf_int.mpr rfl) .nil)) hp⟩
    · exact F.elim
  · exact F.elim
/-- the built-in type of data that is no instance -/
def D.ty : D → Option String
  | .non => some "NoneType"
  | .bl _ => some "bool"
  | .int _ => some "int"
  | .str _ => some "str"
  | .lst _ => some "list"
  | .scr _ => some "list"
  | .tup _ => some "tuple"
  | .ins _ _ _ => none
theorem tyx_rdL {K : PySem.W.Frag} {H : Hp} {a : Addr} {vs : List V} (q : SqL K H a vs) : TyX K H (.ref a) (.type "list") := by
  rcases q with (q | ⟨o, q⟩) | ⟨o, its, n, q, k, _⟩
  · exact .base (.lst q)
  · exact .base (.frz q)
  · exact .kList q k
theorem tyx_rdT {K : PySem.W.Frag} {H : Hp} {a : Addr} {vs : List V} (q : SqT K H a vs) : TyX K H (.ref a) (.type "tuple") := by
  rcases q with (q | ⟨o, q⟩) | ⟨o, its, n, q, k, _⟩
  · exact .base (.tup q)
  · exact .fTuple q
  · exact .kTuple q k
theorem Rel.tyx {μ : Nat → Addr} {G H : Hp} {Γ : VEnv} {M : Store} {σ : L2.St} (R : Rel c μ G Γ M σ H) {w : Wv} {v : V} {d : D} {T : String} (hw : WR c μ M.length G w v) (h : dr M w = some d) (ht : d.ty = some T) : TyX c.K H v (.type T) := by
  cases d with
  | lst xs =>
    cases ht
    obtain ⟨a, vs, e, q, _⟩ := R.drL hw h
    rw [e]; exact tyx_rdL (SqL.of q)
  | scr xs =>
    cases ht
    obtain ⟨a, vs, e, q, _⟩ := R.drR hw h
    rw [e]; exact tyx_rdL q
  | tup xs =>
    cases ht
    obtain ⟨a, vs, e, q, _⟩ := R.drT hw h
    rw [e]; exact tyx_rdT q
  | ins C ns xs => cases ht
  | int i =>
    cases ht
    rw [drI h] at hw
    rw [wr_int hw]; exact .base (.int i)
  | non =>
    cases ht
    cases w with
    | l n => rcases drN h with ⟨_, z⟩ | ⟨_, _, _, z⟩ <;> cases z
    | t d' => cases h; rw [wr_non hw]; exact .base .non
  | bl b =>
    cases ht
    cases w with
    | l n => rcases drN h with ⟨_, z⟩ | ⟨_, _, _, z⟩ <;> cases z
    | t d' => cases h; rw [wr_bl hw]; exact .base (.bl b)
  | str z =>
    cases ht
    cases w with
    | l n => rcases drN h with ⟨_, z⟩ | ⟨_, _, _, z⟩ <;> cases z
    | t d' => cases h; rw [wr_str hw]; exact .base (.str z)
/-- what isinstance of an own class must find -/
structure IsiC (c : Vc) (C : Nat) : Prop where
  cl : Cls c.K (c.ρ C)
  ha : PySem.W.findIn c.K (.ref (c.ρ C)) "__class__" = some (some (.builtin "object.__class__"))
  hn : PySem.W.specialIn c.K (.builtin "object.__class__") "__get__" = some (some (.builtin "getset_descriptor.__get__"))
  htk : PySem.W.takesIn c.K (.builtin "object.__class__") = some true
  hm : PySem.W.mroIn c.K (c.ρ C) (.type "object") = some true
theorem Rel.tyI {μ : Nat → Addr} {G H : Hp} {Γ : VEnv} {M : Store} {σ : L2.St} (R : Rel c μ G Γ M σ H) {w : Wv} {v : V} {C : Nat} {ns : List Nat} {xs : List D} (T : IsiC c C) (hw : WR c μ M.length G w v) (h : dr M w = some (.ins C ns xs)) : TyX c.K H v (.ref (c.ρ C)) := by
  cases w with
  | t d =>
    cases h
    obtain ⟨a, dx, fs, e, q, _⟩ := rf_ins.mp (wr_t hw)
    rw [e]
    exact .base (.ins (R.gh _ _ q) T.cl T.ha T.hn T.htk T.hm)
  | l n =>
    obtain ⟨hn, e⟩ := (show n < M.length ∧ v = .ref (μ n) from hw)
    unfold dr at h
    simp only at h
    split at h
    · rename_i x hx
      have hc := R.ce n x hx
      cases x with
      | dead => cases h
      | exn a' cls dd C fs => cases h
      | rng lo hi => cases h
      | opq t k as ds => cases h
      | lst ys => cases h
      | obj C' fs =>
        obtain ⟨_, dx, vs, h1, h2⟩ := hc
        simp only [Cel.d] at h
        split at h
        · cases h
          rw [e]
          exact .base (.ins h1 T.cl T.ha T.hn T.htk T.hm)
        · cases h
    · cases h
/-- isinstance(x, T), T a built-in type -/
def fIsTy (T : String) : List Wv → Store → Res Rv
  | [w], M => (match (dr M w).bind D.ty with
    | some a => (match kitB a T with
      | some b => .ok (.t (.bl b)) M
      | none => .bad)
    | none => .bad)
  | _, _ => .bad
/-- isinstance(x, C), C an own class; ok: the classes whose instances may come, with the answer -/
def fIsC (ok : List (Nat × Bool)) : List Wv → Store → Res Rv
  | [w], M => (match dr M w with
    | some (.ins C _ _) => (match ok.lookup C with
      | some b => .ok (.t (.bl b)) M
      | none => .bad)
    | some _ => .ok (.t (.bl false)) M
    | none => .bad)
  | _, _ => .bad
structure IsiF (c : Vc) (T : Nat) (ok : List (Nat × Bool)) : Prop where
  ty : ∀ a, a ∈ ["NoneType", "bool", "int", "str", "list", "tuple"] → PySem.W.kitOne c.K (.type a) (.ref (c.ρ T)) = some false
  own : ∀ C b, ok.lookup C = some b → IsiC c C ∧ PySem.W.kitOne c.K (.ref (c.ρ C)) (.ref (c.ρ T)) = some b
theorem D.ty_mem {d : D} {a : String} (h : d.ty = some a) : a ∈ ["NoneType", "bool", "int", "str", "list", "tuple"] := by
  cases d <;> first | (cases h; done) | (cases h; simp)
end
section
variable {c : Vc} {X : Cx} {W : WX} {p pos q : Pos} {e : Expr} {f : SemE} {T : Str}
def v1 (op : List Wv → Store → Res Rv) (f : SemE) : SemE := fun Γ M => (f Γ M).bind fun r M1 => op [r.w] M1
theorem de_isTy {n : String} (hK : c.K = X.K) (hg : Gl X "isinstance") (hm : X.mg "isinstance" = none) (he : DE c X W e f) (ht : PE X (.Name T q) (tC (.ty n)))
    (h1 : starEach [e, .Name T q] X.env = (false, eval e X.env) :: starEach [.Name T q] X.env := by rfl) (h2 : starEach [.Name T q] X.env = (false, eval (.Name T q) X.env) :: starEach [] X.env := by rfl)
    (hpl : (backTo pos (starEach [.Name T q] X.env)).any (·.1) = false := by rfl) : DE c X W (.Call (.Name "isinstance" p) [e, .Name T q] [] pos) (v1 (fIsTy n) f) := by
  refine peImp (pe_callB call_isi hg hm (by decide +kernel) (pa_cons he (pa_cons ht pa_nil h2) h1) (by decide) (by decide) h1 hpl) fun σ H Q h => ?_
  refine lift_bind (g := fun w _ M1 => fIsTy n [w] M1) h fun w x H1 ⟨μ, G, Γ, M, R, hd, F⟩ => ?_
  have hw := heldOne hd
  unfold fIsTy at F
  dsimp only at F
  split at F
  · rename_i a ea
    split at F
    · rename_i b eb
      obtain ⟨d, e1, e2⟩ := Option.bind_eq_some_iff.mp ea
      rw [← hK]
      exact ⟨x, .ty n, _, _, b, rfl, .ty n, R.tyx hw e1 e2, kit_ty eb, F μ G _ H1 Ext.refl R mk_bl⟩
    · exact F.elim
  · exact F.elim
theorem de_isC {n : Nat} {ok : List (Nat × Bool)} (hK : c.K = X.K) (hg : Gl X "isinstance") (hm : X.mg "isinstance" = none) (he : DE c X W e f) (ht : PE X (.Name T q) (tC (.ref (c.ρ n)))) (B : IsiF c n ok)
    (h1 : starEach [e, .Name T q] X.env = (false, eval e X.env) :: starEach [.Name T q] X.env := by rfl) (h2 : starEach [.Name T q] X.env = (false, eval (.Name T q) X.env) :: starEach [] X.env := by rfl)
    (hpl : (backTo pos (starEach [.Name T q] X.env)).any (·.1) = false := by rfl) : DE c X W (.Call (.Name "isinstance" p) [e, .Name T q] [] pos) (v1 (fIsC ok) f) := by
  refine peImp (pe_callB call_isi hg hm (by decide +kernel) (pa_cons he (pa_cons ht pa_nil h2) h1) (by decide) (by decide) h1 hpl) fun σ H Q h => ?_
  refine lift_bind (g := fun w _ M1 => fIsC ok [w] M1) h fun w x H1 ⟨μ, G, Γ, M, R, hd, F⟩ => ?_
  have hw := heldOne hd
  unfold fIsC at F
  dsimp only at F
  rw [← hK]
  split at F
  · rename_i C ns xs e1
    split at F
    · rename_i b eb
      obtain ⟨t, k⟩ := B.own C b eb
      exact ⟨x, .ref (c.ρ n), _, _, b, rfl, .own _, R.tyI t hw e1, k, F μ G _ H1 Ext.refl R mk_bl⟩
    · exact F.elim
  · rename_i d nd e1
    cases et : d.ty with
    | none =>
      cases d with
      | ins C ns xs => exact absurd rfl (nd C ns xs)
      | _ => cases et
    | some a => exact ⟨x, .ref (c.ρ n), _, _, false, rfl, .own _, R.tyx hw e1 et, B.ty a (D.ty_mem et), F μ G _ H1 Ext.refl R mk_bl⟩
  · exact F.elim
end
end VL

set_option Elab.async false
set_option linter.all false
set_option maxRecDepth 100000
set_option maxHeartbeats 400000
/-! VL6: methods of lists, attributes, calls of defs, new instances. -/
namespace VL
open PySem PySem.Spec PyProof.Rows L2
section
variable {c : Vc} {X : Cx} {W : WX}
/-! ### methods of a mutable list -/
def MtOk (c : Vc) (W : WX) (r : V → List V → Hp → VK → Prop) (op : Nat → List Wv → Store → Res Rv) : Prop :=
  ∀ (σ : L2.St) (H : Hp) (Q : VK) (n : Nat) (as : List Wv) (xs : List V) (μ : Nat → Addr) (G : Hp) (Γ : VEnv) (M : Store), Rel c μ G Γ M σ H → Held c μ M.length G as xs → FinG c W σ Γ (rrE c) μ G M.length Q (op n as M) → r (.ref (μ n)) xs H Q
def kMt (op : Nat → List Wv → Store → Res Rv) (g : ES (List Wv)) (r : Rv) (Γ : VEnv) (M1 : Store) : Res Rv := match r with
  | .l n => (match M1[n]? with
    | some (.lst _) => (g Γ M1).bind fun as M2 => op n as M2
    | _ => .bad)
  | _ => .bad
def vMt (op : Nat → List Wv → Store → Res Rv) (f : SemE) (g : ES (List Wv)) : SemE := fun Γ M => (f Γ M).bind fun r M1 => kMt op g r Γ M1
theorem vMt_ok {r : V → List V → Hp → VK → Prop} {op : Nat → List Wv → Store → Res Rv} {f : SemE} {g : ES (List Wv)} (hk : MtOk c W r op) (σ : L2.St) (H : Hp) (Q : VK) (h : lift c W (vMt op f g) σ H Q) :
    lift c W f σ H (fun x H1 => tyV c.K "list" x H1 ∧ liftA c W g σ H1 fun xs H2 => r x xs H2 Q) := by
  refine lift_bindR (g := kMt op g) h fun rv x H1 μ G Γ M R q F => ?_
  unfold kMt at F
  split at F
  · rename_i n
    obtain ⟨hn, rfl⟩ := (show n < M.length ∧ x = .ref (μ n) from q)
    split at F
    · rename_i ys e
      obtain ⟨_, vs, h1, _⟩ := R.ce n _ e
      refine ⟨.inl ⟨rfl, vs, SqL.of h1⟩, ?_⟩
      refine lift_bindA (ws := [.l n]) (vs := [.ref (μ n)]) (g := fun as _ M2 => op n as M2) ⟨μ, G, Γ, M, R, ⟨_, _, rfl, ⟨hn, rfl⟩, rfl⟩, F⟩ fun as xs H2 μ' G' Γ' M' R' ha hw F' => ?_
      obtain ⟨_, ew⟩ := (show n < M'.length ∧ V.ref (μ n) = .ref (μ' n) from heldOne hw)
      rw [ew]
      exact hk σ H2 Q n as xs μ' G' Γ' M' R' ha F'
    · exact F.elim
  · exact F.elim
theorem de_mt {id name : String} {r : V → List V → Hp → VK → Prop} {op : Nat → List Wv → Store → Res Rv} {o e : Expr} {es : List Expr} {f : SemE} {g : ES (List Wv)} {apos cpos : Pos} (hK : c.K = X.K)
    (slot : Slot "list" name id) (hty : typeOf (.builtin id) = pure (.type "method_descriptor")) (hm : MtR X id r) (hk : MtOk c W r op) (ho : DE c X W o f) (ha : DA c X W (e :: es) g)
    (h : PE X (.Call (.Attribute o name apos) (e :: es) [] cpos) (tBM X.K "list" r (lift c W f) (liftA c W g))) : DE c X W (.Call (.Attribute o name apos) (e :: es) [] cpos) (vMt op f g) :=
  peImp h fun σ H Q h => by
    rw [← hK]
    exact vMt_ok hk σ H Q h
theorem de_mt0 {id name : String} {r : V → List V → Hp → VK → Prop} {op : Nat → List Wv → Store → Res Rv} {o : Expr} {f : SemE} {apos cpos : Pos} (hK : c.K = X.K)
    (hk : MtOk c W r op) (h : PE X (.Call (.Attribute o name apos) [] [] cpos) (tBM0 X.K "list" r (lift c W f))) : DE c X W (.Call (.Attribute o name apos) [] [] cpos) (vMt op f vNil) :=
  peImp h fun σ H Q h => by
    rw [← hK]
    refine liftG.mono (vMt_ok hk σ H Q h) fun x H1 ⟨h1, h2⟩ => ⟨h1, ?_⟩
    obtain ⟨μ, G, Γ, M, R, _, F⟩ := h2
    exact F μ G [] H1 Ext.refl R rfl
/-- a mutable list is written -/
theorem Rel.putL {μ : Nat → Addr} {G H : Hp} {Γ : VEnv} {M : Store} {σ : L2.St} (R : Rel c μ G Γ M σ H) {n : Nat} {xs ys : List D} {vs : List V} (e : M[n]? = some (.lst xs)) (r : RFs c G ys vs) : Rel c μ G Γ (M.set n (.lst ys)) σ (upd H (μ n) (.lst vs)) :=
  R.put ⟨_, e, trivial⟩ ⟨(R.live ⟨_, e, trivial⟩).1, vs, upd_same, r⟩
theorem Rel.getL {μ : Nat → Addr} {G H : Hp} {Γ : VEnv} {M : Store} {σ : L2.St} (R : Rel c μ G Γ M σ H) {n : Nat} {xs : List D} (e : M[n]? = some (.lst xs)) : ∃ vs, H (μ n) = some (.lst vs) ∧ RFs c G xs vs := by
  obtain ⟨_, vs, h1, h2⟩ := R.ce n _ e
  exact ⟨vs, h1, h2⟩
theorem ext_set {μ : Nat → Addr} {G : Hp} {M : Store} {n : Nat} {x : Cel} : Ext μ G M.length μ G (M.set n x).length := ⟨Same.refl _, fun _ _ => rfl, by rw [List.length_set]; exact Nat.le_refl _⟩
def mAppend (n : Nat) (as : List Wv) (M : Store) : Res Rv := match as, M[n]? with
  | [.t d], some (.lst xs) => if xs.length < 16777216 then .ok (.t .non) (M.set n (.lst (xs ++ [d]))) else .bad
  | _, _ => .bad
theorem ok_append : MtOk c W rAppend mAppend := by
  intro σ H Q n as ys μ G Γ M R ha F
  unfold mAppend at F
  split at F
  · rename_i d xs e
    split at F
    · rename_i hl
      obtain ⟨v, ev, hv⟩ := held1 ha
      obtain ⟨vs, h1, h2⟩ := R.getL e
      refine ⟨μ n, vs, v, rfl, ev, h1, by rw [h2.length, line_eq]; exact hl, F μ G _ _ ext_set (R.putL e (h2.append (.cons (wr_t hv) .nil))) mk_non⟩
    · exact F.elim
  · exact F.elim
def mExtend (n : Nat) (as : List Wv) (M : Store) : Res Rv := match as, M[n]? with
  | [w], some (.lst xs) => (match dr M w with
    | some (.lst zs) => if xs.length + zs.length ≤ 16777216 then .ok (.t .non) (M.set n (.lst (xs ++ zs))) else .bad
    | _ => .bad)
  | _, _ => .bad
theorem ok_extend : MtOk c W rExtend mExtend := by
  intro σ H Q n as ys μ G Γ M R ha F
  unfold mExtend at F
  split at F
  · rename_i w xs e
    split at F
    · rename_i zs ez
      split at F
      · rename_i hl
        obtain ⟨v, ev, hv⟩ := held1 ha
        obtain ⟨vs, h1, h2⟩ := R.getL e
        obtain ⟨b, us, eb, q, r⟩ := R.drL hv ez
        rw [eb] at ev
        exact ⟨μ n, b, vs, us, rfl, ev, h1, q, by rw [h2.length, r.length, line_eq]; exact hl, F μ G _ _ ext_set (R.putL e (h2.append r)) mk_non⟩
      · exact F.elim
    · exact F.elim
  · exact F.elim
def mPop (n : Nat) (as : List Wv) (M : Store) : Res Rv := match as, M[n]? with
  | [], some (.lst xs) => (match xs[xs.length - 1]? with
    | some d => .ok (.t d) (M.set n (.lst xs.dropLast))
    | none => .bad)
  | _, _ => .bad
theorem RFs.dropLast {G : Hp} {ds : List D} {vs : List V} (h : RFs c G ds vs) : RFs c G ds.dropLast vs.dropLast := by
  rw [List.dropLast_eq_take, List.dropLast_eq_take, h.length]
  exact h.take _
theorem RFs.eraseIdx {G : Hp} : ∀ {ds : List D} {vs : List V} (i : Nat), RFs c G ds vs → RFs c G (ds.eraseIdx i) (vs.eraseIdx i)
  | [], vs, i, h => by rw [RFs] at h; subst h; exact RFs.nil
  | d :: ds, vs, 0, h => by
    rw [RFs] at h
    obtain ⟨v, r, e, h1, h2⟩ := h
    subst e
    exact h2
  | d :: ds, vs, i + 1, h => by
    rw [RFs] at h
    obtain ⟨v, r, e, h1, h2⟩ := h
    subst e
    exact RFs.cons h1 (RFs.eraseIdx i h2)
theorem ok_pop : MtOk c W rPop mPop := by
  intro σ H Q n as ys μ G Γ M R ha F
  unfold mPop at F
  split at F
  · rename_i xs e
    split at F
    · rename_i d ed
      obtain ⟨vs, h1, h2⟩ := R.getL e
      obtain ⟨v, e1, e2⟩ := h2.get ed
      exact ⟨μ n, vs, v, rfl, held0 ha, h1, by rw [h2.length]; exact e1, F μ G _ _ ext_set (R.putL e h2.dropLast) e2⟩
    · exact F.elim
  · exact F.elim
def mPopAt (n : Nat) (as : List Wv) (M : Store) : Res Rv := match as, M[n]? with
  | [.t (.int i)], some (.lst xs) => (match ixN xs.length i with
    | some k => (match xs[k]? with
      | some d => if xs.length < 16777216 then .ok (.t d) (M.set n (.lst (xs.eraseIdx k))) else .bad
      | none => .bad)
    | none => .bad)
  | _, _ => .bad
theorem ok_popAt : MtOk c W rPopAt mPopAt := by
  intro σ H Q n as ys μ G Γ M R ha F
  unfold mPopAt at F
  split at F
  · rename_i i xs e
    split at F
    · rename_i k ek
      split at F
      · rename_i d ed
        split at F
        · rename_i hl
          obtain ⟨w, ew, hw⟩ := held1 ha
          obtain ⟨vs, h1, h2⟩ := R.getL e
          obtain ⟨v, e1, e2⟩ := h2.get ed
          obtain ⟨k1, k2, k3, k4⟩ := ixN_seq ek
          rw [wr_int hw] at ew
          exact ⟨μ n, vs, i, k, v, rfl, ew, h1, by omega, by omega, by rw [h2.length]; exact k1, e1, F μ G _ _ ext_set (R.putL e (h2.eraseIdx k)) e2⟩
        · exact F.elim
      · exact F.elim
    · exact F.elim
  · exact F.elim
def mClear (n : Nat) (as : List Wv) (M : Store) : Res Rv := match as, M[n]? with
  | [], some (.lst _) => .ok (.t .non) (M.set n (.lst []))
  | _, _ => .bad
theorem ok_clear : MtOk c W rClear mClear := by
  intro σ H Q n as ys μ G Γ M R ha F
  unfold mClear at F
  split at F
  · rename_i xs e
    obtain ⟨vs, h1, h2⟩ := R.getL e
    exact ⟨μ n, vs, rfl, held0 ha, h1, F μ G _ _ ext_set (R.putL e .nil) mk_non⟩
  · exact F.elim
def mReverse (n : Nat) (as : List Wv) (M : Store) : Res Rv := match as, M[n]? with
  | [], some (.lst xs) => .ok (.t .non) (M.set n (.lst xs.reverse))
  | _, _ => .bad
theorem RFs.reverse {G : Hp} : ∀ {ds : List D} {vs : List V}, RFs c G ds vs → RFs c G ds.reverse vs.reverse
  | [], vs, h => by rw [RFs] at h; subst h; exact RFs.nil
  | d :: ds, vs, h => by
    rw [RFs] at h
    obtain ⟨v, r, e, h1, h2⟩ := h
    subst e
    rw [List.reverse_cons, List.reverse_cons]
    exact (RFs.reverse h2).append (.cons h1 .nil)
theorem ok_reverse : MtOk c W rReverse mReverse := by
  intro σ H Q n as ys μ G Γ M R ha F
  unfold mReverse at F
  split at F
  · rename_i xs e
    obtain ⟨vs, h1, h2⟩ := R.getL e
    exact ⟨μ n, vs, rfl, held0 ha, h1, F μ G _ _ ext_set (R.putL e h2.reverse) mk_non⟩
  · exact F.elim
def mInsert (n : Nat) (as : List Wv) (M : Store) : Res Rv := match as, M[n]? with
  | [.t (.int i), .t d], some (.lst xs) => if xs.length < 16777216 ∧ 0 ≤ i ∧ i < 2 ^ 63 then .ok (.t .non) (M.set n (.lst (xs.take i.toNat ++ [d] ++ xs.drop i.toNat))) else .bad
  | _, _ => .bad
theorem ok_insert : MtOk c W (fun x vs H Q => ∃ (l : Addr) (xs : List V) (i : Int) (y : V), x = .ref l ∧ vs = [.int i, y] ∧ H l = some (.lst xs) ∧ xs.length < sizeLine ∧ 0 ≤ i ∧ i < 2 ^ 63 ∧
    Q .non (upd H l (.lst (xs.take i.toNat ++ [y] ++ xs.drop i.toNat)))) mInsert := by
  intro σ H Q n as ys μ G Γ M R ha F
  unfold mInsert at F
  split at F
  · rename_i i d xs e
    split at F
    · rename_i hl
      obtain ⟨v, y, ev, hv, hy⟩ := held2 ha
      rw [wr_int hv] at ev
      obtain ⟨vs, h1, h2⟩ := R.getL e
      exact ⟨μ n, vs, i, y, rfl, ev, h1, by rw [h2.length, line_eq]; exact hl.1, hl.2.1, hl.2.2, F μ G _ _ ext_set (R.putL e (((h2.take _).append (.cons (wr_t hy) .nil)).append (h2.drop _))) mk_non⟩
    · exact F.elim
  · exact F.elim

/-! ### attributes -/
theorem inj_map {ns : List Nat} {f : Nat} : (∀ n ∈ ns, n < c.N) → f < c.N → ∀ {xs : List D} {fs : List (Str × V)} {G : Hp} {d : D}, fs.map (·.1) = ns.map c.nm → RFs c G xs (fs.map (·.2)) → (ns.zip xs).lookup f = some d → ∃ v, fs.lookup (c.nm f) = some v ∧ RF c G d v := by
  induction ns with
  | nil => intro _ _ xs fs G d _ _ h; cases h
  | cons n ns ih =>
    intro hb hf xs fs G d e r h
    cases fs with
    | nil => cases e
    | cons p fs =>
      obtain ⟨g, v⟩ := p
      cases xs with
      | nil => cases h
      | cons x xs =>
        rw [List.map_cons, List.map_cons] at e
        obtain ⟨e1, e2⟩ := List.cons.inj e
        have e1' : g = c.nm n := e1
        rw [List.map_cons, RFs] at r
        obtain ⟨u, s, q, r1, r2⟩ := r
        obtain ⟨q1, q2⟩ := List.cons.inj q
        subst q1
        rw [List.zip_cons_cons, List.lookup_cons] at h
        rw [List.lookup_cons]
        by_cases hn : f = n
        · subst hn
          simp only [beq_self_eq_true] at h
          cases h
          subst e1'
          simp only [beq_self_eq_true]
          exact ⟨v, rfl, r1⟩
        · have b1 : (f == n) = false := beq_eq_false_iff_ne.mpr hn
          have b2 : (c.nm f == g) = false := by
            rw [e1']
            exact beq_eq_false_iff_ne.mpr fun z => hn (c.inj f n hf (hb n List.mem_cons_self) z)
          rw [b1] at h
          rw [b2]
          exact ih (fun k hk => hb k (List.mem_cons_of_mem _ hk)) hf e2 (by rw [q2]; exact r2) h
theorem FR.lookup {rel : Wv → V → Prop} {f : Nat} (hf : f < c.N) : ∀ {fs : List (Nat × Wv)} {vs : List (Str × V)} {w : Wv}, FR c rel fs vs → fs.lookup f = some w → ∃ v, vs.lookup (c.nm f) = some v ∧ rel w v
  | [], _, _, _, h => by cases h
  | (g, u) :: r, vs, w, hr, h => by
    obtain ⟨v, s, e, n, q, t⟩ := hr
    subst e
    rw [List.lookup_cons] at h ⊢
    by_cases hn : f = g
    · subst hn
      simp only [beq_self_eq_true] at h ⊢
      cases h
      exact ⟨v, rfl, q⟩
    · have b1 : (f == g) = false := beq_eq_false_iff_ne.mpr hn
      have b2 : (c.nm f == c.nm g) = false := beq_eq_false_iff_ne.mpr fun z => hn (c.inj f g hf n z)
      rw [b1] at h
      rw [b2]
      exact FR.lookup hf t h
theorem FR.lookup_none {rel : Wv → V → Prop} {f : Nat} (hf : f < c.N) : ∀ {fs : List (Nat × Wv)} {vs : List (Str × V)}, FR c rel fs vs → fs.lookup f = none → vs.lookup (c.nm f) = none
  | [], _, hr, _ => by cases (show _ = [] from hr); rfl
  | (g, u) :: r, vs, hr, h => by
    obtain ⟨v, s, e, n, q, t⟩ := hr
    subst e
    rw [List.lookup_cons] at h ⊢
    by_cases hn : f = g
    · subst hn
      simp only [beq_self_eq_true] at h
      cases h
    · have b1 : (f == g) = false := beq_eq_false_iff_ne.mpr hn
      have b2 : (c.nm f == c.nm g) = false := beq_eq_false_iff_ne.mpr fun z => hn (c.inj f g hf n z)
      rw [b1] at h
      rw [b2]
      exact FR.lookup_none hf t h
def Wv.r : Wv → Rv
  | .t d => .t d
  | .l n => .l n
@[simp] theorem Wv.r_t (d : D) : (Wv.t d).r = .t d := rfl
@[simp] theorem Wv.r_l (n : Nat) : (Wv.l n).r = .l n := rfl
theorem WR.r {μ : Nat → Addr} {M : Store} {G H : Hp} {w : Wv} {v : V} (h : WR c μ M.length G w v) : RR c μ M G H w.r v := by
  cases w with
  | t d => exact h
  | l n => exact h
/-- what a class must have for its attributes to be read: none of the names stands in the class -/
def Attr (c : Vc) (C f : Nat) : Prop := Cls c.K (c.ρ C) ∧ NoAttr c.K (c.ρ C) (c.nm f) ∧ f < c.N
def fFld (Cs : List Nat) (f : Nat) (w : Wv) (M : Store) : Res Rv := match w with
  | .t (.ins C ns xs) => if C ∈ Cs then (match (ns.zip xs).lookup f with
    | some d => .ok (.t d) M
    | none => .bad) else .bad
  | .l n => (match M[n]? with
    | some (.obj C fs) => if C ∈ Cs then (match fs.lookup f with
      | some w => .ok w.r M
      | none => .bad) else .bad
    | _ => .bad)
  | _ => .bad
def vFld (Cs : List Nat) (f : Nat) (g : SemE) : SemE := fun Γ M => (g Γ M).bind fun r M1 => fFld Cs f r.w M1
theorem de_fld {Cs : List Nat} {f : Nat} {fx : Str} {e : Expr} {g : SemE} {pos : Pos} (hK : c.K = X.K) (hf : c.nm f = fx) (hC : ∀ C ∈ Cs, Attr c C f) (he : DE c X W e g) (hb : attributeBase e fx X.env (eval e X.env) = eval e X.env) : DE c X W (.Attribute e fx pos) (vFld Cs f g) := by
  refine peImp (pe_fld he hb) fun σ H Q h => ?_
  rw [← hK]
  refine lift_bind (g := fun w _ M1 => fFld Cs f w M1) h fun w x H1 ⟨μ, G, Γ, M, R, hd, F⟩ => ?_
  have hw := heldOne hd
  cases w with
  | t d =>
    cases d with
    | ins C ns xs =>
      dsimp only [fFld] at F
      split at F
      · rename_i hm
        split at F
        · rename_i d ed
          obtain ⟨a, dx, fs, e1, e2, e3, e4, e5⟩ := rf_ins.mp (wr_t hw)
          obtain ⟨c1, c2, c3⟩ := hC C hm
          obtain ⟨v, q1, q2⟩ := inj_map e4 c3 e3 e5 ed
          rw [hf] at q1 c2
          exact ⟨a, c.ρ C, dx, fs, v, e1, R.gh _ _ e2, c1, c2, q1, F μ G v H1 Ext.refl R q2⟩
        · exact F.elim
      · exact F.elim
    | _ => exact F.elim
  | l n =>
    obtain ⟨hn, ex⟩ := (show n < M.length ∧ x = .ref (μ n) from hw)
    dsimp only [fFld] at F
    split at F
    · rename_i C fs ec
      split at F
      · rename_i hm
        split at F
        · rename_i w' ed
          obtain ⟨_, dx, vs, e2, e3⟩ := R.ce n _ ec
          obtain ⟨c1, c2, c3⟩ := hC C hm
          obtain ⟨v, q1, q2⟩ := e3.lookup c3 ed
          rw [hf] at q1 c2
          exact ⟨μ n, c.ρ C, dx, vs, v, ex, e2, c1, c2, q1, F μ G v H1 Ext.refl R (WR.r q2)⟩
        · exact F.elim
      · exact F.elim
    · exact F.elim

/-! ### calls of defs -/
abbrev FnSem := List Wv → Store → Res Rv
def FinF (c : Vc) (μ : Nat → Addr) (G : Hp) (m : Nat) (Q : VK) (E : XK) : Res Rv → Prop
  | .ok r M' => ∀ μ' G' v H', Ext μ G m μ' G' M'.length → Rel c μ' G' [] M' [] H' → RR c μ' M' G' H' r v → Q v H'
  | .exc C fs M' => ∀ μ' G' cls dd H', Ext μ G m μ' G' M'.length → Rel c μ' G' [] M' [] H' → ExcAt c G' C fs cls dd → E cls dd H'
  | .bad => False
/-- what a def promises that does φ -/
def spV (c : Vc) (n : Nat) (φ : FnSem) : Sp := fun vs H Q E => ∃ μ G M ws, ws.length = n ∧ vs.length = n ∧ Rel c μ G (ws.map some) M (vs.map some) H ∧ FinF c μ G M.length Q E (φ ws M)
theorem spV_len {n : Nat} {φ : FnSem} : ∀ vs H Q E, spV c n φ vs H Q E → vs.length = n := fun vs H Q E ⟨_, _, _, _, _, h, _⟩ => h
theorem Rel.back {μ μ' : Nat → Addr} {G G' H H' : Hp} {Γ : VEnv} {M M' : Store} {σ : L2.St} (R : Rel c μ G Γ M σ H) (e : Ext μ G M.length μ' G' M'.length) (R' : Rel c μ' G' [] M' [] H') : Rel c μ' G' Γ M' σ H' :=
  R'.env R.len fun i w h => let ⟨v, h1, h2⟩ := R.sl i w h; ⟨v, h1, h2.ext e⟩
theorem Held.get {μ : Nat → Addr} {m : Nat} {G : Hp} : ∀ {ws : List Wv} {vs : List V} {i : Nat} {w : Wv}, Held c μ m G ws vs → ws[i]? = some w → ∃ v, vs[i]? = some v ∧ WR c μ m G w v
  | [], _, _, _, _, h => by simp at h
  | w :: ws, vs, 0, u, h, e => by
    obtain ⟨v, r, q, h1, h2⟩ := h
    subst q
    simp at e
    subst e
    exact ⟨v, rfl, h1⟩
  | w :: ws, vs, i + 1, u, h, e => by
    obtain ⟨v, r, q, h1, h2⟩ := h
    subst q
    obtain ⟨v', e1, e2⟩ := Held.get (i := i) h2 (by simpa using e)
    exact ⟨v', by simpa using e1, e2⟩
theorem Rel.args {μ : Nat → Addr} {G H : Hp} {Γ : VEnv} {M : Store} {σ : L2.St} (R : Rel c μ G Γ M σ H) {ws : List Wv} {vs : List V} (h : Held c μ M.length G ws vs) : Rel c μ G (ws.map some) M (vs.map some) H := by
  refine R.env (by rw [List.length_map, List.length_map, h.length]) fun i w e => ?_
  rw [List.getElem?_map, Option.map_eq_some_iff] at e
  obtain ⟨u, e1, e2⟩ := e
  cases e2
  obtain ⟨v, q1, q2⟩ := h.get e1
  exact ⟨v, by rw [List.getElem?_map, q1]; rfl, q2⟩
theorem finF_of {μ : Nat → Addr} {G H : Hp} {Γ : VEnv} {M : Store} {σ : L2.St} (R : Rel c μ G Γ M σ H) {Q : VK} {x : Res Rv} (F : FinG c W σ Γ (rrE c) μ G M.length Q x) : FinF c μ G M.length Q (WE W σ) x := by
  cases x with
  | ok r M' => exact fun μ' G' v H' e R' q => F μ' G' v H' e (R.back e R') q
  | exc C fs M' => exact fun μ' G' cls dd H' e R' q => F μ' G' cls dd H' e (R.back e R') q
  | bad => exact F
def vDef (n : Nat) (φ : FnSem) (g : ES (List Wv)) : SemE := fun Γ M => (g Γ M).bind fun as M1 => if as.length = n then φ as M1 else .bad
theorem vDef_ok {n : Nat} {φ : FnSem} {g : ES (List Wv)} (σ : L2.St) (H : Hp) (Q : VK) (h : lift c W (vDef n φ g) σ H Q) : liftA c W g σ H (fun vs H1 => spV c n φ vs H1 Q (WE W σ)) := by
  refine lift_bindA (g := fun as _ M1 => if as.length = n then φ as M1 else .bad) h fun as xs H1 μ G Γ M R ha _ F => ?_
  split at F
  · rename_i hl
    exact ⟨μ, G, M, as, hl, by rw [ha.length]; exact hl, R.args ha, finF_of R F⟩
  · exact F.elim
section
variable {k n : Nat} {φ : FnSem} {f : Addr} {fd : FuncData} {ps : List Str} {x : Str} {p pos : Pos} {e : Expr} {es : List Expr} {g : ES (List Wv)}
theorem de_call (F : FnOk X.prog X.w X.K X.mg X.base (L2N.CX X.prog X.w) k f fd ps (spV c n φ)) (hr : Room k X.A) (hg : Gl X x) (hm : X.mg x = some (.ref f)) (hk : PySem.W.keepIn X.K (.ref f) = true) (hb : Binds X.K fd ps []) (tk : L2N.Takes X W)
    (ha : DA c X W (e :: es) g) (hdb : (x == ("__debug__" : Str)) = false := by decide) (he : starEach (e :: es) X.env = (false, eval e X.env) :: starEach es X.env := by rfl) (hpl : (backTo pos (starEach es X.env)).any (·.1) = false := by rfl) :
    DE c X W (.Call (.Name x p) (e :: es) [] pos) (vDef n φ g) :=
  peImp (pe_callS F hr hg hm hk hb (L2N.passAt tk) ha hdb he hpl) fun σ H Q h => vDef_ok σ H Q h
end
end
end VL

set_option Elab.async false
set_option linter.all false
set_option maxRecDepth 100000
set_option maxHeartbeats 400000
/-! VL7: statements, loops. -/
namespace VL
open PySem PySem.Spec PyProof.Rows L2

inductive Fl where
  | nx | bk | ct | rt (r : Rv)
inductive RS where
  | ok (f : Fl) (Γ : VEnv) (M : Store)
  | exc (C : Nat) (fs : List (Nat × D)) (Γ : VEnv) (M : Store)
  | bad
abbrev SemS := VEnv → Store → RS
def FinS (c : Vc) (W : WX) (μ : Nat → Addr) (G : Hp) (m : Nat) (D : Ends) : RS → Prop
  | .ok .nx Γ' M' => ∀ μ' G' σ' H', Ext μ G m μ' G' M'.length → Rel c μ' G' Γ' M' σ' H' → D.nx σ' H'
  | .ok .bk Γ' M' => ∀ μ' G' σ' H', Ext μ G m μ' G' M'.length → Rel c μ' G' Γ' M' σ' H' → D.bk σ' H'
  | .ok .ct Γ' M' => ∀ μ' G' σ' H', Ext μ G m μ' G' M'.length → Rel c μ' G' Γ' M' σ' H' → D.ct σ' H'
  | .ok (.rt r) Γ' M' => ∀ μ' G' σ' H' v, Ext μ G m μ' G' M'.length → Rel c μ' G' Γ' M' σ' H' → RR c μ' M' G' H' r v → D.rt v H'
  | .exc C fs Γ' M' => ∀ μ' G' σ' H' cls dd, Ext μ G m μ' G' M'.length → Rel c μ' G' Γ' M' σ' H' → ExcAt c G' C fs cls dd → W cls dd σ' H'
  | .bad => False
section
variable {c : Vc} {W : WX} {μ μ' : Nat → Addr} {G G' : Hp} {m m' : Nat} {D D' : Ends} {x : RS}
theorem FinS.ext (e : Ext μ G m μ' G' m') (h : FinS c W μ G m D x) : FinS c W μ' G' m' D x := by
  cases x with
  | ok f Γ M =>
    cases f with
    | rt r => exact fun μ2 G2 σ' H' v e2 R q => h μ2 G2 σ' H' v (e.trans e2) R q
    | _ => exact fun μ2 G2 σ' H' e2 R => h μ2 G2 σ' H' (e.trans e2) R
  | exc C fs Γ M => exact fun μ2 G2 σ' H' cls dd e2 R q => h μ2 G2 σ' H' cls dd (e.trans e2) R q
  | bad => exact h
end
/-- the reading of a statement's function -/
def liftS (c : Vc) (W : WX) (f : SemS) : TS := fun D σ H => ∃ μ G Γ M, Rel c μ G Γ M σ H ∧ FinS c W μ G M.length D (f Γ M)
abbrev DS (c : Vc) (X : Cx) (W : WX) (st : Stmt) (f : SemS) : Prop := PS X st (liftS c W f)
abbrev DSs (c : Vc) (X : Cx) (W : WX) (st : List Stmt) (f : SemS) : Prop := PSs X st (liftS c W f)
theorem psImp {X : Cx} {st : Stmt} {t t' : TS} (h : PS X st t) (i : ∀ D σ H, t' D σ H → t D σ H) : PS X st t' := ⟨fun pins s σ H D I q => h.run pins s σ H D I (i _ _ _ q)⟩
theorem pssImp {X : Cx} {st : List Stmt} {t t' : TS} (h : PSs X st t) (i : ∀ D σ H, t' D σ H → t D σ H) : PSs X st t' := ⟨fun pins s σ H D I q => h.run pins s σ H D I (i _ _ _ q)⟩
/-- an expression, then a statement -/
def Res.bindS {α : Type} (x : Res α) (Γ : VEnv) (k : α → Store → RS) : RS := match x with
  | .ok a M => k a M
  | .exc C fs M => .exc C fs Γ M
  | .bad => .bad
@[simp] theorem Res.bindS_ok {α : Type} (a : α) (M : Store) (Γ : VEnv) (k : α → Store → RS) : (Res.ok a M).bindS Γ k = k a M := rfl
@[simp] theorem Res.bindS_exc {α : Type} (C : Nat) (fs : List (Nat × D)) (M : Store) (Γ : VEnv) (k : α → Store → RS) : (Res.exc C fs M : Res α).bindS Γ k = .exc C fs Γ M := rfl
@[simp] theorem Res.bindS_bad {α : Type} (Γ : VEnv) (k : α → Store → RS) : (Res.bad : Res α).bindS Γ k = .bad := rfl
/-- an expression's reading from a statement's -/
theorem bindS_ok {α β : Type} {c : Vc} {W : WX} {rr : (Nat → Addr) → Store → Hp → Hp → α → β → Prop} {f : ES α} {k : α → VEnv → Store → RS} {D : Ends} {σ : L2.St} {H : Hp} {P : β → Hp → Prop}
    (h : liftS c W (fun Γ M => (f Γ M).bindS Γ fun a M1 => k a Γ M1) D σ H)
    (i : ∀ a v H1 μ G Γ M, Rel c μ G Γ M σ H1 → rr μ M G H1 a v → FinS c W μ G M.length D (k a Γ M) → P v H1) : liftG c W rr [] [] f σ H P := by
  obtain ⟨μ, G, Γ, M, R, F⟩ := h
  refine ⟨μ, G, Γ, M, R, rfl, ?_⟩
  cases e : f Γ M with
  | ok r M1 =>
    dsimp only at F
    rw [e] at F
    exact fun μ' G' v H' ex R1 q => i r v H' μ' G' Γ M1 R1 q (FinS.ext ex F)
  | exc C fs M1 =>
    dsimp only at F
    rw [e] at F
    exact fun μ' G' cls dd H' ex R1 q => F μ' G' σ H' cls dd ex R1 q
  | bad =>
    dsimp only at F
    rw [e] at F
    exact F
section
variable {c : Vc} {X : Cx} {W : WX} {pos : Pos}
/-! ### blocks -/
def vNext : SemS := fun Γ M => .ok .nx Γ M
def kSeq (g : SemS) : RS → RS
  | .ok .nx Γ M => g Γ M
  | r => r
def vSeq (f g : SemS) : SemS := fun Γ M => kSeq g (f Γ M)
theorem dss_nil : DSs c X W [] vNext := pssImp pss_nil fun D σ H ⟨μ, G, Γ, M, R, F⟩ => F μ G σ H Ext.refl R
theorem dss_one {st : Stmt} {f : SemS} (h : DS c X W st f) : DSs c X W [st] f := pss_one h
theorem dss_cons {st : Stmt} {rest : List Stmt} {f g : SemS} (h1 : DS c X W st f) (h2 : DSs c X W rest g) : DSs c X W (st :: rest) (vSeq f g) := by
  refine pssImp (pss_cons h1 h2) fun D σ H ⟨μ, G, Γ, M, R, F⟩ => ⟨μ, G, Γ, M, R, ?_⟩
  unfold vSeq at F
  cases e : f Γ M with
  | ok fl Γ1 M1 =>
    rw [e] at F
    cases fl with
    | nx => exact fun μ' G' σ' H' ex R1 => ⟨μ', G', Γ1, M1, R1, FinS.ext ex F⟩
    | _ => exact F
  | exc C fs Γ1 M1 => rw [e] at F; exact F
  | bad => rw [e] at F; exact F
theorem ds_pass : DS c X W (.Pass pos) vNext := psImp ps_pass fun D σ H ⟨μ, G, Γ, M, R, F⟩ => F μ G σ H Ext.refl R
def vBrk : SemS := fun Γ M => .ok .bk Γ M
def vCont : SemS := fun Γ M => .ok .ct Γ M
theorem ds_break : DS c X W (.Break pos) vBrk := psImp ps_break fun D σ H ⟨μ, G, Γ, M, R, F⟩ => F μ G σ H Ext.refl R
theorem ds_continue : DS c X W (.Continue pos) vCont := psImp ps_continue fun D σ H ⟨μ, G, Γ, M, R, F⟩ => F μ G σ H Ext.refl R
def vDrop (f : SemE) : SemS := fun Γ M => (f Γ M).bindS Γ fun _ M1 => .ok .nx Γ M1
theorem ds_expr {e : Expr} {f : SemE} (he : DE c X W e f) (hs : swapsWith e none pos.line X.env = pure false := by rfl) : DS c X W (.Expr e pos) (vDrop f) :=
  psImp (ps_expr he hs) fun D σ H h => bindS_ok (k := fun _ Γ M1 => .ok .nx Γ M1) h fun a v H1 μ G Γ M R q F => F μ G σ H1 Ext.refl R
def vRet (f : SemE) : SemS := fun Γ M => (f Γ M).bindS Γ fun r M1 => .ok (.rt r) Γ M1
theorem ds_ret {e : Expr} {f : SemE} (he : DE c X W e f) (h : PS X (.Return (some e) pos) (tRet (lift c W f))) : DS c X W (.Return (some e) pos) (vRet f) :=
  psImp h fun D σ H h => bindS_ok (k := fun r Γ M1 => .ok (.rt r) Γ M1) h fun a v H1 μ G Γ M R q F => F μ G σ H1 v Ext.refl R q
def vRetN : SemS := fun Γ M => .ok (.rt (.t .non)) Γ M
theorem ds_retN : DS c X W (.Return none pos) vRetN := psImp ps_retN fun D σ H ⟨μ, G, Γ, M, R, F⟩ => F μ G σ H .non Ext.refl R mk_non
def kIfS (f g : SemS) (b : Bool) : SemS := match b with
  | true => f
  | false => g
def vIfS (t : ES Bool) (f g : SemS) : SemS := fun Γ M => (t Γ M).bindS Γ fun b M1 => kIfS f g b Γ M1
theorem ds_if {t : Expr} {a b : List Stmt} {ft : ES Bool} {f g : SemS} (ht : DT c X W t ft) (ha : DSs c X W a f) (hb : DSs c X W b g) : DS c X W (.If t a b pos) (vIfS ft f g) :=
  psImp (ps_if ht ha hb) fun D σ H h => bindS_ok (rr := rrT) (k := kIfS f g) h fun b v H1 μ G Γ M R q F => by
    cases q
    cases b with
    | true => exact iteT ⟨μ, G, Γ, M, R, F⟩
    | false => exact iteF ⟨μ, G, Γ, M, R, F⟩

/-! ### targets -/
abbrev SemG := Wv → SemS
def liftGt (c : Vc) (W : WX) (t : SemG) : TG := fun v σ H Q => ∃ w μ G Γ M, Rel c μ G Γ M σ H ∧ WR c μ M.length G w v ∧ FinS c W μ G M.length { nx := Q, rt := fun _ _ => False } (t w Γ M)
abbrev DG (c : Vc) (X : Cx) (W : WX) (tg : Expr) (t : SemG) : Prop := PG X tg (liftGt c W t)
theorem pgImp {tg : Expr} {t t' : TG} (h : PG X tg t) (i : ∀ v σ H Q, t' v σ H Q → t v σ H Q) : PG X tg t' := ⟨fun pins s σ H v u Q I r q => h.run pins s σ H v u Q I r (i _ _ _ _ q)⟩
theorem pgsImp {tg : List Expr} {t t' : TGs} (h : PGs X tg t) (i : ∀ v σ H Q, t' v σ H Q → t v σ H Q) : PGs X tg t' := ⟨fun pins s σ H v u Q I r q => h.run pins s σ H v u Q I r (i _ _ _ _ q)⟩
def tgN (i : Nat) : SemG := fun w Γ M => .ok .nx (Γ.set i (some w)) M
theorem dg_name {i : Nat} {e : Expr} (h : PG X e (gName i)) : DG c X W e (tgN i) :=
  pgImp h fun v σ H Q ⟨w, μ, G, Γ, M, R, hw, F⟩ => F μ G _ H Ext.refl (R.store hw)
abbrev SemGs := List Wv → SemS
def liftGts (c : Vc) (W : WX) (t : SemGs) : TGs := fun vs σ H Q => ∃ ws μ G Γ M, Rel c μ G Γ M σ H ∧ Held c μ M.length G ws vs ∧ FinS c W μ G M.length { nx := Q, rt := fun _ _ => False } (t ws Γ M)
abbrev DGs (c : Vc) (X : Cx) (W : WX) (tgs : List Expr) (t : SemGs) : Prop := PGs X tgs (liftGts c W t)
def tgsNil : SemGs := fun ws Γ M => match ws with
  | [] => .ok .nx Γ M
  | _ => .bad
def tgsCons (t : SemG) (u : SemGs) : SemGs := fun ws Γ M => match ws with
  | w :: r => kSeq (u r) (t w Γ M)
  | [] => .bad
theorem dgs_nil : DGs c X W [] tgsNil := pgsImp pgs_nil fun vs σ H Q ⟨ws, μ, G, Γ, M, R, hw, F⟩ => by
  unfold tgsNil at F
  split at F
  · exact ⟨hw, F μ G σ H Ext.refl R⟩
  · exact F.elim
theorem dgs_cons {e : Expr} {es : List Expr} {t : SemG} {u : SemGs} (h1 : DG c X W e t) (h2 : DGs c X W es u) (hs : (assignEach (e :: es) X.env).map (·.2) = assign e X.env :: (assignEach es X.env).map (·.2) := by rfl) : DGs c X W (e :: es) (tgsCons t u) :=
  pgsImp (pgs_cons h1 h2 hs) fun vs σ H Q ⟨ws, μ, G, Γ, M, R, hw, F⟩ => by
    unfold tgsCons at F
    split at F
    · rename_i w r
      obtain ⟨v, vr, e, q1, q2⟩ := hw
      refine ⟨v, vr, e, w, μ, G, Γ, M, R, q1, ?_⟩
      cases e1 : t w Γ M with
      | ok fl Γ1 M1 =>
        rw [e1] at F
        cases fl with
        | nx => exact fun μ' G' σ' H' ex R1 => ⟨r, μ', G', Γ1, M1, R1, q2.ext ex, FinS.ext ex F⟩
        | bk => exact F
        | ct => exact F
        | rt r => exact F
      | exc C fs Γ1 M1 => rw [e1] at F; exact F
      | bad => rw [e1] at F; exact F
    · exact F.elim
def tgTup (n : Nat) (u : SemGs) : SemG := fun w Γ M => match w with
  | .t (.tup ds) => if ds.length = n then u (ds.map .t) Γ M else .bad
  | _ => .bad
theorem held_map {μ : Nat → Addr} {m : Nat} {G : Hp} : ∀ {ds : List D} {vs : List V}, RFs c G ds vs → Held c μ m G (ds.map .t) vs
  | [], vs, h => by rw [RFs] at h; exact h
  | d :: ds, vs, h => by
    rw [RFs] at h
    obtain ⟨v, r, e, h1, h2⟩ := h
    exact ⟨v, r, e, h1, held_map h2⟩
theorem dg_tup {es : List Expr} {k n : Nat} {u : SemGs} (hK : c.K = X.K) (hc : X.calm = true) (h : DGs c X W es u) (hn : (assignEach es X.env).length = n := by rfl) (hst : (assignEach es X.env).findIdx? (·.1) = none := by rfl) : DG c X W (.Tuple es k pos) (tgTup n u) :=
  pgImp (pg_tup hc h hn hst) fun v σ H Q ⟨w, μ, G, Γ, M, R, hw, F⟩ => by
    unfold tgTup at F
    split at F
    · rename_i ds
      split at F
      · rename_i hl
        obtain ⟨a, vs, e, q, r⟩ := R.drT hw rfl
        rw [← hK]
        exact ⟨a, vs, e, q, by rw [r.length]; exact hl, _, μ, G, Γ, M, R, held_map r, F⟩
      · exact F.elim
    · exact F.elim
/-- o.f = .. -/
def putW (f : Nat) (w : Wv) : List (Nat × Wv) → List (Nat × Wv)
  | [] => [(f, w)]
  | (g, x) :: r => if g = f then (g, w) :: r else (g, x) :: putW f w r
theorem FR.put {rel : Wv → V → Prop} {f : Nat} {w : Wv} {v : V} (hf : f < c.N) (h : rel w v) : ∀ {fs : List (Nat × Wv)} {vs : List (Str × V)}, FR c rel fs vs → FR c rel (putW f w fs) (putF (c.nm f) v vs)
  | [], vs, hr => by
    cases (show vs = [] from hr)
    exact ⟨v, [], rfl, hf, h, rfl⟩
  | (g, x) :: r, vs, hr => by
    obtain ⟨u, s, e, n, q, t⟩ := hr
    subst e
    unfold putW putF
    by_cases hg : g = f
    · subst hg
      rw [if_pos rfl, if_pos rfl]
      exact ⟨v, s, rfl, n, h, t⟩
    · rw [if_neg hg, if_neg fun z => hg (c.inj g f n hf z)]
      exact ⟨u, _, rfl, n, q, FR.put hf h t⟩
def gFldV (K : PySem.W.Frag) (to : TE) (f : Str) : TG := fun v σ H Q => to σ H fun x H2 => ∃ a C dx fs, x = .ref a ∧ H2 a = some (.ins C dx fs) ∧ Cls K C ∧ NoAttr K C f ∧ fs.length < 1000 ∧ Q σ (upd H2 a (.ins C dx (putF f v fs)))
theorem pg_fldV {o : Expr} {to : TE} {f : Str} (ho : PE X o to) : PG X (.Attribute o f pos) (gFldV X.K to f) := by
  refine ⟨fun pins s σ H v u Q I r h => PySem.W.kas_attr ?_⟩
  refine thn (ho.run pins s σ H _ I h) fun ov s1 ⟨x, H1, I1, rx, a, C, dx, fs, ex, ea, k1, k2, l, q⟩ => ?_
  subst ex
  obtain rfl : ov = Value.ref a := rx
  exact setattr_ok I1 ea k1 k2 l r fun s3 I3 => ⟨σ, _, I3, q⟩
def kSetF (Cs : List Nat) (f : Nat) (w : Wv) (r : Rv) (M : Store) : Option Store := match r with
  | .l n => (match M[n]? with
    | some (.obj C fs) => if C ∈ Cs ∧ fs.length < 1000 then some (M.set n (.obj C (putW f w fs))) else none
    | _ => none)
  | _ => none
def tgF (Cs : List Nat) (f : Nat) (g : SemE) : SemG := fun w Γ M => (g Γ M).bindS Γ fun r M1 => match kSetF Cs f w r M1 with
  | some M2 => .ok .nx Γ M2
  | none => .bad
theorem dg_fld {Cs : List Nat} {f : Nat} {fx : Str} {o : Expr} {g : SemE} (hK : c.K = X.K) (hf : c.nm f = fx) (hC : ∀ C ∈ Cs, Attr c C f) (ho : DE c X W o g) : DG c X W (.Attribute o fx pos) (tgF Cs f g) :=
  pgImp (pg_fldV ho) fun v σ H Q ⟨w, μ, G, Γ, M, R, hw, F⟩ => by
    refine ⟨μ, G, Γ, M, R, rfl, ?_⟩
    unfold tgF at F
    cases e : g Γ M with
    | bad => rw [e] at F; exact F
    | exc C fs M1 => rw [e] at F; exact fun μ' G' cls dd H' ex R1 q => F μ' G' σ H' cls dd ex R1 q
    | ok r M1 =>
      rw [e, Res.bindS_ok] at F
      intro μ' G' x H' ex R1 q
      cases r with
      | l n =>
        obtain ⟨hn, ev⟩ := (show n < M1.length ∧ x = .ref (μ' n) from q)
        cases em : M1[n]? with
        | none => simp only [kSetF, em] at F; exact F.elim
        | some cl =>
          cases cl with
          | obj C fs =>
            by_cases hm : C ∈ Cs ∧ fs.length < 1000
            · simp only [kSetF, em, if_pos hm] at F
              obtain ⟨g0, dx, vs, e2, e3⟩ := R1.ce n _ em
              obtain ⟨c1, c2, c3⟩ := hC C hm.1
              rw [hf] at c2
              rw [← hK]
              refine ⟨_, c.ρ C, dx, vs, ev, e2, c1, c2, by rw [e3.length]; exact hm.2, F μ' G' σ _ (ex.trans ext_set) (R1.put ⟨_, em, trivial⟩ ⟨g0, dx, _, upd_same, ?_⟩)⟩
              rw [← hf]
              exact FR.put c3 (hw.ext ex) e3
            · simp only [kSetF, em, if_neg hm] at F; exact F.elim
          | lst xs => simp only [kSetF, em] at F; exact F.elim
          | dead => simp only [kSetF, em] at F; exact F.elim
          | exn a' cls dd C fs => simp only [kSetF, em] at F; exact F.elim
          | rng lo hi => simp only [kSetF, em] at F; exact F.elim
          | opq t k as ds => simp only [kSetF, em] at F; exact F.elim
      | t d => simp only [kSetF] at F; exact F.elim
      | f d => simp only [kSetF] at F; exact F.elim
/-- xs[i] = .. -/
def kSetI (w : Wv) (o i : Wv) (M : Store) : Option Store := match w, o, i with
  | .t d, .l n, .t (.int k) => (match M[n]? with
    | some (.lst xs) => (match ixN xs.length k with
      | some j => some (M.set n (.lst (xs.set j d)))
      | none => none)
    | _ => none)
  | _, _, _ => none
def kOpt (Γ : VEnv) : Option Store → RS
  | some M => .ok .nx Γ M
  | none => .bad
def tgI (f g : SemE) : SemG := fun w Γ M => (f Γ M).bindS Γ fun r M1 => (g Γ M1).bindS Γ fun r2 M2 => kOpt Γ (kSetI w r.w r2.w M2)
theorem dg_sub {o i : Expr} {f g : SemE} (ho : DE c X W o f) (hi : DE c X W i g) (h : ∀ {to ti : TE}, PE X o to → PE X i ti → PG X (.Subscript o i pos) (gSub to ti rSetL)) : DG c X W (.Subscript o i pos) (tgI f g) :=
  pgImp (h ho hi) fun v σ H Q ⟨w, μ, G, Γ, M, R, hw, F⟩ => by
    refine ⟨μ, G, Γ, M, R, rfl, ?_⟩
    unfold tgI at F
    cases e : f Γ M with
    | bad => rw [e] at F; exact F
    | exc C fs M1 => rw [e] at F; exact fun μ' G' cls dd H' ex R1 q => F μ' G' σ H' cls dd ex R1 q
    | ok r M1 =>
      rw [e, Res.bindS_ok] at F
      intro μ' G' x H' ex R1 q
      obtain ⟨G2, s, R2, wr⟩ := RR.frz R1 q
      have ex2 : Ext μ G M.length μ' G2 M1.length := ex.trans ⟨s, fun _ _ => rfl, Nat.le_refl _⟩
      refine ⟨μ', G2, Γ, M1, R2, rfl, ?_⟩
      cases e2 : g Γ M1 with
      | bad => rw [e2] at F; exact F
      | exc C fs M2 => rw [e2] at F; exact fun μ3 G3 cls dd H3 ex3 R3 q3 => F μ3 G3 σ H3 cls dd (ex2.trans ex3) R3 q3
      | ok r2 M2 =>
        rw [e2, Res.bindS_ok] at F
        intro μ3 G3 y H3 ex3 R3 q3
        obtain ⟨G4, s4, R4, wr4⟩ := RR.frz R3 q3
        have ex4 : Ext μ' G2 M1.length μ3 G4 M2.length := ex3.trans ⟨s4, fun _ _ => rfl, Nat.le_refl _⟩
        have hr := wr.ext ex4
        have hw4 := hw.ext (ex2.trans ex4)
        generalize r.w = ow at F hr
        generalize r2.w = iw at F wr4
        unfold kSetI at F
        split at F
        · rename_i d n k
          obtain ⟨hn, eo⟩ := (show n < M2.length ∧ x = .ref (μ3 n) from hr)
          split at F
          · rename_i xs em
            split at F
            · rename_i j ej
              obtain ⟨vs, h1, h2⟩ := R4.getL em
              exact ⟨μ3 n, vs, k, j, eo, wr_int wr4, h1, by rw [h2.length]; exact ej, F μ3 G4 σ _ ((ex2.trans ex4).trans ext_set) (R4.putL em (h2.set (wr_t hw4) j))⟩
            · exact F.elim
          · exact F.elim
        · exact F.elim

/-! ### assignments -/
def vAsg (f : SemE) (t : SemG) : SemS := fun Γ M => (f Γ M).bindS Γ fun r M1 => t r.w Γ M1
theorem vAsg_ok {f : SemE} {t : SemG} (ht : ∀ w Γ M, (∃ Γ' M', t w Γ M = .ok .nx Γ' M') ∨ (∃ C fs Γ' M', t w Γ M = .exc C fs Γ' M') ∨ t w Γ M = .bad) (D : Ends) (σ : L2.St) (H : Hp) (h : liftS c W (vAsg f t) D σ H) : tAsg (lift c W f) (liftGt c W t) D σ H :=
  bindS_ok (rr := rrE c) (f := f) (k := fun (r : Rv) Γ M1 => t r.w Γ M1) h fun r v H1 μ G Γ M R q F => by
    obtain ⟨G2, s, R2, wr⟩ := RR.frz R q
    have F2 := FinS.ext (μ' := μ) (G' := G2) (m' := M.length) ⟨s, fun _ _ => rfl, Nat.le_refl _⟩ F
    refine ⟨r.w, μ, G2, Γ, M, R2, wr, ?_⟩
    rcases ht r.w Γ M with ⟨Γ', M', e⟩ | ⟨C, fs, Γ', M', e⟩ | e
    · rw [e] at F2 ⊢; exact F2
    · rw [e] at F2 ⊢; exact F2
    · rw [e] at F2 ⊢; exact F2
/-- a target that only stores -/
def Tgt (t : SemG) : Prop := ∀ w Γ M, (∃ Γ' M', t w Γ M = .ok .nx Γ' M') ∨ (∃ C fs Γ' M', t w Γ M = .exc C fs Γ' M') ∨ t w Γ M = .bad
def Tgts (t : SemGs) : Prop := ∀ w Γ M, (∃ Γ' M', t w Γ M = .ok .nx Γ' M') ∨ (∃ C fs Γ' M', t w Γ M = .exc C fs Γ' M') ∨ t w Γ M = .bad
theorem tgN_t {i : Nat} : Tgt (tgN i) := fun w Γ M => .inl ⟨_, _, rfl⟩
theorem tgsNil_t : Tgts tgsNil := fun w Γ M => by
  cases w with
  | nil => exact .inl ⟨_, _, rfl⟩
  | cons _ _ => exact .inr (.inr rfl)
theorem tgsCons_t {t : SemG} {u : SemGs} (h : Tgt t) (k : Tgts u) : Tgts (tgsCons t u) := fun w Γ M => by
  cases w with
  | nil => exact .inr (.inr rfl)
  | cons w r =>
    show (∃ Γ' M', kSeq (u r) (t w Γ M) = .ok .nx Γ' M') ∨ (∃ C fs Γ' M', kSeq (u r) (t w Γ M) = .exc C fs Γ' M') ∨ kSeq (u r) (t w Γ M) = .bad
    rcases h w Γ M with ⟨Γ', M', e⟩ | ⟨C, fs, Γ', M', e⟩ | e
    · rw [e]; exact k r Γ' M'
    · rw [e]; exact .inr (.inl ⟨_, _, _, _, rfl⟩)
    · rw [e]; exact .inr (.inr rfl)
theorem tgTup_t {n : Nat} {u : SemGs} (k : Tgts u) : Tgt (tgTup n u) := fun w Γ M => by
  unfold tgTup
  split
  · split
    · exact k _ Γ M
    · exact .inr (.inr rfl)
  · exact .inr (.inr rfl)
theorem tgF_t {Cs : List Nat} {f : Nat} {g : SemE} : Tgt (tgF Cs f g) := fun w Γ M => by
  unfold tgF
  cases e : g Γ M with
  | bad => exact .inr (.inr rfl)
  | exc C fs M1 => exact .inr (.inl ⟨_, _, _, _, rfl⟩)
  | ok r M1 =>
    rw [Res.bindS_ok]
    cases kSetF Cs f w r M1 with
    | some M2 => exact .inl ⟨_, _, rfl⟩
    | none => exact .inr (.inr rfl)
theorem tgI_t {f g : SemE} : Tgt (tgI f g) := fun w Γ M => by
  unfold tgI
  cases f Γ M with
  | bad => exact .inr (.inr rfl)
  | exc C fs M1 => exact .inr (.inl ⟨_, _, _, _, rfl⟩)
  | ok r M1 =>
    rw [Res.bindS_ok]
    cases g Γ M1 with
    | bad => exact .inr (.inr rfl)
    | exc C fs M1 => exact .inr (.inl ⟨_, _, _, _, rfl⟩)
    | ok r2 M2 =>
      rw [Res.bindS_ok]
      cases kSetI w r.w r2.w M2 with
      | some M3 => exact .inl ⟨_, _, rfl⟩
      | none => exact .inr (.inr rfl)
theorem ds_asg {tg e : Expr} {f : SemE} {t : SemG} (he : DE c X W e f) (hg : DG c X W tg t) (ht : Tgt t) (hs : swapsWithSole [tg] e pos.line X.env = pure false := by rfl) (hw : swappedStores [tg] e X.env = pure none := by rfl)
    (h1 : (assignEach [tg] X.env).map (·.2) = [assign tg X.env] := by rfl) : DS c X W (.Assign [tg] e pos) (vAsg f t) :=
  psImp (ps_asg he hg hs hw h1) (vAsg_ok ht)
/-- x = e, where the new object of e becomes a mutable cell -/
def celOf : D → Option Cel
  | .lst xs => some (.lst xs)
  | .ins C ns xs => some (.obj C (ns.zip (xs.map .t)))
  | _ => none
def kNew (i : Nat) (r : Rv) (Γ : VEnv) (M : Store) : RS := match r with
  | .f (.lst xs) => .ok .nx (Γ.set i (some (.l M.length))) (M ++ [.lst xs])
  | .f (.ins C ns xs) => if ns.length = xs.length then .ok .nx (Γ.set i (some (.l M.length))) (M ++ [.obj C (ns.zip (xs.map .t))]) else .bad
  | .l n => .ok .nx (Γ.set i (some (.l n))) M
  | _ => .bad
def vNew (i : Nat) (f : SemE) : SemS := fun Γ M => (f Γ M).bindS Γ fun r M1 => kNew i r Γ M1
theorem fr_of {μ : Nat → Addr} {m : Nat} {G : Hp} : ∀ {ns : List Nat} {xs : List D} {fs : List (Str × V)}, ns.length = xs.length → fs.map (·.1) = ns.map c.nm → (∀ n ∈ ns, n < c.N) → RFs c G xs (fs.map (·.2)) → FR c (WR c μ m G) (ns.zip (xs.map .t)) fs
  | [], [], fs, _, e, _, _ => by
    cases fs with
    | nil => exact rfl
    | cons _ _ => cases e
  | n :: ns, x :: xs, fs, hl, e, hb, r => by
    cases fs with
    | nil => cases e
    | cons p fs =>
      obtain ⟨g, v⟩ := p
      rw [List.map_cons, List.map_cons] at e
      obtain ⟨e1, e2⟩ := List.cons.inj e
      rw [List.map_cons, RFs] at r
      obtain ⟨u, s, q, r1, r2⟩ := r
      obtain ⟨q1, q2⟩ := List.cons.inj q
      have e1' : g = c.nm n := e1
      have q1' : v = u := q1
      subst e1' q1'
      refine ⟨v, fs, rfl, hb n List.mem_cons_self, r1, fr_of (by simpa using hl) e2 (fun k hk => hb k (List.mem_cons_of_mem _ hk)) (by rw [q2]; exact r2)⟩
  | [], _ :: _, _, hl, _, _, _ => by simp at hl
  | _ :: _, [], _, hl, _, _, _ => by simp at hl
theorem vNew_ok {i : Nat} {f : SemE} (D : Ends) (σ : L2.St) (H : Hp) (h : liftS c W (vNew i f) D σ H) : tAsg (lift c W f) (gName i) D σ H :=
  bindS_ok (k := kNew i) h fun r v H1 μ G Γ M R q F => by
    unfold kNew at F
    split at F
    · rename_i xs
      obtain ⟨a, ev, ga, nl, vs, h1, h2⟩ := q
      obtain ⟨μ', ex, ea, R'⟩ := R.cell (x := .lst xs) nl fun μ' _ => ⟨ga, vs, h1, h2⟩
      refine F μ' G _ H1 ex (R'.store ⟨by rw [List.length_append, List.length_singleton]; exact Nat.lt_succ_self _, by rw [ev, ea]⟩)
    · rename_i C ns xs
      split at F
      · rename_i hl
        obtain ⟨a, ev, ga, nl, dx, fs, h1, h2, h3, h4⟩ := q
        obtain ⟨μ', ex, ea, R'⟩ := R.cell (x := .obj C (ns.zip (xs.map .t))) nl fun μ' _ => ⟨ga, dx, fs, h1, fr_of hl h2 h3 h4⟩
        refine F μ' G _ H1 ex (R'.store ⟨by rw [List.length_append, List.length_singleton]; exact Nat.lt_succ_self _, by rw [ev, ea]⟩)
      · exact F.elim
    · rename_i n
      exact F μ G _ H1 Ext.refl (R.store q)
    · exact F.elim
theorem ds_new {i : Nat} {st : Stmt} {f : SemE} (h : PS X st (tAsg (lift c W f) (gName i))) : DS c X W st (vNew i f) := psImp h vNew_ok
/-- x = e, from the reading of the store -/
theorem ds_set {i : Nat} {st : Stmt} {f : SemE} (h : PS X st (tAsg (lift c W f) (gName i))) : DS c X W st (vAsg f (tgN i)) :=
  psImp h fun D σ H h => bindS_ok (rr := rrE c) (f := f) (k := fun (r : Rv) Γ M1 => tgN i r.w Γ M1) h fun r v H1 μ G Γ M R q F => by
    obtain ⟨G2, s, R2, wr⟩ := RR.frz R q
    exact F μ G2 _ H1 ⟨s, fun _ _ => rfl, Nat.le_refl _⟩ (R2.store wr)
end
end VL

set_option Elab.async false
set_option linter.all false
set_option maxRecDepth 100000
set_option maxHeartbeats 400000
/-! VL8: loops. -/
namespace VL
open PySem PySem.Spec PyProof.Rows L2
/-- a test that need not be decided -/
noncomputable def cIf {α : Type} (p : Prop) (a b : α) : α := @ite α p (Classical.propDecidable p) a b
theorem cIf_pos {α : Type} {p : Prop} {a b : α} (h : p) : cIf p a b = a := @if_pos p (Classical.propDecidable p) h α a b
theorem cIf_neg {α : Type} {p : Prop} {a b : α} (h : ¬ p) : cIf p a b = b := @if_neg p (Classical.propDecidable p) h α a b

/-! ### cells that are no longer needed -/
def Cel.below (m : Nat) : Cel → Bool
  | .obj _ fs => fs.all fun p => match p.2 with
    | .t _ => true
    | .l n => decide (n < m)
  | .opq _ _ as _ => as.all fun n => decide (n < m)
  | _ => true
/-- the first m cells refer to none of the others -/
def okL (m : Nat) (M : Store) : Bool := M.all (Cel.below m)
def Wv.cut (m : Nat) : Option Wv → Option Wv
  | some (.l n) => if n < m then some (.l n) else none
  | w => w
theorem FR.below {c : Vc} {μ : Nat → Addr} {G : Hp} {m k : Nat} : ∀ {fs : List (Nat × Wv)} {vs : List (Str × V)}, FR c (WR c μ m G) fs vs → (fs.all fun p => match p.2 with | .t _ => true | .l n => decide (n < k)) = true → FR c (WR c μ k G) fs vs
  | [], _, h, _ => h
  | (f, w) :: r, vs, h, hb => by
    obtain ⟨v, s, e, n, q, t⟩ := h
    rw [List.all_cons, Bool.and_eq_true] at hb
    refine ⟨v, s, e, n, ?_, FR.below t hb.2⟩
    cases w with
    | t d => exact q
    | l j => exact ⟨of_decide_eq_true hb.1, q.2⟩
theorem OpqR.below {c : Vc} {μ : Nat → Addr} {G H : Hp} {m k : Nat} {a : Addr} {t : Nat} {as : List Nat} {ds : List D} (h : OpqR c μ m G H a t as ds) (hb : (as.all fun n => decide (n < k)) = true) : OpqR c μ k G H a t as ds := by
  match t, as, ds, h with
  | 0, [], ds, h => exact h
  | 1, [i, j], [], h =>
    simp at hb
    exact ⟨hb.1, hb.2, h.2.2⟩
  | 2, [], [], h => exact h
  | 3, [i, j], [], h =>
    simp at hb
    exact ⟨hb.1, hb.2, h.2.2⟩
theorem CelR.below {c : Vc} {μ : Nat → Addr} {G H : Hp} {m k : Nat} {a : Addr} {x : Cel} (h : CelR c μ m G H a x) (hb : x.below k = true) : CelR c μ k G H a x := by
  cases x with
  | dead => trivial
  | exn a' cls dd C fs => exact h
  | rng lo hi => exact h
  | opq t j as ds => exact ⟨h.1, h.2.1, h.2.2.below hb⟩
  | lst xs => exact h
  | obj C fs =>
    obtain ⟨g, dx, vs, h1, h2⟩ := h
    exact ⟨g, dx, vs, h1, FR.below h2 hb⟩
section
variable {c : Vc} {μ : Nat → Addr} {G H : Hp} {Γ : VEnv} {M : Store} {σ : L2.St}
theorem Rel.trim (R : Rel c μ G Γ M σ H) {k : Nat} (hk : k ≤ M.length) (ho : okL k (M.take k) = true) : Rel c μ G (Γ.map (Wv.cut k)) (M.take k) σ H := by
  have len : (M.take k).length = k := by rw [List.length_take]; omega
  have tk : ∀ {n : Nat} {x : Cel}, (M.take k)[n]? = some x → M[n]? = some x := fun {n x} hx => by
    rw [List.getElem?_take] at hx
    by_cases h : n < k
    · rw [if_pos h] at hx; exact hx
    · rw [if_neg h] at hx; cases hx
  have lv : ∀ n, Live (M.take k) n → Live M n := fun n ⟨x, hx, nx⟩ => ⟨x, tk hx, nx⟩
  refine ⟨R.gh, by rw [List.length_map, R.len], fun i w e => ?_, fun n x hx => ?_, fun n m ln lm q => R.inj n m (lv n ln) (lv m lm) q⟩
  · rw [List.getElem?_map, Option.map_eq_some_iff] at e
    obtain ⟨u, e1, e2⟩ := e
    rw [len]
    cases u with
    | none => cases e2
    | some u =>
      obtain ⟨v, h1, h2⟩ := R.sl i u e1
      refine ⟨v, h1, ?_⟩
      cases u with
      | t d => cases e2; exact h2
      | l n =>
        simp only [Wv.cut] at e2
        split at e2
        · rename_i hn
          cases e2
          exact ⟨hn, h2.2⟩
        · cases e2
  · rw [len]
    have hx' : M[n]? = some x := tk hx
    have hb : x.below k = true := List.all_eq_true.mp ho x (List.mem_of_getElem? hx)
    exact (R.ce n x hx').below hb
end
/-- behind a turn: the cells made in it are given up -/
def trimS (k : Nat) (Γ : VEnv) (M : Store) (g : VEnv → Store → RS) : RS := if M.length = k then g Γ M else if k < M.length ∧ okL k (M.take k) = true then g (Γ.map (Wv.cut k)) (M.take k) else .bad
theorem trimS_ok {c : Vc} {W : WX} {μ : Nat → Addr} {G H : Hp} {Γ : VEnv} {M : Store} {σ : L2.St} {D : Ends} {k : Nat} {g : VEnv → Store → RS} {μ0 : Nat → Addr} {G0 : Hp} (e : Ext μ0 G0 k μ G M.length) (R : Rel c μ G Γ M σ H) (F : FinS c W μ0 G0 k D (trimS k Γ M g)) :
    ∃ Γ' M', M'.length = k ∧ Ext μ0 G0 k μ G M'.length ∧ Rel c μ G Γ' M' σ H ∧ FinS c W μ0 G0 k D (g Γ' M') := by
  unfold trimS at F
  split at F
  · rename_i hl
    exact ⟨Γ, M, hl, e, R, F⟩
  · split at F
    · rename_i h
      have len : (M.take k).length = k := by rw [List.length_take]; omega
      exact ⟨_, _, len, ⟨e.g, e.u, by rw [len]; exact Nat.le_refl _⟩, R.trim (Nat.le_of_lt h.1) h.2, F⟩
    · exact F.elim

/-! ### what a loop walks -/
/-- the items, and the mutable list that they are of -/
structure Src where
  ds : List D
  at_ : Option (Nat × List D)
def Src.chk (s : Src) (M : Store) : Prop := match s.at_ with
  | none => True
  | some p => M[p.1]? = some (.lst p.2)
def ItOk (c : Vc) (μ1 : Nat → Addr) (G1 : Hp) (m1 : Nat) (J : It) (s : Src) : Prop := ∀ (μ : Nat → Addr) (G : Hp) (Γ : VEnv) (M : Store) (σ : L2.St) (H : Hp) (i : Nat), Ext μ1 G1 m1 μ G M.length → Rel c μ G Γ M σ H → s.chk M →
  (∀ d, s.ds[i]? = some d → J.go i H ∧ ∀ x H', J.yld i H x H' → ∃ G', Same G G' ∧ Rel c μ G' Γ M σ H' ∧ RF c G' d x) ∧ (s.ds.length ≤ i → J.stop i H)
abbrev rrI (c : Vc) : (Nat → Addr) → Store → Hp → Hp → Src → It → Prop := fun μ M G _ s J => ItOk c μ G M.length J s ∧ s.chk M
abbrev liftI (c : Vc) (W : WX) (f : ES Src) : TI := liftG c W (rrI c) [] [] f
abbrev DI (c : Vc) (X : Cx) (W : WX) (tg iter : Expr) (f : ES Src) : Prop := PI X tg iter (liftI c W f)
theorem piImp {X : Cx} {tg iter : Expr} {t t' : TI} (h : PI X tg iter t) (i : ∀ σ H R, t' σ H R → t σ H R) : PI X tg iter t' := ⟨fun pins s σ H R I q => h.run pins s σ H R I (i _ _ _ q)⟩
section
variable {c : Vc} {X : Cx} {W : WX} {pos : Pos} {tg : Expr}
/-- over a list, frozen or a mutable cell -/
def kSrc (r : Rv) (M : Store) : Res Src := match r with
  | .t (.lst xs) => .ok ⟨xs, none⟩ M
  | .t (.scr xs) => .ok ⟨xs, none⟩ M
  | .f (.lst xs) => .ok ⟨xs, none⟩ M
  | .l n => (match M[n]? with
    | some (.lst xs) => .ok ⟨xs, some (n, xs)⟩ M
    | _ => .bad)
  | _ => .bad
def kSrcT (r : Rv) (M : Store) : Res Src := match r with
  | .t (.tup xs) => .ok ⟨xs, none⟩ M
  | _ => .bad
def vSrc (f : SemE) : ES Src := fun Γ M => (f Γ M).bind kSrc
def vSrcT (f : SemE) : ES Src := fun Γ M => (f Γ M).bind kSrcT
/-- the items of a list follow -/
theorem itok_list {μ : Nat → Addr} {G H : Hp} {Γ : VEnv} {M : Store} {σ : L2.St} {a : Addr} {vs : List V} {ds : List D} (hK : c.K = X.K) (q : SqL c.K G a vs) (r : RFs c G ds vs) : ItOk c μ G M.length (Itl X.K a) ⟨ds, none⟩ := by
  intro μ' G' Γ' M' σ' H' i ex R _
  have q' : SqL X.K H' a vs := by rw [← hK]; exact R.gh.seq (ex.g.seq q)
  refine ⟨fun d hd => ?_, fun hl => ⟨vs, q', by rw [r.length]; exact hl⟩⟩
  obtain ⟨v, e1, e2⟩ := r.get hd
  refine ⟨⟨vs, v, q', e1⟩, fun x H2 y => ?_⟩
  obtain ⟨rfl, y⟩ := y
  have ey := y vs q'
  rw [e1] at ey
  cases ey
  exact ⟨G', Same.refl _, R, RF.mono ex.g d e2⟩
theorem itok_tup {μ : Nat → Addr} {G H : Hp} {Γ : VEnv} {M : Store} {σ : L2.St} {a : Addr} {vs : List V} {ds : List D} (hK : c.K = X.K) (q : SqT c.K G a vs) (r : RFs c G ds vs) : ItOk c μ G M.length (Itt X.K a) ⟨ds, none⟩ := by
  intro μ' G' Γ' M' σ' H' i ex R _
  have q' : SqT X.K H' a vs := by rw [← hK]; exact seqT_mono R.gh (seqT_mono ex.g q)
  refine ⟨fun d hd => ?_, fun hl => ⟨vs, q', by rw [r.length]; exact hl⟩⟩
  obtain ⟨v, e1, e2⟩ := r.get hd
  refine ⟨⟨vs, v, q', e1⟩, fun x H2 y => ?_⟩
  obtain ⟨rfl, y⟩ := y
  have ey := y vs q'
  rw [e1] at ey
  cases ey
  exact ⟨G', Same.refl _, R, RF.mono ex.g d e2⟩
/-- .. of a mutable list that the turns leave as it is -/
theorem itok_cell {μ : Nat → Addr} {G H : Hp} {Γ : VEnv} {M : Store} {σ : L2.St} {n : Nat} {ds : List D} (hK : c.K = X.K) (hn : n < M.length) : ItOk c μ G M.length (Itl X.K (μ n)) ⟨ds, some (n, ds)⟩ := by
  intro μ' G' Γ' M' σ' H' i ex R hc
  obtain ⟨vs, h1, r⟩ := R.getL (show M'[n]? = some (.lst ds) from hc)
  rw [ex.u n hn] at h1
  refine ⟨fun d hd => ?_, fun hl => ⟨vs, SqL.of h1, by rw [r.length]; exact hl⟩⟩
  obtain ⟨v, e1, e2⟩ := r.get hd
  refine ⟨⟨vs, v, SqL.of h1, e1⟩, fun x H2 y => ?_⟩
  obtain ⟨rfl, y⟩ := y
  have ey := y vs (SqL.of h1)
  rw [e1] at ey
  cases ey
  exact ⟨G', Same.refl _, R, e2⟩
theorem di_list {e : Expr} {f : SemE} (hK : c.K = X.K) (he : DE c X W e f) : DI c X W tg e (vSrc f) :=
  piImp (pi_list he) fun σ H Rr h => by
    refine lift_bindR (rr := rrI c) (g := fun r _ M1 => kSrc r M1) h fun r x H1 μ G Γ M R q F => ?_
    have fin : ∀ {G2 : Hp} {a : Addr} {vs : List V} {ds : List D}, Same G G2 → Rel c μ G2 Γ M σ H1 → x = .ref a → SqL c.K G2 a vs → RFs c G2 ds vs → FinG c W σ Γ (rrI c) μ G M.length Rr (.ok ⟨ds, none⟩ M) → ∃ a, x = .ref a ∧ (∃ xs, SqL X.K H1 a xs) ∧ Rr (Itl X.K a) H1 :=
      fun {G2 a vs ds} s R2 ex q r F => ⟨a, ex, ⟨vs, by rw [← hK]; exact R2.gh.seq q⟩, F μ G2 _ H1 ⟨s, fun _ _ => rfl, Nat.le_refl _⟩ R2 ⟨itok_list (H := H1) (Γ := Γ) (σ := σ) hK q r, trivial⟩⟩
    unfold kSrc at F
    split at F
    · rename_i xs
      obtain ⟨a, vs, e1, q1, r1⟩ := rf_lst.mp (rr_t q)
      exact fin (Same.refl _) R e1 (SqL.of q1) r1 F
    · rename_i xs
      obtain ⟨a, vs, e1, q1, r1⟩ := rf_scr.mp (rr_t q)
      exact fin (Same.refl _) R e1 q1 r1 F
    · rename_i xs
      obtain ⟨G2, s, R2, wr⟩ := RR.frz R q
      obtain ⟨a, vs, e1, q1, r1⟩ := rf_lst.mp (wr_t wr)
      exact fin s R2 e1 (SqL.of q1) r1 F
    · rename_i n
      obtain ⟨hn, ex⟩ := (show n < M.length ∧ x = .ref (μ n) from q)
      split at F
      · rename_i xs em
        obtain ⟨vs, h1, h2⟩ := R.getL em
        exact ⟨μ n, ex, ⟨vs, SqL.of h1⟩, F μ G _ H1 Ext.refl R ⟨itok_cell (H := H1) (Γ := Γ) (σ := σ) hK hn, em⟩⟩
      · exact F.elim
    · exact F.elim
theorem di_tup {e : Expr} {f : SemE} (hK : c.K = X.K) (he : DE c X W e f) : DI c X W tg e (vSrcT f) :=
  piImp (pi_tup he) fun σ H Rr h => by
    refine lift_bindR (rr := rrI c) (g := fun r _ M1 => kSrcT r M1) h fun r x H1 μ G Γ M R q F => ?_
    unfold kSrcT at F
    split at F
    · rename_i xs
      obtain ⟨a, vs, e1, q1, r1⟩ := rf_tup.mp (rr_t q)
      exact ⟨a, e1, ⟨vs, by rw [← hK]; exact seqT_mono R.gh q1⟩, F μ G _ H1 Ext.refl R ⟨itok_tup (H := H1) (Γ := Γ) (σ := σ) hK q1 r1, trivial⟩⟩
    · exact F.elim
/-- range(j), range(i, j) -/
def rangeD (lo : Int) (n : Nat) : List D := (List.range n).map fun (i : Nat) => .int (lo + (i : Int))
theorem itok_range {μ : Nat → Addr} {G : Hp} {m : Nat} {lo : Int} {n : Nat} : ItOk c μ G m (Itr lo n) ⟨rangeD lo n, none⟩ := by
  intro μ' G' Γ' M' σ' H' i ex R _
  refine ⟨fun d hd => ?_, fun hl => ?_⟩
  · rw [show (⟨rangeD lo n, none⟩ : Src).ds = (List.range n).map fun (i : Nat) => D.int (lo + (i : Int)) from rfl, List.getElem?_map, Option.map_eq_some_iff] at hd
    obtain ⟨k, e1, e2⟩ := hd
    have hi : i < n := by
      have := (List.getElem?_eq_some_iff.mp e1).1
      rwa [List.length_range] at this
    have ek : k = i := by
      rw [List.getElem?_range hi] at e1
      exact (Option.some.inj e1).symm
    subst ek
    refine ⟨hi, fun x H2 y => ?_⟩
    obtain ⟨rfl, rfl⟩ := y
    exact ⟨G', Same.refl _, R, by rw [← e2]; exact rf_int.mpr rfl⟩
  · show n ≤ i
    have : ((List.range n).map fun (i : Nat) => D.int (lo + (i : Int))).length ≤ i := hl
    rwa [List.length_map, List.length_range] at this
def kRange1 (as : List Wv) (M : Store) : Res Src := match as with
  | [.t (.int j)] => if -4611686018427387904 ≤ j ∧ j < 4611686018427387904 then .ok ⟨rangeD 0 j.toNat, none⟩ M else .bad
  | _ => .bad
def kRange2 (as : List Wv) (M : Store) : Res Src := match as with
  | [.t (.int i), .t (.int j)] => if (-4611686018427387904 ≤ i ∧ i < 4611686018427387904) ∧ -4611686018427387904 ≤ j ∧ j < 4611686018427387904 then .ok ⟨rangeD i (j - i).toNat, none⟩ M else .bad
  | _ => .bad
def vRange1 (g : ES (List Wv)) : ES Src := fun Γ M => (g Γ M).bind kRange1
def vRange2 (g : ES (List Wv)) : ES Src := fun Γ M => (g Γ M).bind kRange2
theorem di_range1 {a : Expr} {g : ES (List Wv)} {p : Pos} (hg : Gl X "range") (hm : X.mg "range" = none) (ha : DA c X W [a] g) (hs : starEach [a] X.env = [(false, eval a X.env)] := by rfl) : DI c X W tg (.Call (.Name "range" p) [a] [] pos) (vRange1 g) :=
  piImp (pi_range1 hg hm ha hs) fun σ H Rr h => by
    refine lift_bindA (rr := rrI c) (g := fun as _ M1 => kRange1 as M1) h fun as xs H1 μ G Γ M R ha _ F => ?_
    unfold kRange1 at F
    split at F
    · rename_i j
      obtain ⟨v, e, hw⟩ := held1 ha
      rw [wr_int hw] at e
      split at F
      · rename_i hb
        exact ⟨j, e, hb.1, hb.2, F μ G _ H1 Ext.refl R ⟨itok_range, trivial⟩⟩
      · exact F.elim
    · exact F.elim
theorem di_range2 {a b : Expr} {g : ES (List Wv)} {p : Pos} (hg : Gl X "range") (hm : X.mg "range" = none) (ha : DA c X W [a, b] g) (h : ∀ {ta : TA}, PA X [a, b] ta → PI X tg (.Call (.Name "range" p) [a, b] [] pos) (iRng2 ta)) : DI c X W tg (.Call (.Name "range" p) [a, b] [] pos) (vRange2 g) :=
  piImp (h ha) fun σ H Rr h => by
    refine lift_bindA (rr := rrI c) (g := fun as _ M1 => kRange2 as M1) h fun as xs H1 μ G Γ M R ha _ F => ?_
    unfold kRange2 at F
    split at F
    · rename_i i j
      obtain ⟨v, y, e, hw, hu⟩ := held2 ha
      rw [wr_int hw, wr_int hu] at e
      split at F
      · rename_i hb
        exact ⟨i, j, e, hb.imp (fun h => h.1) (fun h => h) |> fun h => ⟨hb.1.1, hb.1.2, hb.2.1, hb.2.2⟩, F μ G _ H1 Ext.refl R ⟨itok_range, trivial⟩⟩
      · exact F.elim
    · exact F.elim
/-- enumerate(list) -/
def enumD (i : Nat) : List D → List D
  | [] => []
  | d :: ds => .tup [.int (i : Int), d] :: enumD (i + 1) ds
theorem enumD_get : ∀ (ds : List D) (k i : Nat) (d : D), (enumD k ds)[i]? = some d → ∃ e, ds[i]? = some e ∧ d = .tup [.int ((k + i : Nat) : Int), e]
  | [], k, i, d, h => by simp [enumD] at h
  | x :: ds, k, 0, d, h => by
    simp [enumD] at h
    exact ⟨x, rfl, by rw [← h]; simp⟩
  | x :: ds, k, i + 1, d, h => by
    simp only [enumD, List.getElem?_cons_succ] at h
    obtain ⟨e, h1, h2⟩ := enumD_get ds (k + 1) i d h
    exact ⟨e, by simpa using h1, by rw [h2]; congr 3; omega⟩
theorem enumD_length : ∀ (ds : List D) (k : Nat), (enumD k ds).length = ds.length
  | [], _ => rfl
  | x :: ds, k => by simp [enumD, enumD_length ds]
theorem lay2 {μ : Nat → Addr} {G H : Hp} {Γ : VEnv} {M : Store} {σ : L2.St} {T : Addr} {vs : List V} {ds : List D} (R : Rel c μ G Γ M σ H) (hn : H T = none) (r : RFs c G ds vs) : ∃ G', Same G G' ∧ Rel c μ G' Γ M σ (upd H T (.tup vs)) ∧ RF c G' (.tup ds) (.ref T) := by
  obtain ⟨R', s⟩ := R.lay (o := .tup vs) hn
  exact ⟨_, s, R', rf_tup.mpr ⟨T, vs, rfl, SqT.of upd_same, RFs.mono s ds r⟩⟩
def kEnum (as : List Wv) (M : Store) : Res Src := match as with
  | [.t (.lst xs)] => .ok ⟨enumD 0 xs, none⟩ M
  | [.t (.scr xs)] => .ok ⟨enumD 0 xs, none⟩ M
  | _ => .bad
def vEnum (g : ES (List Wv)) : ES Src := fun Γ M => (g Γ M).bind kEnum
theorem itok_enum {μ : Nat → Addr} {G H : Hp} {Γ : VEnv} {M : Store} {σ : L2.St} {a : Addr} {vs : List V} {ds : List D} (hK : c.K = X.K) (q : SqL c.K G a vs) (r : RFs c G ds vs) : ItOk c μ G M.length (Ite X.K a) ⟨enumD 0 ds, none⟩ := by
  intro μ' G' Γ' M' σ' H' i ex R _
  have q' : SqL X.K H' a vs := by rw [← hK]; exact R.gh.seq (ex.g.seq q)
  refine ⟨fun d hd => ?_, fun hl => ⟨vs, q', by rw [r.length, ← enumD_length ds 0]; exact hl⟩⟩
  obtain ⟨e, h1, h2⟩ := enumD_get ds 0 i d hd
  obtain ⟨v, e1, e2⟩ := r.get h1
  refine ⟨⟨vs, v, q', e1⟩, fun x H2 y => ?_⟩
  obtain ⟨T, z, rfl, hn, rfl, y⟩ := y
  have ey := y vs q'
  rw [e1] at ey
  cases ey
  rw [h2]
  exact lay2 R hn (.cons (rf_int.mpr (by simp)) (.cons (RF.mono ex.g e e2) .nil))
theorem di_enum {e : Expr} {g : ES (List Wv)} {p tpos : Pos} {elts : List Expr} {kk : Nat} (hK : c.K = X.K) (ha : DA c X W [e] g) (h : ∀ {ta : TA}, PA X [e] ta → PI X (.Tuple elts kk tpos) (.Call (.Name "enumerate" p) [e] [] pos) (iEnum X.K ta)) :
    DI c X W (.Tuple elts kk tpos) (.Call (.Name "enumerate" p) [e] [] pos) (vEnum g) :=
  piImp (h ha) fun σ H Rr h => by
    refine lift_bindA (rr := rrI c) (g := fun as _ M1 => kEnum as M1) h fun as xs H1 μ G Γ M R ha _ F => ?_
    unfold kEnum at F
    split at F
    · rename_i ds
      obtain ⟨v, ev, hw⟩ := held1 ha
      obtain ⟨a, vs, e1, q1, r1⟩ := rf_lst.mp (wr_t hw)
      rw [e1] at ev
      exact ⟨a, vs, ev, by rw [← hK]; exact R.gh.seq (SqL.of q1), F μ G _ H1 Ext.refl R ⟨itok_enum (H := H1) (Γ := Γ) (σ := σ) hK (SqL.of q1) r1, trivial⟩⟩
    · rename_i ds
      obtain ⟨v, ev, hw⟩ := held1 ha
      obtain ⟨a, vs, e1, q1, r1⟩ := rf_scr.mp (wr_t hw)
      rw [e1] at ev
      exact ⟨a, vs, ev, by rw [← hK]; exact R.gh.seq q1, F μ G _ H1 Ext.refl R ⟨itok_enum (H := H1) (Γ := Γ) (σ := σ) hK q1 r1, trivial⟩⟩
    · exact F.elim

/-! ### for -/
noncomputable def forL (s : Src) (t : SemG) (body : SemS) (m0 : Nat) : List D → VEnv → Store → RS
  | [], Γ, M => cIf (s.chk M) (.ok .nx Γ M) .bad
  | d :: ds, Γ, M => cIf (s.chk M) (match t (.t d) Γ M with
    | .ok .nx Γ1 M1 => (match body Γ1 M1 with
      | .ok .nx Γ2 M2 => trimS m0 Γ2 M2 (forL s t body m0 ds)
      | .ok .ct Γ2 M2 => trimS m0 Γ2 M2 (forL s t body m0 ds)
      | .ok .bk Γ2 M2 => .ok .nx Γ2 M2
      | r => r)
    | _ => .bad) .bad
noncomputable def vFor (src : ES Src) (t : SemG) (body : SemS) : SemS := fun Γ M => (src Γ M).bindS Γ fun s M1 => forL s t body M1.length s.ds Γ M1
theorem FinS.nx {μ : Nat → Addr} {G : Hp} {m : Nat} {D D' : Ends} {Γ : VEnv} {M : Store} (h : FinS c W μ G m D (.ok .nx Γ M)) (i : ∀ σ H, D.nx σ H → D'.nx σ H) : FinS c W μ G m D' (.ok .nx Γ M) := fun μ' G' σ' H' e R => i _ _ (h μ' G' σ' H' e R)
theorem ds_for {iter : Expr} {body : List Stmt} {src : ES Src} {t : SemG} {fb : SemS} (hp : PassesOwn (model X.prog X.w) X.A X.env X.xe) (hc : X.calm = true) (hi : DI c X W tg iter src) (hg : DG c X W tg t) (hb : DSs c X W body fb)
    (hs : ∀ x, foldedSetIterable iter X.env x = pure x := by intro _; rfl) : DS c X W (.For tg iter body [] pos) (vFor src t fb) := by
  refine psImp (ps_for hp hc hi hg hb hs) fun D σ H h => ?_
  refine bindS_ok (rr := rrI c) (f := src) (k := fun (s : Src) Γ M1 => forL s t fb M1.length s.ds Γ M1) h fun s J H1 μ0 G0 Γ0 M0 R0 q F0 => ?_
  obtain ⟨ok, ck⟩ := q
  refine ⟨fun i m σ H => m = s.ds.length - i ∧ i ≤ s.ds.length ∧ ∃ μ G Γ M, M.length = M0.length ∧ Ext μ0 G0 M0.length μ G M.length ∧ Rel c μ G Γ M σ H ∧ FinS c W μ0 G0 M0.length D (forL s t fb M0.length (s.ds.drop i) Γ M),
    ⟨_, rfl, Nat.zero_le _, μ0, G0, Γ0, M0, rfl, Ext.refl, R0, F0⟩, ?_⟩
  rintro i m σ1 H2 ⟨rfl, hi, μ, G, Γ, M, hM, ex, R, F⟩
  by_cases hlt : i < s.ds.length
  · refine .inr ?_
    have hd : s.ds[i]? = some s.ds[i] := List.getElem?_eq_getElem hlt
    rw [List.drop_eq_getElem_cons hlt] at F
    unfold forL at F
    by_cases hck : s.chk M
    · rw [cIf_pos hck] at F
      obtain ⟨go, yl⟩ := (ok μ G Γ M σ1 H2 i ex R hck).1 _ hd
      refine ⟨go, fun σ' H' => s.ds.length - (i + 1) = s.ds.length - (i + 1) ∧ i + 1 ≤ s.ds.length ∧ ∃ μ G Γ M, M.length = M0.length ∧ Ext μ0 G0 M0.length μ G M.length ∧ Rel c μ G Γ M σ' H' ∧ FinS c W μ0 G0 M0.length D (forL s t fb M0.length (s.ds.drop (i + 1)) Γ M),
        fun σ' H' p => ⟨s.ds.length - (i + 1), by omega, p⟩, fun x H' y => ?_⟩
      obtain ⟨G1, s1, R1, rf⟩ := yl x H' y
      refine ⟨.t s.ds[i], μ, G1, Γ, M, R1, rf, ?_⟩
      have ex1 : Ext μ0 G0 M0.length μ G1 M.length := ex.trans ⟨s1, fun _ _ => rfl, Nat.le_refl _⟩
      cases e1 : t (.t s.ds[i]) Γ M with
      | bad => rw [e1] at F; exact F
      | exc C fs Γ1 M1 => rw [e1] at F; exact F.elim
      | ok fl Γ1 M1 =>
        cases fl with
        | bk => rw [e1] at F; exact F.elim
        | ct => rw [e1] at F; exact F.elim
        | rt r => rw [e1] at F; exact F.elim
        | nx =>
          rw [e1] at F
          intro μ2 G2 σ2 H3 ex2 R2
          refine ⟨μ2, G2, Γ1, M1, R2, ?_⟩
          have ex02 := ex1.trans ex2
          have again : ∀ {Γ2 : VEnv} {M2 : Store}, FinS c W μ0 G0 M0.length D (trimS M0.length Γ2 M2 (forL s t fb M0.length (s.ds.drop (i + 1)))) → ∀ μ3 G3 σ3 H4, Ext μ2 G2 M1.length μ3 G3 M2.length → Rel c μ3 G3 Γ2 M2 σ3 H4 →
              s.ds.length - (i + 1) = s.ds.length - (i + 1) ∧ i + 1 ≤ s.ds.length ∧ ∃ μ G Γ M, M.length = M0.length ∧ Ext μ0 G0 M0.length μ G M.length ∧ Rel c μ G Γ M σ3 H4 ∧ FinS c W μ0 G0 M0.length D (forL s t fb M0.length (s.ds.drop (i + 1)) Γ M) :=
            fun {Γ2 M2} F μ3 G3 σ3 H4 ex3 R3 => by
              obtain ⟨Γ', M', h1, h2, h3, h4⟩ := trimS_ok (ex02.trans ex3) R3 F
              exact ⟨rfl, hlt, μ3, G3, Γ', M', h1, h2, h3, h4⟩
          cases e2 : fb Γ1 M1 with
          | bad => simp only [e2] at F; exact F
          | exc C fs Γ2 M2 => simp only [e2] at F; exact FinS.ext ex02 F
          | ok fl Γ2 M2 =>
            simp only [e2] at F
            cases fl with
            | nx => exact again F
            | ct => exact again F
            | bk => exact FinS.ext ex02 F
            | rt r => exact FinS.ext ex02 F
    · rw [cIf_neg hck] at F; exact F.elim
  · have e : i = s.ds.length := by omega
    subst e
    rw [List.drop_length] at F
    unfold forL at F
    by_cases hck : s.chk M
    · rw [cIf_pos hck] at F
      exact .inl ⟨(ok μ G Γ M σ1 H2 _ ex R hck).2 (Nat.le_refl _), F μ G σ1 H2 ex R⟩
    · rw [cIf_neg hck] at F; exact F.elim

/-! ### while -/
def whileN (t : ES Bool) (body : SemS) (m0 : Nat) : Nat → VEnv → Store → Option RS
  | 0, _, _ => none
  | n + 1, Γ, M => match t Γ M with
    | .ok true M1 => (match body Γ M1 with
      | .ok .nx Γ2 M2 => if M2.length = m0 then whileN t body m0 n Γ2 M2 else if m0 < M2.length ∧ okL m0 (M2.take m0) = true then whileN t body m0 n (Γ2.map (Wv.cut m0)) (M2.take m0) else some .bad
      | .ok .ct Γ2 M2 => if M2.length = m0 then whileN t body m0 n Γ2 M2 else if m0 < M2.length ∧ okL m0 (M2.take m0) = true then whileN t body m0 n (Γ2.map (Wv.cut m0)) (M2.take m0) else some .bad
      | .ok .bk Γ2 M2 => some (.ok .nx Γ2 M2)
      | r => some r)
    | .ok false M1 => some (.ok .nx Γ M1)
    | .exc C fs M1 => some (.exc C fs Γ M1)
    | .bad => some .bad
noncomputable def vWhile (t : ES Bool) (body : SemS) : SemS := fun Γ M => @dite RS (∃ r : RS, ∃ n, whileN t body M.length n Γ M = some r) (Classical.propDecidable _) (fun h => h.choose) fun _ => .bad
theorem whileN_mono {t : ES Bool} {body : SemS} {m0 : Nat} : ∀ {n k : Nat} {Γ : VEnv} {M : Store} {r : RS}, whileN t body m0 n Γ M = some r → whileN t body m0 (n + k) Γ M = some r
  | 0, k, Γ, M, r, h => by cases h
  | n + 1, k, Γ, M, r, h => by
    rw [show n + 1 + k = (n + k) + 1 by omega]
    unfold whileN at h ⊢
    cases e : t Γ M with
    | bad => rw [e] at h; exact h
    | exc C fs M1 => rw [e] at h; exact h
    | ok b M1 =>
      rw [e] at h
      cases b with
      | false => exact h
      | true =>
        dsimp only at h ⊢
        cases e2 : body Γ M1 with
        | bad => rw [e2] at h; exact h
        | exc C fs Γ2 M2 => rw [e2] at h; exact h
        | ok fl Γ2 M2 =>
          rw [e2] at h
          cases fl with
          | nx =>
            dsimp only at h ⊢
            split at h
            · rename_i h1; rw [if_pos h1]; exact whileN_mono h
            · rename_i h1
              rw [if_neg h1]
              split at h
              · rename_i h2; rw [if_pos h2]; exact whileN_mono h
              · rename_i h2; rw [if_neg h2]; exact h
          | ct =>
            dsimp only at h ⊢
            split at h
            · rename_i h1; rw [if_pos h1]; exact whileN_mono h
            · rename_i h1
              rw [if_neg h1]
              split at h
              · rename_i h2; rw [if_pos h2]; exact whileN_mono h
              · rename_i h2; rw [if_neg h2]; exact h
          | bk => exact h
          | rt r => exact h
theorem whileN_det {t : ES Bool} {body : SemS} {m0 n k : Nat} {Γ : VEnv} {M : Store} {r r' : RS} (h : whileN t body m0 n Γ M = some r) (h' : whileN t body m0 k Γ M = some r') : r = r' := by
  have a := whileN_mono (k := k) h
  have b := whileN_mono (k := n) h'
  rw [Nat.add_comm k n, a] at b
  exact Option.some.inj b
/-- THE VALUE of a while loop: by any number of turns that is enough -/
theorem vWhile_eq {t : ES Bool} {body : SemS} {n : Nat} {Γ : VEnv} {M : Store} {r : RS} (h : whileN t body M.length n Γ M = some r) : vWhile t body Γ M = r := by
  have hx : ∃ r : RS, ∃ n, whileN t body M.length n Γ M = some r := ⟨r, n, h⟩
  unfold vWhile
  rw [dif_pos hx]
  obtain ⟨k, hk⟩ := hx.choose_spec
  exact whileN_det hk h
theorem ds_while {tst : Expr} {body : List Stmt} {t : ES Bool} {fb : SemS} (hp : PassesOwn (model X.prog X.w) X.A X.env X.xe) (ht : DT c X W tst t) (hb : DSs c X W body fb) : DS c X W (.While tst body [] pos) (vWhile t fb) := by
  refine psImp (ps_while hp ht hb) fun D σ H ⟨μ0, G0, Γ0, M0, R0, F0⟩ => ?_
  unfold vWhile at F0
  by_cases hx : ∃ r : RS, ∃ n, whileN t fb M0.length n Γ0 M0 = some r
  · rw [dif_pos hx] at F0
    obtain ⟨n0, hn0⟩ := hx.choose_spec
    generalize hx.choose = r0 at F0 hn0
    refine ⟨fun m σ H => ∃ μ G Γ M r, M.length = M0.length ∧ Ext μ0 G0 M0.length μ G M.length ∧ Rel c μ G Γ M σ H ∧ whileN t fb M0.length m Γ M = some r ∧ FinS c W μ0 G0 M0.length D r, ⟨n0, μ0, G0, Γ0, M0, r0, rfl, Ext.refl, R0, hn0, F0⟩, ?_⟩
    rintro m σ1 H1 ⟨μ, G, Γ, M, r, hM, ex, R, hr, F⟩
    cases m with
    | zero => cases hr
    | succ m =>
      refine ⟨μ, G, Γ, M, R, rfl, ?_⟩
      unfold whileN at hr
      cases e : t Γ M with
      | bad => rw [e] at hr; cases hr; exact F
      | exc C fs M1 => rw [e] at hr; cases hr; exact fun μ' G' cls dd H' ex1 R1 q => F μ' G' σ1 H' cls dd (ex.trans ex1) R1 q
      | ok b M1 =>
        rw [e] at hr
        intro μ1 G1 b' H2 ex1 R1 q
        cases q
        have ex01 := ex.trans ex1
        cases b with
        | false =>
          cases hr
          exact iteF (F μ1 G1 σ1 H2 ex01 R1)
        | true =>
          refine iteT ⟨fun σ' H' => ∃ μ G Γ M r, M.length = M0.length ∧ Ext μ0 G0 M0.length μ G M.length ∧ Rel c μ G Γ M σ' H' ∧ whileN t fb M0.length m Γ M = some r ∧ FinS c W μ0 G0 M0.length D r, fun σ' H' p => ⟨m, Nat.lt_succ_self _, p⟩, μ1, G1, Γ, M1, R1, ?_⟩
          dsimp only at hr
          have again : ∀ {Γ2 : VEnv} {M2 : Store}, (if M2.length = M0.length then whileN t fb M0.length m Γ2 M2 else if M0.length < M2.length ∧ okL M0.length (M2.take M0.length) = true then whileN t fb M0.length m (Γ2.map (Wv.cut M0.length)) (M2.take M0.length) else some .bad) = some r →
              ∀ μ3 G3 σ3 H4, Ext μ1 G1 M1.length μ3 G3 M2.length → Rel c μ3 G3 Γ2 M2 σ3 H4 → ∃ μ G Γ M r, M.length = M0.length ∧ Ext μ0 G0 M0.length μ G M.length ∧ Rel c μ G Γ M σ3 H4 ∧ whileN t fb M0.length m Γ M = some r ∧ FinS c W μ0 G0 M0.length D r :=
            fun {Γ2 M2} hr μ3 G3 σ3 H4 ex3 R3 => by
              split at hr
              · rename_i hl
                exact ⟨μ3, G3, Γ2, M2, r, hl, ex01.trans ex3, R3, hr, F⟩
              · split at hr
                · rename_i h2
                  have len : (M2.take M0.length).length = M0.length := by rw [List.length_take]; omega
                  have ez := ex01.trans ex3
                  exact ⟨μ3, G3, _, _, r, len, ⟨ez.g, ez.u, by rw [len]; exact Nat.le_refl _⟩, R3.trim (Nat.le_of_lt h2.1) h2.2, hr, F⟩
                · cases hr
                  exact F.elim
          cases e2 : fb Γ M1 with
          | bad => rw [e2] at hr; cases hr; exact F
          | exc C fs Γ2 M2 => rw [e2] at hr; cases hr; exact FinS.ext ex01 F
          | ok fl Γ2 M2 =>
            rw [e2] at hr
            cases fl with
            | nx => exact again hr
            | ct => exact again hr
            | bk => cases hr; exact FinS.ext ex01 F
            | rt r => cases hr; exact FinS.ext ex01 F
  · rw [dif_neg hx] at F0
    exact F0.elim
end
end VL

set_option Elab.async false
set_option linter.all false
set_option maxRecDepth 100000
set_option maxHeartbeats 400000
/-! VL9: list comprehensions, augmented assignments. -/
namespace VL
open PySem PySem.Spec PyProof.Rows L2
/-- no exception is wished for -/
abbrev WF : WX := fun _ _ _ _ => False
theorem takesF {X : Cx} : L2N.Takes X WF := fun _ _ ⟨_, _, _, _, _, _, _, _, _, _, _, _, _, _, _, _, w⟩ => False.elim w
theorem wipe_get (σ : L2.St) (j : Nat) : ∀ vs : List Nat, (wipe σ vs)[j]? = if j ∈ vs ∧ j < σ.length then some none else σ[j]?
  | [] => by simp [wipe]
  | v :: vs => by
    unfold wipe
    by_cases hv : v = j
    · subst hv
      by_cases hl : v < σ.length
      · rw [List.getElem?_set_self (by rw [wipe_length]; exact hl), if_pos ⟨List.mem_cons_self, hl⟩]
      · rw [List.getElem?_eq_none (by rw [List.length_set, wipe_length]; omega), if_neg (fun h => hl h.2), List.getElem?_eq_none (by omega)]
    · rw [List.getElem?_set_ne hv, wipe_get σ j vs]
      by_cases h : j ∈ vs ∧ j < σ.length
      · rw [if_pos h, if_pos ⟨List.mem_cons_of_mem _ h.1, h.2⟩]
      · rw [if_neg h, if_neg fun z => h ⟨(List.mem_cons.mp z.1).resolve_left (fun e => hv e.symm), z.2⟩]
theorem wipe_set {σ : L2.St} {i : Nat} {v : Option V} {vs : List Nat} (hi : i ∈ vs) : wipe (σ.set i v) vs = wipe σ vs := by
  refine List.ext_getElem? fun j => ?_
  rw [wipe_get, wipe_get, List.length_set]
  by_cases h : j ∈ vs ∧ j < σ.length
  · rw [if_pos h, if_pos h]
  · rw [if_neg h, if_neg h]
    by_cases hj : i = j
    · subst hj
      have : ¬ i < σ.length := fun z => h ⟨hi, z⟩
      rw [List.getElem?_eq_none (by rw [List.length_set]; omega), List.getElem?_eq_none (by omega)]
    · rw [List.getElem?_set_ne hj]
theorem wipe_wipe {σ : L2.St} {vs : List Nat} : wipe (wipe σ vs) vs = wipe σ vs := by
  refine List.ext_getElem? fun j => ?_
  rw [wipe_get, wipe_get σ, wipe_length]
  by_cases h : j ∈ vs ∧ j < σ.length
  · rw [if_pos h, if_pos h]
  · rw [if_neg h, if_neg h]
/-- the environment in a comprehension's block -/
def wipeE (Γ : VEnv) : List Nat → VEnv
  | [] => Γ
  | v :: vs => (wipeE Γ vs).set v none
section
variable {c : Vc} {μ : Nat → Addr} {G H : Hp} {Γ : VEnv} {M : Store} {σ : L2.St}
theorem Rel.wipe (R : Rel c μ G Γ M σ H) : ∀ vs : List Nat, Rel c μ G (wipeE Γ vs) M (L2.wipe σ vs) H
  | [] => R
  | v :: vs => by
    have R' := Rel.wipe R vs
    refine R'.env (by unfold wipeE L2.wipe; rw [List.length_set, List.length_set, R'.len]) fun j w e => ?_
    unfold wipeE at e
    unfold L2.wipe
    by_cases hj : v = j
    · subst hj
      by_cases hl : v < (wipeE Γ vs).length
      · rw [List.getElem?_set_self hl] at e; cases e
      · rw [List.getElem?_eq_none (by rw [List.length_set]; omega)] at e; cases e
    · rw [List.getElem?_set_ne hj] at e ⊢
      exact R'.sl j w e
theorem Rel.unwipe (R : Rel c μ G Γ M σ H) {μ' : Nat → Addr} {G' H' : Hp} {Γ' : VEnv} {M' : Store} {σ' : L2.St} (e : Ext μ G M.length μ' G' M'.length) (R' : Rel c μ' G' Γ' M' σ' H') : Rel c μ' G' Γ M' σ H' :=
  R'.env R.len fun i w h => let ⟨v, h1, h2⟩ := R.sl i w h; ⟨v, h1, h2.ext e⟩
end
/-- the targets of a comprehension: a name, a tuple of names -/
inductive Bd where
  | nm (i : Nat)
  | tup (is : List Nat)
def setAll : List Nat → List D → VEnv → Option VEnv
  | [], [], Γ => some Γ
  | i :: is, d :: ds, Γ => setAll is ds (Γ.set i (some (.t d)))
  | _, _, _ => none
def Bd.bind : Bd → D → VEnv → Option VEnv
  | .nm i, d, Γ => some (Γ.set i (some (.t d)))
  | .tup is, .tup ds, Γ => setAll is ds Γ
  | .tup _, _, _ => none
def gNames : List Nat → TGs
  | [] => gNil
  | i :: is => gCons (gName i) (gNames is)
def Bd.g (K : PySem.W.Frag) : Bd → TG
  | .nm i => gName i
  | .tup is => gTup K is.length (gNames is)
def Bd.all : Bd → List Nat
  | .nm i => [i]
  | .tup is => is
theorem setAll_ok {c : Vc} {μ : Nat → Addr} {G H : Hp} {M : Store} {vs : List Nat} : ∀ {is : List Nat} {ds : List D} {us : List V} {Γ Γ' : VEnv} {σ : L2.St} {P : L2.St → Hp → Prop}, (∀ i ∈ is, i ∈ vs) → setAll is ds Γ = some Γ' → RFs c G ds us → Rel c μ G Γ M σ H →
    (∀ σ', Rel c μ G Γ' M σ' H → L2.wipe σ' vs = L2.wipe σ vs → P σ' H) → gNames is us σ H P
  | [], [], us, Γ, Γ', σ, P, _, e, r, R, k => by
    cases e
    rw [RFs] at r
    exact ⟨r, k σ R rfl⟩
  | i :: is, d :: ds, us, Γ, Γ', σ, P, hi, e, r, R, k => by
    rw [RFs] at r
    obtain ⟨v, s, q, r1, r2⟩ := r
    refine ⟨v, s, q, setAll_ok (vs := vs) (fun j hj => hi j (List.mem_cons_of_mem _ hj)) e r2 (R.store (w := .t d) r1) fun σ' R' ew => k σ' R' ?_⟩
    rw [ew, wipe_set (hi i List.mem_cons_self)]
  | [], _ :: _, _, _, _, _, _, _, e, _, _, _ => by cases e
  | _ :: _, [], _, _, _, _, _, _, e, _, _, _ => by cases e
theorem setAll_len : ∀ {is : List Nat} {ds : List D} {Γ Γ' : VEnv}, setAll is ds Γ = some Γ' → ds.length = is.length
  | [], [], _, _, _ => rfl
  | i :: is, d :: ds, Γ, Γ', e => by
    rw [List.length_cons, List.length_cons, setAll_len (is := is) e]
  | [], _ :: _, _, _, e => by cases e
  | _ :: _, [], _, _, e => by cases e
theorem Bd.ok {c : Vc} {K : PySem.W.Frag} {μ : Nat → Addr} {G H : Hp} {M : Store} {vs : List Nat} {b : Bd} {d : D} {v : V} {Γ Γ' : VEnv} {σ : L2.St} {P : L2.St → Hp → Prop} (hK : c.K = K) (hb : ∀ i ∈ b.all, i ∈ vs) (e : b.bind d Γ = some Γ') (r : RF c G d v) (R : Rel c μ G Γ M σ H)
    (k : ∀ σ', Rel c μ G Γ' M σ' H → L2.wipe σ' vs = L2.wipe σ vs → P σ' H) : b.g K v σ H P := by
  cases b with
  | nm i =>
    cases e
    exact k _ (R.store (w := .t d) r) (wipe_set (hb i (by simp [Bd.all])))
  | tup is =>
    cases d with
    | tup ds =>
      obtain ⟨a, us, e1, q, r'⟩ := rf_tup.mp r
      rw [hK] at q
      exact ⟨a, us, e1, seqT_mono R.gh q, by rw [r'.length]; exact setAll_len e, setAll_ok hb e r' R k⟩
    | _ => cases e

/-! ### [elt for target in iter if ..] -/
def kElt (k : Nat) (M : Store) (r : Rv) (g : Store → Res Rv) : Res Rv := match r.w, M[k]? with
  | .t e, some (.lst acc) => if acc.length < 16777216 then (if M.length = k + 1 then g (M.set k (.lst (acc ++ [e]))) else if k + 1 < M.length ∧ okL (k + 1) (M.take (k + 1)) = true then g ((M.take (k + 1)).set k (.lst (acc ++ [e]))) else .bad) else .bad
  | _, _ => .bad
noncomputable def compL (s : Src) (b : Bd) (cond : ES Bool) (elt : SemE) (k : Nat) (Γ : VEnv) : List D → Store → Res Rv
  | [], M => cIf (s.chk M) (match M[k]? with
    | some (.lst acc) => if M.length = k + 1 ∧ okL k (M.take k) = true then .ok (.f (.lst acc)) (M.take k) else .bad
    | _ => .bad) .bad
  | d :: ds, M => cIf (s.chk M) (match b.bind d Γ with
    | some Γ1 => (match cond Γ1 M with
      | .ok true M1 => (match elt Γ1 M1 with
        | .ok r M2 => kElt k M2 r (compL s b cond elt k Γ ds)
        | _ => .bad)
      | .ok false M1 => if M1.length = k + 1 then compL s b cond elt k Γ ds M1 else .bad
      | _ => .bad)
    | none => .bad) .bad
noncomputable def vComp (src : ES Src) (b : Bd) (own : List Nat) (cond : ES Bool) (elt : SemE) : SemE := fun Γ M => (src Γ M).bind fun s M1 => compL s b cond elt M1.length (wipeE Γ own) s.ds (M1 ++ [.lst []])
def vYes : ES Bool := fun _ M => .ok true M
theorem ptsImp {X : Cx} {ifs : List Expr} {t t' : TT} (h : PTs X ifs t) (i : ∀ σ H Q, t' σ H Q → t σ H Q) : PTs X ifs t' := ⟨fun pins s σ H Q I q => h.run pins s σ H Q I (i _ _ _ q)⟩
abbrev DTs (c : Vc) (X : Cx) (W : WX) (ifs : List Expr) (f : ES Bool) : Prop := PTs X ifs (liftT c W f)
theorem dts_nil {c : Vc} {X : Cx} {W : WX} : DTs c X W [] vYes := ptsImp pts_nil fun σ H Q ⟨μ, G, Γ, M, R, _, F⟩ => F μ G true H Ext.refl R rfl
theorem dts_one {c : Vc} {X : Cx} {W : WX} {e : Expr} {f : ES Bool} (h : DT c X W e f) : DTs c X W [e] f := pts_one h
/-- what the loop of a comprehension needs, from the value of its function -/
theorem comp_ok {c : Vc} {K : PySem.W.Frag} {W : WX} {σ : L2.St} {H : Hp} {Q : VK} {src : ES Src} {b : Bd} {own : List Nat} {cond : ES Bool} {elt : SemE} (hK : c.K = K) (hb : ∀ i ∈ b.all, i ∈ own) (h : lift c W (vComp src b own cond elt) σ H Q) :
    tLc (liftI c W src) (b.g K) (liftT c WF cond) (lift c WF elt) own σ H Q := by
  obtain ⟨μ0, G0, Γ, M0, R0, _, F0⟩ := h
  refine ⟨μ0, G0, Γ, M0, R0, rfl, ?_⟩
  unfold vComp at F0
  cases e0 : src Γ M0 with
  | bad => rw [e0] at F0; exact F0
  | exc C fs M1 => rw [e0] at F0; exact F0
  | ok s M1 =>
    rw [e0, Res.bind_ok] at F0
    intro μ1 G1 J H1 ex1 R1 q
    obtain ⟨ok, ck⟩ := q
    intro L hL
    obtain ⟨R2, gL, nL⟩ := R1.layF (o := .lst []) hL
    obtain ⟨μ2, ex2, eL, R3⟩ := R2.cell (x := .lst []) nL fun μ' _ => ⟨gL, [], upd_same, RFs.nil⟩
    have l2 : (M1 ++ [Cel.lst []]).length = M1.length + 1 := by rw [List.length_append, List.length_singleton]
    have ex02 := ex1.trans ex2
    refine ⟨fun i m H => m = s.ds.length - i ∧ i ≤ s.ds.length ∧ ∃ μ G M, M.length = M1.length + 1 ∧ Ext μ2 G1 (M1.length + 1) μ G M.length ∧ Rel c μ G Γ M σ H ∧ FinG c W σ Γ (rrE c) μ0 G0 M0.length Q (compL s b cond elt M1.length (wipeE Γ own) (s.ds.drop i) M),
      ⟨_, rfl, Nat.zero_le _, μ2, G1, _, l2, by rw [l2]; exact Ext.refl, R3, F0⟩, ?_⟩
    rintro i m H2 ⟨rfl, hi, μ, G, M, hM, ex, R, F⟩
    have ex2M : Ext μ2 G1 (M1 ++ [Cel.lst []]).length μ G M.length := by rw [l2]; exact ex
    have exM : Ext μ0 G0 M0.length μ G M.length := ex02.trans ex2M
    have ex1M : Ext μ1 G1 M1.length μ G M.length := ex2.trans ex2M
    have muL : μ M1.length = L := by rw [ex.u _ (Nat.lt_succ_self _), eL]
    by_cases hlt : i < s.ds.length
    · refine .inr ?_
      have hd : s.ds[i]? = some s.ds[i] := List.getElem?_eq_getElem hlt
      rw [List.drop_eq_getElem_cons hlt] at F
      unfold compL at F
      by_cases hck : s.chk M
      · rw [cIf_pos hck] at F
        obtain ⟨go, yl⟩ := (ok μ G Γ M σ H2 i ex1M R hck).1 _ hd
        refine ⟨go, fun H => s.ds.length - (i + 1) = s.ds.length - (i + 1) ∧ i + 1 ≤ s.ds.length ∧ ∃ μ G M, M.length = M1.length + 1 ∧ Ext μ2 G1 (M1.length + 1) μ G M.length ∧ Rel c μ G Γ M σ H ∧ FinG c W σ Γ (rrE c) μ0 G0 M0.length Q (compL s b cond elt M1.length (wipeE Γ own) (s.ds.drop (i + 1)) M),
          fun H' p => ⟨s.ds.length - (i + 1), by omega, p⟩, fun x H' y => ?_⟩
        obtain ⟨G3, s3, R4, rf⟩ := yl x H' y
        have ex3 : Ext μ2 G1 (M1.length + 1) μ G3 M.length := ex.trans ⟨s3, fun _ _ => rfl, Nat.le_refl _⟩
        cases eb : b.bind s.ds[i] (wipeE Γ own) with
        | none => rw [eb] at F; exact F.elim
        | some Γ1 =>
          rw [eb] at F
          dsimp only at F
          refine Bd.ok hK hb eb rf (R4.wipe own) fun σ2 R5 ew => ⟨by rw [ew, wipe_wipe], μ, G3, Γ1, M, R5, rfl, ?_⟩
          cases ec : cond Γ1 M with
          | bad => rw [ec] at F; exact F.elim
          | exc C fs M2 => rw [ec] at F; exact F.elim
          | ok bb M2 =>
            rw [ec] at F
            intro μ4 G4 b' H4 ex4 R6 qb
            cases qb
            cases bb with
            | false =>
              dsimp only at F
              refine iteF ?_
              by_cases hl : M2.length = M1.length + 1
              · rw [if_pos hl] at F
                exact ⟨rfl, hlt, μ4, G4, M2, hl, ex3.trans ex4, R4.unwipe ex4 R6, F⟩
              · rw [if_neg hl] at F; exact F.elim
            | true =>
              dsimp only at F
              refine iteT ⟨μ4, G4, Γ1, M2, R6, rfl, ?_⟩
              cases ee : elt Γ1 M2 with
              | bad => rw [ee] at F; exact F.elim
              | exc C fs M3 => rw [ee] at F; exact F.elim
              | ok r M3 =>
                rw [ee] at F
                dsimp only at F
                intro μ5 G5 v H5 ex5 R7 qv
                obtain ⟨G6, s6, R8, wr⟩ := RR.frz R7 qv
                have ex6 : Ext μ2 G1 (M1.length + 1) μ5 G6 M3.length := ((ex3.trans ex4).trans ex5).trans ⟨s6, fun _ _ => rfl, Nat.le_refl _⟩
                have muL5 : μ5 M1.length = L := by rw [ex6.u _ (Nat.lt_succ_self _), eL]
                have R9 : Rel c μ5 G6 Γ M3 σ H5 := R4.unwipe ((ex4.trans ex5).trans ⟨s6, fun _ _ => rfl, Nat.le_refl _⟩) R8
                unfold kElt at F
                generalize r.w = w at F wr
                cases w with
                | l n => exact F.elim
                | t e =>
                  cases ek : M3[M1.length]? with
                  | none => rw [ek] at F; exact F.elim
                  | some cl =>
                    cases cl with
                    | dead => rw [ek] at F; exact F.elim
                    | exn a' cls dd C fs => rw [ek] at F; exact F.elim
                    | rng lo hi => rw [ek] at F; exact F.elim
                    | opq t k as ds => rw [ek] at F; exact F.elim
                    | obj C fs => rw [ek] at F; exact F.elim
                    | lst acc =>
                      rw [ek] at F
                      dsimp only at F
                      obtain ⟨us, h1, h2⟩ := R9.getL ek
                      rw [muL5] at h1
                      by_cases ha : acc.length < 16777216
                      · rw [if_pos ha] at F
                        refine ⟨us, h1, by rw [h2.length, line_eq]; exact ha, ?_⟩
                        have R10 := R9.putL ek (h2.append (.cons (wr_t wr) .nil))
                        rw [muL5] at R10
                        by_cases hl : M3.length = M1.length + 1
                        · rw [if_pos hl] at F
                          exact ⟨rfl, hlt, μ5, G6, _, by rw [List.length_set]; exact hl, ex6.trans ext_set, R10, F⟩
                        · rw [if_neg hl] at F
                          by_cases hk : M1.length + 1 < M3.length ∧ okL (M1.length + 1) (M3.take (M1.length + 1)) = true
                          · rw [if_pos hk] at F
                            have lt : (M3.take (M1.length + 1)).length = M1.length + 1 := by rw [List.length_take]; omega
                            have R11 := R9.trim (Nat.le_of_lt hk.1) hk.2
                            have ek2 : (M3.take (M1.length + 1))[M1.length]? = some (.lst acc) := by
                              rw [List.getElem?_take, if_pos (Nat.lt_succ_self _)]; exact ek
                            have R12 := R11.putL ek2 (h2.append (.cons (wr_t wr) .nil))
                            rw [muL5] at R12
                            refine ⟨rfl, hlt, μ5, G6, _, by rw [List.length_set]; exact lt, ?_, ?_, F⟩
                            · rw [List.length_set, lt]; exact ⟨ex6.g, ex6.u, Nat.le_refl _⟩
                            · refine R12.env R.len fun j w e => ?_
                              obtain ⟨v', q1, q2⟩ := R3.sl j w e
                              refine ⟨v', q1, ?_⟩
                              rw [List.length_set, lt]
                              rw [l2] at q2
                              exact q2.ext ⟨ex6.g, ex6.u, Nat.le_refl _⟩
                          · rw [if_neg hk] at F; exact F.elim
                      · rw [if_neg ha] at F; exact F.elim
      · rw [cIf_neg hck] at F; exact F.elim
    · have e : i = s.ds.length := by omega
      subst e
      rw [List.drop_length] at F
      unfold compL at F
      by_cases hck : s.chk M
      · rw [cIf_pos hck] at F
        refine .inl ⟨(ok μ G Γ M σ H2 _ ex1M R hck).2 (Nat.le_refl _), ?_⟩
        cases ek : M[M1.length]? with
        | none => rw [ek] at F; exact F.elim
        | some cl =>
          cases cl with
          | dead => rw [ek] at F; exact F.elim
          | exn a' cls dd C fs => rw [ek] at F; exact F.elim
          | rng lo hi => rw [ek] at F; exact F.elim
          | opq t k as ds => rw [ek] at F; exact F.elim
          | obj C fs => rw [ek] at F; exact F.elim
          | lst acc =>
            rw [ek] at F
            dsimp only at F
            by_cases hk : M.length = M1.length + 1 ∧ okL M1.length (M.take M1.length) = true
            · rw [if_pos hk] at F
              obtain ⟨us, h1, h2⟩ := R.getL ek
              rw [muL] at h1
              have lt : (M.take M1.length).length = M1.length := by rw [List.length_take]; omega
              have R4 := R.trim (k := M1.length) (by omega) hk.2
              have R5 : Rel c μ G Γ (M.take M1.length) σ H2 := R4.env R.len fun j w e => by
                obtain ⟨v', q1, q2⟩ := R1.sl j w e
                refine ⟨v', q1, ?_⟩
                rw [lt]
                exact q2.ext ⟨ex1M.g, ex1M.u, Nat.le_refl _⟩
              have lv : Live M M1.length := ⟨_, ek, trivial⟩
              refine F μ G _ H2 ?_ R5 ⟨L, rfl, ?_, fun n ln z => ?_, us, h1, h2⟩
              · rw [lt]; exact ⟨exM.g, exM.u, ex1.m⟩
              · rw [← muL]; exact (R.live lv).1
              · obtain ⟨y, hy, ny⟩ := ln
                rw [List.getElem?_take] at hy
                by_cases hn : n < M1.length
                · rw [if_pos hn] at hy
                  rw [← muL] at z
                  exact absurd (R.inj n M1.length ⟨y, hy, ny⟩ lv z) (Nat.ne_of_lt hn)
                · rw [if_neg hn] at hy; cases hy
            · rw [if_neg hk] at F; exact F.elim
      · rw [cIf_neg hck] at F; exact F.elim
theorem de_comp {c : Vc} {X : Cx} {W : WX} {e : Expr} {src : ES Src} {b : Bd} {own : List Nat} {cond : ES Bool} {elt : SemE} (hK : c.K = X.K) (hb : ∀ i ∈ b.all, i ∈ own) (h : PE X e (tLc (liftI c W src) (b.g X.K) (liftT c WF cond) (lift c WF elt) own)) : DE c X W e (vComp src b own cond elt) :=
  peImp h fun σ H Q q => comp_ok hK hb q
theorem ds_setComp {c : Vc} {X : Cx} {W : WX} {st : Stmt} {j : Nat} {src : ES Src} {b : Bd} {own : List Nat} {cond : ES Bool} {elt : SemE} (hK : c.K = X.K) (hb : ∀ i ∈ b.all, i ∈ own)
    (h : PS X st (tAsg (tLc (liftI c W src) (b.g X.K) (liftT c WF cond) (lift c WF elt) own) (gName j))) : PS X st (tAsg (lift c W (vComp src b own cond elt)) (gName j)) :=
  psImp h fun D σ H q => comp_ok hK hb q
end VL

set_option Elab.async false
set_option linter.all false
set_option maxRecDepth 100000
set_option maxHeartbeats 400000
/-! VL10: defs by their bodies, new instances, methods. -/
namespace VL
open PySem PySem.Spec PyProof.Rows L2
/-! ### a def's end -/
/-- the cells made by the callee are let go where nothing refers to them -/
def cutM (m : Nat) (M : Store) : Store := if m ≤ M.length ∧ okL m (M.take m) = true then M.take m else M
def outM (m : Nat) (r : Rv) (M : Store) : Store := match r with
  | .l n => if n < m then cutM m M else M
  | _ => cutM m M
def fnEnd (m : Nat) : RS → Res Rv
  | .ok .nx _ M => .ok (.t .non) (cutM m M)
  | .ok (.rt r) _ M => .ok r (outM m r M)
  | .ok _ _ _ => .bad
  | .exc C fs _ M => .exc C fs (cutM m M)
  | .bad => .bad
def fnSem (n N : Nat) (b : SemS) : FnSem := fun ws M => fnEnd M.length (b (ws.map some ++ List.replicate (N - n) none) M)
section
variable {c : Vc} {μ μ' : Nat → Addr} {G G' H : Hp} {Γ : VEnv} {M : Store} {σ : L2.St} {m : Nat}
theorem Rel.cutM (R : Rel c μ G [] M [] H) (m : Nat) : Rel c μ G [] (cutM m M) [] H := by
  unfold VL.cutM
  split
  · rename_i h
    have q := R.trim h.1 h.2
    exact q
  · exact R
theorem cutM_len {m0 m : Nat} (h : m0 ≤ M.length) (h1 : m0 ≤ m) : m0 ≤ (cutM m M).length := by
  unfold VL.cutM
  split
  · rename_i q
    rw [List.length_take]
    omega
  · exact h
theorem Rel.noEnv (R : Rel c μ G Γ M σ H) : Rel c μ G [] M [] H := R.env rfl fun i w h => by simp at h
theorem live_take {k n : Nat} (l : Live (M.take k) n) : Live M n := by
  obtain ⟨x, hx, nx⟩ := l
  rw [List.getElem?_take] at hx
  split at hx
  · exact ⟨x, hx, nx⟩
  · cases hx
theorem live_cut {n : Nat} (l : Live (cutM m M) n) : Live M n := by
  unfold VL.cutM at l
  split at l
  · exact live_take l
  · exact l
theorem rr_out {r : Rv} {v : V} (h : RR c μ (outM m r M) G H r v) : RR c μ (outM m r M) G H r v := h
theorem Ext.cut (e : Ext μ G m μ' G' (cutM m M).length) (R : True) : Ext μ G m μ' G' (cutM m M).length := e
end
theorem startA {N n : Nat} {vs : List V} {Ns : List Str} (hN : Ns.length = N) (hl : vs.length = n) : L2.start Ns vs = vs.map some ++ List.replicate (N - n) none := by
  unfold L2.start
  rw [hN, hl]
section
variable {c : Vc} {n N : Nat} {b : SemS} {Ns : List Str} {vs : List V} {H : Hp} {Q : VK} {E : XK}
/-- FROM A BODY'S FUNCTION TO THE PROMISE -/
theorem fn_sem (hN : Ns.length = N) (h : spV c n (fnSem n N b) vs H Q E) : liftS c (fun cls d _ H => E cls d H) b { nx := fun _ H' => Q .non H', rt := Q } (L2.start Ns vs) H := by
  obtain ⟨μ, G, M, ws, l1, l2, R, F⟩ := h
  rw [startA hN l2]
  refine ⟨μ, G, ws.map some ++ List.replicate (N - n) none, M, ?_, ?_⟩
  · refine R.env (by simp [l1, l2]) fun i w e => ?_
    by_cases hi : i < n
    · rw [List.getElem?_append_left (by simpa [l1] using hi)] at e
      rw [List.getElem?_append_left (by simpa [l2] using hi)]
      exact R.sl i w e
    · rw [List.getElem?_append_right (by simp [l1]; omega), List.getElem?_replicate] at e
      split at e <;> cases e
  · unfold fnSem at F
    cases e : b (ws.map some ++ List.replicate (N - n) none) M with
    | bad => rw [e] at F; exact F
    | exc C fs Γ' M' =>
      rw [e] at F
      intro μ' G' σ' H' cls dd ex R' q
      have R1 := R'.noEnv.cutM M.length
      refine F μ' G' cls dd H' ⟨ex.g, ex.u, cutM_len ex.m (Nat.le_refl _)⟩ R1 q
    | ok fl Γ' M' =>
      rw [e] at F
      cases fl with
      | bk => exact F.elim
      | ct => exact F.elim
      | nx =>
        intro μ' G' σ' H' ex R'
        exact F μ' G' .non H' ⟨ex.g, ex.u, cutM_len ex.m (Nat.le_refl _)⟩ (R'.noEnv.cutM M.length) mk_non
      | rt r =>
        intro μ' G' σ' H' v ex R' q
        cases r with
        | t d => exact F μ' G' v H' ⟨ex.g, ex.u, cutM_len ex.m (Nat.le_refl _)⟩ (R'.noEnv.cutM M.length) q
        | f d =>
          obtain ⟨a, q1, q2, q3, q4⟩ := q
          exact F μ' G' v H' ⟨ex.g, ex.u, cutM_len ex.m (Nat.le_refl _)⟩ (R'.noEnv.cutM M.length) ⟨a, q1, q2, fun n l => q3 n (live_cut l), q4⟩
        | l k =>
          dsimp only [fnEnd, outM] at F
          by_cases hk : k < M.length
          · rw [if_pos hk] at F
            have z : k < (cutM M.length M').length := Nat.lt_of_lt_of_le hk (cutM_len ex.m (Nat.le_refl _))
            exact F μ' G' v H' ⟨ex.g, ex.u, cutM_len ex.m (Nat.le_refl _)⟩ (R'.noEnv.cutM M.length) ⟨z, q.2⟩
          · rw [if_neg hk] at F
            exact F μ' G' v H' ex R'.noEnv q
end
/-! ### where a def may be called: in calm, or while an exception is handled -/
def RoomV (k : Nat) (X : Cx) : Prop := (X.calm = true ∧ Room k X.A) ∨ (L2H.HotC X ∧ L2H.RoomH k X.A)
structure FnV (P : Program) (w : World) (K : PySem.W.Frag) (mg : Str → Option Value) (base : Heap) (k : Nat) (f : Addr) (fd : FuncData) (ps : List Str) (sp : Sp) : Prop where
  ok : FnOk P w K mg base (L2N.CX P w) k f fd ps sp
  hot : L2H.FnH P w K mg base (L2N.CX P w) k f fd ps sp
section
variable {P : Program} {w : World} {K : PySem.W.Frag} {mg : Str → Option Value} {base : Heap} {x qual : Str} {params : Arguments} {body : List Stmt} {scope : Scope} {dvs : List V} {kws : List (Str × V)} {f : Addr} {fd : FuncData} {Ns ps : List Str} {c : Vc} {n N k : Nat} {b : SemS}
theorem fn_ok (F : FunD K x qual params body scope dvs kws f fd) (S : FnScope Ns ps scope) (hn : ps.length = n) (hN : Ns.length = N)
    (hd : ∀ (cdv : Value) (A : Around) (outer : List Env) (s : Shared) (H : Hp) (E : XK), Room k (A.deeper (envOfC qual scope s.heap.objs.size f cdv)) →
      DSs c (cxOf (L2N.CX P w) P w K mg base Ns qual scope f cdv A outer s H E) (fun cls d _ H => E cls d H) body b) : FnOk P w K mg base (L2N.CX P w) (k + 1) f fd ps (spV c n (fnSem n N b)) :=
  F.ok S (fun vs H Q E h => (spV_len vs H Q E h).trans hn.symm) fun cdv A outer s H vs Q E hr h => ⟨_, hd cdv A outer s H E hr, fn_sem hN h⟩
theorem fn_okH (F : FunD K x qual params body scope dvs kws f fd) (S : FnScope Ns ps scope) (hn : ps.length = n) (hN : Ns.length = N)
    (hd : ∀ (cdv : Value) (A : Around) (outer : List Env) (s : Shared) (H : Hp) (E : XK) (p : Addr × Obj), L2H.Hot1 A p → L2H.RoomH k (A.deeper (envOfC qual scope s.heap.objs.size f cdv)) →
      DSs c (L2H.cxH (L2N.CX P w) P w K mg base Ns qual scope f cdv A outer s H E p) (fun cls d _ H => E cls d H) body b) : L2H.FnH P w K mg base (L2N.CX P w) (k + 1) f fd ps (spV c n (fnSem n N b)) := by
  obtain ⟨oc, od, dV, kV, doc, pm, an, cdv, ct, osl, rfl, lk, hcd, _, _⟩ := F.ex
  exact L2H.fn_ofH lk hcd S (fun vs H Q E h => (spV_len vs H Q E h).trans hn.symm) fun A outer s H vs Q E p hot hr h => ⟨_, hd cdv A outer s H E p hot hr, fn_sem hN h⟩
end
section
variable {c : Vc} {X : Cx} {W : WX} {k n : Nat} {φ : FnSem} {f : Addr} {fd : FuncData} {ps : List Str} {x : Str} {p pos : Pos} {e : Expr} {es : List Expr} {g : ES (List Wv)}
theorem de_callV (F : FnV X.prog X.w X.K X.mg X.base k f fd ps (spV c n φ)) (hr : RoomV k X) (hg : Gl X x) (hm : X.mg x = some (.ref f)) (hk : PySem.W.keepIn X.K (.ref f) = true) (hb : Binds X.K fd ps []) (tk : L2N.Takes X W)
    (ha : DA c X W (e :: es) g) (hdb : (x == ("__debug__" : Str)) = false := by decide) (he : starEach (e :: es) X.env = (false, eval e X.env) :: starEach es X.env := by rfl) (hpl : (backTo pos (starEach es X.env)).any (·.1) = false := by rfl) :
    DE c X W (.Call (.Name x p) (e :: es) [] pos) (vDef n φ g) := by
  rcases hr with ⟨_, hr⟩ | ⟨hc, hr⟩
  · exact de_call F.ok hr hg hm hk hb tk ha hdb he hpl
  · exact peImp (L2H.pe_callH (E := WE W) F.hot hr hc hg hm hk hb (L2N.passAt tk) ha hdb he hpl) fun σ H Q h => vDef_ok σ H Q h
theorem de_call0 (F : FnOk X.prog X.w X.K X.mg X.base (L2N.CX X.prog X.w) k f fd ps (spV c n φ)) (hr : Room k X.A) (hg : Gl X x) (hm : X.mg x = some (.ref f)) (hk : PySem.W.keepIn X.K (.ref f) = true) (hb : Binds X.K fd ps []) (tk : L2N.Takes X W)
    (hdb : (x == ("__debug__" : Str)) = false := by decide) : DE c X W (.Call (.Name x p) [] [] pos) (vDef n φ vNil) := by
  have h0 : PE X (.Call (.Name x p) [] [] pos) (tCallS (spV c n φ) (WE W) tNil) := ⟨fun pins s σ H Q I h => wpAny_Call_Name_kw (ld_glob I hg hm (PySem.W.callWith_K0 I.kIn hk (run_fnS (us := []) F hr hb (L2N.passAt tk σ) I .nil h)) hdb)⟩
  refine peImp h0 fun σ H Q h => ?_
  obtain ⟨μ, G, Γ, M, R, _, F'⟩ := h
  show spV c n φ [] H Q (WE W σ)
  unfold vDef vNil at F'
  rw [Res.bind_ok] at F'
  split at F'
  · rename_i hl
    exact ⟨μ, G, M, [], hl, hl, R.args (ws := []) (vs := []) rfl, finF_of R F'⟩
  · exact F'.elim
end
end VL

set_option Elab.async false
set_option linter.all false
set_option maxRecDepth 100000
set_option maxHeartbeats 400000
/-! VL11: calls by what they run, methods, new instances. -/
namespace VL
open PySem PySem.Spec PyProof.Rows L2
/-- a call of f with values does what sp tells -/
def Runs (X : Cx) (f : Addr) (sp : Sp) (E : L2.St → XK) : Prop := ∀ (pins : List (Addr × Obj)) (σ : L2.St) (H : Hp) (s : Shared) (Q : VK) (us : List Value) (vs : List V), Inv X pins σ H s → Vals vs us → sp vs H Q (E σ) →
  wpAny (model X.prog X.w) X.A (call (.ref f) us) (EP X pins σ Q) X.xe s
section
variable {c : Vc} {X : Cx} {W : WX} {k n : Nat} {φ : FnSem} {f : Addr} {fd : FuncData} {ps : List Str} {x m : Str} {p pos apos : Pos} {e o : Expr} {es : List Expr} {g : ES (List Wv)} {sp : Sp}
theorem runs_ok (F : FnOk X.prog X.w X.K X.mg X.base (L2N.CX X.prog X.w) k f fd ps sp) (hr : Room k X.A) (hb : Binds X.K fd ps []) (tk : L2N.Takes X W) : Runs X f sp (WE W) :=
  fun _ σ _ _ _ _ _ I r h => run_fnS F hr hb (L2N.passAt tk σ) I r h
theorem runs_V (F : FnV X.prog X.w X.K X.mg X.base k f fd ps sp) (hr : RoomV k X) (hb : Binds X.K fd ps []) (tk : L2N.Takes X W) : Runs X f sp (WE W) := by
  rcases hr with ⟨_, hr⟩ | ⟨hc, hr⟩
  · exact runs_ok F.ok hr hb tk
  · exact fun _ σ _ _ _ _ _ I r h => L2H.run_fnH (E := WE W) F.hot hr hc hb (L2N.passAt tk σ) I r h
/-- f(e, ..) -/
theorem de_callR (F : Runs X f (spV c n φ) (WE W)) (hg : Gl X x) (hm : X.mg x = some (.ref f)) (hk : PySem.W.keepIn X.K (.ref f) = true) (ha : DA c X W (e :: es) g)
    (hdb : (x == ("__debug__" : Str)) = false := by decide) (he : starEach (e :: es) X.env = (false, eval e X.env) :: starEach es X.env := by rfl) (hpl : (backTo pos (starEach es X.env)).any (·.1) = false := by rfl) :
    DE c X W (.Call (.Name x p) (e :: es) [] pos) (vDef n φ g) := by
  have h0 : PE X (.Call (.Name x p) (e :: es) [] pos) (tCallS (spV c n φ) (WE W) (liftA c W g)) := by
    refine ⟨fun pins s σ H Q I h => ?_⟩
    refine wpAny_Call_Name_kw (ld_glob I hg hm ?_ hdb)
    refine PySem.W.callWith_K (h₀ := X.base) I.ok.mod.kin hk (thn (ha.run pos pins s σ H _ I h) fun us s1 ⟨vs, H1, I1, r, q⟩ => ⟨I1.kIn, ?_⟩) he hpl
    exact F pins σ H1 s1 Q us vs I1 r q
  exact peImp h0 fun σ H Q h => vDef_ok σ H Q h
/-- f() -/
theorem de_callR0 (F : Runs X f (spV c n φ) (WE W)) (hg : Gl X x) (hm : X.mg x = some (.ref f)) (hk : PySem.W.keepIn X.K (.ref f) = true) (hdb : (x == ("__debug__" : Str)) = false := by decide) :
    DE c X W (.Call (.Name x p) [] [] pos) (vDef n φ vNil) := by
  have h0 : PE X (.Call (.Name x p) [] [] pos) (tCallS (spV c n φ) (WE W) tNil) := ⟨fun pins s σ H Q I h => wpAny_Call_Name_kw (ld_glob I hg hm (PySem.W.callWith_K0 I.kIn hk (F pins σ H s Q [] [] I .nil h)) hdb)⟩
  refine peImp h0 fun σ H Q h => ?_
  obtain ⟨μ, G, Γ, M, R, _, F'⟩ := h
  show spV c n φ [] H Q (WE W σ)
  unfold vDef vNil at F'
  rw [Res.bind_ok] at F'
  split at F'
  · rename_i hl
    exact ⟨μ, G, M, [], hl, hl, R.args (ws := []) (vs := []) rfl, finF_of R F'⟩
  · exact F'.elim
/-! ### methods -/
def isIns (C : Nat) (mi : Nat) (w : Wv) (M : Store) : Prop := match w with
  | .t (.ins C' ns xs) => C' = C ∧ ns.length = xs.length ∧ ns.contains mi = false
  | .l n => (match M[n]? with
    | some (.obj C' fs) => C' = C ∧ fs.lookup mi = none
    | _ => False)
  | _ => False
instance {C mi w M} : Decidable (isIns C mi w M) := by
  unfold isIns
  split
  · exact inferInstance
  · split <;> exact inferInstance
  · exact inferInstance
def vMeth (C mi n : Nat) (φ : FnSem) (f : SemE) (g : ES (List Wv)) : SemE := fun Γ M => (f Γ M).bind fun r M1 => if isIns C mi r.w M1 then (g Γ M1).bind fun as M2 => if as.length + 1 = n then φ (r.w :: as) M2 else .bad else .bad
theorem map_lookup_none {ns : List Nat} {mi : Nat} (hm : mi < c.N) : (∀ n ∈ ns, n < c.N) → ns.contains mi = false → ∀ {fs : List (Str × V)}, fs.map (·.1) = ns.map c.nm → fs.lookup (c.nm mi) = none := by
  induction ns with
  | nil =>
    intro _ _ fs e
    cases fs with
    | nil => rfl
    | cons _ _ => cases e
  | cons n ns ih =>
    intro hb hc fs e
    cases fs with
    | nil => rfl
    | cons p fs =>
      obtain ⟨g, v⟩ := p
      rw [List.map_cons, List.map_cons] at e
      obtain ⟨e1, e2⟩ := List.cons.inj e
      have e1' : g = c.nm n := e1
      rw [List.contains_cons, Bool.or_eq_false_iff] at hc
      rw [List.lookup_cons, e1']
      have ne : (c.nm mi == c.nm n) = false := beq_eq_false_iff_ne.mpr fun z => (beq_eq_false_iff_ne.mp hc.1) (c.inj mi n hm (hb n List.mem_cons_self) z)
      rw [ne]
      exact ih (fun k hk => hb k (List.mem_cons_of_mem _ hk)) hc.2 e2
theorem isIns_ok {μ : Nat → Addr} {G H : Hp} {Γ : VEnv} {M : Store} {σ : L2.St} {C mi : Nat} {w : Wv} {v : V} (R : Rel c μ G Γ M σ H) (hm : mi < c.N) (hi : isIns C mi w M) (hw : WR c μ M.length G w v) :
    ∃ a dx fs, v = .ref a ∧ H a = some (.ins (c.ρ C) dx fs) ∧ fs.lookup (c.nm mi) = none := by
  unfold isIns at hi
  split at hi
  · rename_i C' ns xs
    obtain ⟨e, _, h2⟩ := hi
    subst e
    obtain ⟨a, dx, fs, e1, e2, e3, e4, e5⟩ := rf_ins.mp (wr_t hw)
    exact ⟨a, dx, fs, e1, R.gh _ _ e2, map_lookup_none hm e4 h2 e3⟩
  · rename_i n
    obtain ⟨hn, ex⟩ := (show n < M.length ∧ v = .ref (μ n) from hw)
    split at hi
    · rename_i C' fs ec
      obtain ⟨e, h2⟩ := hi
      subst e
      obtain ⟨_, dx, vs, e2, e3⟩ := R.ce n _ ec
      exact ⟨μ n, dx, vs, ex, e2, e3.lookup_none hm h2⟩
    · exact hi.elim
  · exact hi.elim
def tMethV (C : Addr) (m : Str) (sp : Sp) (E : L2.St → XK) (ta : TE) (t : TA) : TE := fun σ H Q => ta σ H fun x H1 => ∃ a dx fs, x = .ref a ∧ H1 a = some (.ins C dx fs) ∧ fs.lookup m = none ∧ t σ H1 fun vs H2 => sp (x :: vs) H2 Q (E σ)
theorem vMeth_ok {C mi : Nat} {fo : SemE} (hm : mi < c.N) (σ : L2.St) (H : Hp) (Q : VK) (h : lift c W (vMeth C mi n φ fo g) σ H Q) : tMethV (c.ρ C) (c.nm mi) (spV c n φ) (WE W) (lift c W fo) (liftA c W g) σ H Q := by
  refine lift_bind (g := fun w Γ M1 => if isIns C mi w M1 then (g Γ M1).bind fun as M2 => if as.length + 1 = n then φ (w :: as) M2 else .bad else .bad) h fun w v H1 ⟨μ, G, Γ, M, R, hd, F⟩ => ?_
  dsimp only at F
  split at F
  · rename_i hi
    obtain ⟨a, dx, fs, e1, e2, e3⟩ := isIns_ok R hm hi (heldOne hd)
    refine ⟨a, dx, fs, e1, e2, e3, ?_⟩
    refine lift_bindA (ws := [w]) (vs := [v]) (g := fun as _ M2 => if as.length + 1 = n then φ (w :: as) M2 else .bad) ⟨μ, G, Γ, M, R, hd, F⟩ fun as xs H2 μ2 G2 Γ2 M2 R2 ha hh F2 => ?_
    split at F2
    · rename_i hl
      have hall : Held c μ2 M2.length G2 (w :: as) (v :: xs) := ⟨v, xs, rfl, heldOne hh, ha⟩
      exact ⟨μ2, G2, M2, w :: as, hl, by rw [List.length_cons, ha.length]; exact hl, R2.args hall, finF_of R2 F2⟩
    · exact F2.elim
  · exact F.elim
theorem de_methR {C mi : Nat} {fo : SemE} {pl : Sem Bool} (ho : DE c X W o fo) (hc : Cls X.K (c.ρ C)) (hm : Meth X.K (c.ρ C) m f) (hmi : c.nm mi = m) (hN : mi < c.N) (F : Runs X f (spV c n φ) (WE W)) (ha : DA c X W (e :: es) g)
    (hst : starEach (e :: es) X.env = (false, eval e X.env) :: starEach es X.env := by rfl) (hpl : (backTo pos (starEach es X.env)).any (·.1) = false := by rfl)
    (ht : eval (.Call (.Attribute o m apos) (e :: es) [] pos) X.env = (do
      let ov ← eval o X.env
      standAt apos.atName
      let (f, first) ← holding [ov] (getMethod ov m pl)
      callWith pos f first (backTo pos (starEach (e :: es) X.env)) (backToKw pos (keywordEach [] X.env))) := by rfl) :
    DE c X W (.Call (.Attribute o m apos) (e :: es) [] pos) (vMeth C mi n φ fo g) := by
  have h0 : PE X (.Call (.Attribute o m apos) (e :: es) [] pos) (tMethV (c.ρ C) m (spV c n φ) (WE W) (lift c W fo) (liftA c W g)) := by
    refine ⟨fun pins s σ H Q I h => ?_⟩
    refine PySem.W.methodCall_KW (pl := pl) (thn (ho.run pins s σ H _ I h) fun u s1 ⟨x, H1, I1, rx, a, dx, fs, ex, ea, l, q⟩ => ?_) ht
    subst ex
    obtain rfl : u = Value.ref a := rx
    refine getmeth_ok I1 ea hc hm l ?_
    refine PySem.W.callWith_K (first := [.ref a]) (h₀ := X.base) I.ok.mod.kin hm.kp (thn (ha.run pos pins s1 σ H1 _ I1 q) fun us s2 ⟨vs, H2, I2, r, q2⟩ => ⟨I2.kIn, ?_⟩) hst hpl
    exact F pins σ H2 s2 Q (.ref a :: us) (.ref a :: vs) I2 (.cons rfl r) q2
  subst hmi
  exact peImp h0 fun σ H Q h => vMeth_ok hN σ H Q h
theorem de_methR0 {C mi : Nat} {fo : SemE} {pl : Sem Bool} (ho : DE c X W o fo) (hc : Cls X.K (c.ρ C)) (hm : Meth X.K (c.ρ C) m f) (hmi : c.nm mi = m) (hN : mi < c.N) (F : Runs X f (spV c n φ) (WE W))
    (ht : eval (.Call (.Attribute o m apos) [] [] pos) X.env = (do
      let ov ← eval o X.env
      standAt apos.atName
      let (f, first) ← holding [ov] (getMethod ov m pl)
      callWith pos f first (backTo pos (starEach [] X.env)) (backToKw pos (keywordEach [] X.env))) := by rfl) :
    DE c X W (.Call (.Attribute o m apos) [] [] pos) (vMeth C mi n φ fo vNil) := by
  have h0 : PE X (.Call (.Attribute o m apos) [] [] pos) (tMethV (c.ρ C) m (spV c n φ) (WE W) (lift c W fo) tNil) := by
    refine ⟨fun pins s σ H Q I h => ?_⟩
    refine PySem.W.methodCall_KW (pl := pl) (thn (ho.run pins s σ H _ I h) fun u s1 ⟨x, H1, I1, rx, a, dx, fs, ex, ea, l, q⟩ => ?_) ht
    subst ex
    obtain rfl : u = Value.ref a := rx
    refine getmeth_ok I1 ea hc hm l ?_
    exact PySem.W.callWith_K0 (first := [.ref a]) I1.kIn hm.kp (F pins σ H1 s1 Q [.ref a] [.ref a] I1 (.cons rfl .nil) q)
  subst hmi
  refine peImp h0 fun σ H Q h => ?_
  have q := vMeth_ok hN σ H Q h
  obtain ⟨μ, G, Γ, M, R, hd, F'⟩ := q
  refine ⟨μ, G, Γ, M, R, hd, F'.mono fun v H1 ⟨a, dx, fs, e1, e2, e3, q2⟩ => ⟨a, dx, fs, e1, e2, e3, ?_⟩⟩
  obtain ⟨μ2, G2, Γ2, M2, R2, _, F2⟩ := q2
  exact F2 μ2 G2 [] H1 Ext.refl R2 rfl
/-! ### new instances -/
def kMake (fz : Bool) (k : Nat) (r : Rv) (M : Store) : Res Rv := match r with
  | .t .non => if fz = true then (match M[k]? with
    | some x => (match x.d with
      | some d => if k ≤ M.length ∧ okL k (M.take k) = true then .ok (.f d) (M.take k) else .bad
      | none => .bad)
    | none => .bad) else .ok (.l k) M
  | _ => .bad
def vMakeK (fz : Bool) (C n : Nat) (φ : FnSem) (as : List Wv) (M : Store) : Res Rv := if as.length + 1 = n then (match φ (.l M.length :: as) (M ++ [.obj C []]) with
  | .ok r M2 => kMake fz M.length r M2
  | .exc C fs M2 => .exc C fs (cutM M.length M2)
  | .bad => .bad) else .bad
def vMake (fz : Bool) (C n : Nat) (φ : FnSem) (g : ES (List Wv)) : SemE := fun Γ M => (g Γ M).bind fun as M1 => vMakeK fz C n φ as M1
def tMakeV (C : Addr) (sp : Sp) (E : L2.St → XK) (t : TA) : TE := fun σ H Q => t σ H fun vs H1 => ∀ x dx, H1 x = none → H1 dx = none → dx ≠ x →
  sp (.ref x :: vs) (upd (upd H1 dx (.own x)) x (.ins C dx [])) (fun v H2 => v = .non ∧ Q (.ref x) H2) (E σ)
theorem finF_len {μ : Nat → Addr} {G : Hp} {m : Nat} {Q : VK} {E : XK} {x : Res Rv} (h : FinF c μ G m Q E x) : True := trivial
theorem vMake_ok {fz : Bool} {C : Nat} (σ : L2.St) (H : Hp) (Q : VK) (h : lift c W (vMake fz C n φ g) σ H Q) : tMakeV (c.ρ C) (spV c n φ) (WE W) (liftA c W g) σ H Q := by
  refine lift_bindA (g := fun as _ M1 => vMakeK fz C n φ as M1) h fun as xs H1 μ G Γ M R ha _ F => ?_
  intro x dx hx hdx hne
  dsimp only [vMakeK] at F
  split at F
  · rename_i hl
    obtain ⟨R1, g1, nl1⟩ := R.layF (p := dx) (o := .own x) hdx
    have hx1 : upd H1 dx (.own x) x = none := by rw [upd_ne (Ne.symm hne)]; exact hx
    obtain ⟨R2, g2, nl2⟩ := R1.layF (p := x) (o := .ins (c.ρ C) dx []) hx1
    obtain ⟨μ', ex, ea, R3⟩ := R2.cell (a := x) (x := .obj C []) nl2 fun μ' _ => ⟨g2, dx, [], upd_same, rfl⟩
    have ex' : Ext μ G M.length μ' G (M ++ [Cel.obj C []]).length := ex
    have hall : Held c μ' (M ++ [Cel.obj C []]).length G (.l M.length :: as) (.ref x :: xs) := ⟨_, _, rfl, ⟨by simp, by rw [ea]⟩, ha.ext ex'⟩
    refine ⟨μ', G, M ++ [Cel.obj C []], .l M.length :: as, by simpa using hl, by rw [List.length_cons, ha.length]; exact hl, R3.args hall, ?_⟩
    cases e : φ (.l M.length :: as) (M ++ [Cel.obj C []]) with
    | bad => rw [e] at F; exact F.elim
    | exc C' fs M2 =>
      rw [e] at F
      intro μ2 G2 cls dd H2 ex2 R4 q
      have hlen : M.length ≤ M2.length := Nat.le_trans ex'.m ex2.m
      have e3 : Ext μ G M.length μ2 G2 (cutM M.length M2).length := ⟨ex2.g, fun n hn => (ex2.u n (Nat.lt_of_lt_of_le hn ex'.m)).trans (ex'.u n hn), cutM_len hlen (Nat.le_refl _)⟩
      exact F μ2 G2 cls dd H2 e3 (R.back e3 (R4.cutM M.length)) q
    | ok r M2 =>
      rw [e] at F
      intro μ2 G2 v H2 ex2 R4 q
      have hlen : M.length ≤ M2.length := Nat.le_trans ex'.m ex2.m
      have m2 : μ2 M.length = x := by rw [ex2.u M.length (by simp), ea]
      dsimp only [kMake] at F
      split at F
      · refine ⟨(rf_non (c := c) (G := G2)).mp q, ?_⟩
        split at F
        · split at F
          · rename_i y ey
            split at F
            · rename_i d ed
              split at F
              · rename_i hk
                obtain ⟨R5, a5, v5, g5, n5, r5⟩ := R4.take ey ed
                have e3 : Ext μ G M.length μ2 G2 (M2.take M.length).length := ⟨ex2.g, fun n hn => (ex2.u n (Nat.lt_of_lt_of_le hn ex'.m)).trans (ex'.u n hn), by rw [List.length_take]; omega⟩
                have tk : (M2.set M.length .dead).take M.length = M2.take M.length := by rw [List.take_set_of_le (Nat.le_refl _)]
                have R6 : Rel c μ2 G2 [] (M2.take M.length) [] H2 := R4.trim hk.1 hk.2
                refine F μ2 G2 (.ref x) H2 e3 (R.back e3 R6) ⟨a5, ?_, g5, fun n l => ?_, r5⟩
                · rw [← v5, m2]
                · have lt : n < M.length := by
                    obtain ⟨z, hz, _⟩ := l
                    rw [List.getElem?_take] at hz
                    split at hz
                    · assumption
                    · cases hz
                  obtain ⟨z, hz, nz⟩ := live_take l
                  exact n5 n ⟨z, by rw [List.getElem?_set_ne (Nat.ne_of_gt lt)]; exact hz, nz⟩
              · exact F.elim
            · exact F.elim
          · exact F.elim
        · have e3 : Ext μ G M.length μ2 G2 M2.length := ⟨ex2.g, fun n hn => (ex2.u n (Nat.lt_of_lt_of_le hn ex'.m)).trans (ex'.u n hn), hlen⟩
          have l2 : M.length < M2.length := Nat.lt_of_lt_of_le (by simp) ex2.m
          exact F μ2 G2 (.ref x) H2 e3 (R.back e3 R4) ⟨l2, by rw [m2]⟩
      · exact F.elim
  · exact F.elim
theorem run_makeV {C : Addr} {E : L2.St → XK} {pins : List (Addr × Obj)} {σ : L2.St} {H : Hp} {s : Shared} {Q : VK} {us : List Value} {vs : List V} (M : L2.Mk X.K C f) (F : FnOk X.prog X.w X.K X.mg X.base (L2N.CX X.prog X.w) k f fd ps sp) (hr : Room (k + 1) X.A) (hb : Binds X.K fd ps [])
    (hx : PassesAt (L2N.CX X.prog X.w) X σ (E σ)) (I : Inv X pins σ H s) (r : Vals vs us)
    (h : ∀ x dx, H x = none → H dx = none → dx ≠ x → sp (.ref x :: vs) (upd (upd H dx (.own x)) x (.ins C dx [])) (fun v H2 => v = .non ∧ Q (.ref x) H2) (E σ)) :
    wpAny (model X.prog X.w) X.A (call (.ref C) us) (EP X pins σ Q) X.xe s := by
  have fr1 : H (s.heap.objs.size + 1) = none := I.hok.fresh (Nat.le_succ _)
  have fr0 : H s.heap.objs.size = none := I.hok.fresh (Nat.le_refl _)
  have hq := h (s.heap.objs.size + 1) s.heap.objs.size fr1 fr0 (Nat.ne_of_lt (Nat.lt_succ_self _))
  have J := Inv.made (C := C) I
  have r2 : Vals (V.ref (s.heap.objs.size + 1) :: vs) (Value.ref (s.heap.objs.size + 1) :: us) := .cons rfl r
  have hl : (Value.ref (s.heap.objs.size + 1) :: us).length = ps.length := by rw [← r2.length]; exact F.len _ _ _ _ hq
  have b2 := hb _ (Value.ref (s.heap.objs.size + 1) :: us) J.kIn (by rw [List.append_nil]; exact hl)
  rw [List.append_nil] at b2
  have run := F.run _ X.stack _ _ ⟨Value.ref (s.heap.objs.size + 1) :: us, []⟩ (Value.ref (s.heap.objs.size + 1) :: us) _ _ (E σ) (hr.make C us []) (J.env0.make C us []) b2 r2 hq
  refine wpAny_call (make_map (f := f) I.kIn M.makes M.init (beq_iff_eq.mp M.fn) (codeAny_mono run fun rs s' hq' => ?_))
  cases rs with
  | error er => exact hx pins _ _ er s' J hq'
  | ok fl =>
    cases fl with
    | ret u =>
      obtain ⟨v, H', J2, rv, ev, q3⟩ := J.after hq'
      subst ev
      exact ⟨rv, ⟨V.ref (s.heap.objs.size + 1), H', J2, rfl, q3⟩⟩
    | next => exact False.elim hq'
    | brk => exact False.elim hq'
    | cont => exact False.elim hq'
theorem de_make {fz : Bool} {C : Nat} (M : L2.Mk X.K (c.ρ C) f) (F : FnOk X.prog X.w X.K X.mg X.base (L2N.CX X.prog X.w) k f fd ps (spV c n φ)) (hr : Room (k + 1) X.A) (hg : Gl X x) (hm : X.mg x = some (.ref (c.ρ C))) (hb : Binds X.K fd ps []) (tk : L2N.Takes X W)
    (ha : DA c X W (e :: es) g) (hdb : (x == ("__debug__" : Str)) = false := by decide) (he : starEach (e :: es) X.env = (false, eval e X.env) :: starEach es X.env := by rfl) (hpl : (backTo pos (starEach es X.env)).any (·.1) = false := by rfl) :
    DE c X W (.Call (.Name x p) (e :: es) [] pos) (vMake fz C n φ g) := by
  have h0 : PE X (.Call (.Name x p) (e :: es) [] pos) (tMakeV (c.ρ C) (spV c n φ) (WE W) (liftA c W g)) := by
    refine ⟨fun pins s σ H Q I h => ?_⟩
    refine wpAny_Call_Name_kw (ld_glob I hg hm ?_ hdb)
    refine PySem.W.callWith_K (h₀ := X.base) I.ok.mod.kin M.kp (thn (ha.run pos pins s σ H _ I h) fun us s1 ⟨vs, H1, I1, r, q⟩ => ⟨I1.kIn, ?_⟩) he hpl
    exact run_makeV (E := WE W) M F hr hb (L2N.passAt tk σ) I1 r q
  exact peImp h0 fun σ H Q h => vMake_ok σ H Q h
end
end VL

set_option Elab.async false
set_option linter.all false
set_option maxRecDepth 100000
set_option maxHeartbeats 400000
/-! VL12: own exceptions whose __init__ says super().__init__('..'), then self.f = v. -/
namespace VL
open PySem PySem.Spec PyProof.Rows L2
/-- what the written part tells of such a class and its __init__ -/
structure ExI (P : Program) (K : PySem.W.Frag) (C f : Addr) (fd : FuncData) (name qual : Str) (params : Arguments) (body : List Stmt) (scope : Scope) : Prop where
  ox : OexC K C
  iC : PySem.W.findIn K (.ref C) "__init__" = some (some (.ref f))
  tI : PySem.W.typeIn K (.ref f) = some (.type "function")
  ex : ∃ (oc : Value) (od : Option Addr) (kV doc pm : Value) (an : Option Addr) (cda : Addr) (ct : Value) (osl : Array (Option Value)) (cc : Addr) (ccl : Value) (cdd : Option Addr) (vs : Array Value) (ccs : Array (Option Value)) (tf : Tok) (cl : Value) (cld : Option Addr) (csl : Array (Option Value)),
    fd = PySem.W.ksFn name qual params body scope .none kV doc pm an (.ref cda) ct cc ∧ K.lookup f = some ⟨oc, od, .func fd, osl⟩ ∧ PySem.W.codeIn K (.ref cda) qual = true ∧ K.lookup cda = some ⟨ccl, cdd, .fields vs, ccs⟩ ∧ vs[2]? = some (.str P.main.file tf) ∧ K.lookup cc = some ⟨cl, cld, .cell (some (.ref C)), csl⟩
  sup : PySem.W.ks_superIn K C C "__init__" = some (some (.builtin "ValueError.__init__"))
  mro : PySem.W.mroIn K C (.ref C) = some true
  sub : PySem.W.subIn K (.ref C) (.type "ValueError") = some true
  opq : PySem.W.nsIn K cStatics "thirdparty.any" = some none

/-- ValueError.__init__ bound to a new exception, called -/
theorem mw_call {prog : Program} {w : World} {A : Around} {E : Value → Shared → Prop} {h : Heap} {g : Array GenState} {d : Drawn} {t : Nat} {os : OsState} {nm q : Str} {C N : Addr} {bs bm : List Value} {hdct : Bool} {sn : List Str} {sub : List Value} {ab : Bool} {col : Option Bool} {dd : Option Addr} {k0 k1 k2 k3 k5 : Option Value}
    {u e t0 : Addr} {rest : List Value} {Q : Value → Shared → Prop}
    (hC : h.get? C = some (excClassObj nm q C N bs bm hdct sn sub ab col dd k0 k1 k2 k3 k5 "ValueError.__new__")) (he : h.get? e = some (HandSPX.excO C t0)) (hu : h.get? u = some (PySem.W.kxs_mw "ValueError.__init__" e)) (hrest : rest.length ≤ sizeLine)
    (hq : ∀ h' t1, (∀ b o, b ≠ e → h.get? b = some o → h'.get? b = some o) → h'.get? e = some (HandSPX.excO C t1) → Q .none ⟨h', g, d, t, os⟩) :
    wpAny (model prog w) A (call (.ref u) rest) Q E ⟨h, g, d, t, os⟩ := by
  refine wpAny_call (codeAny_of_tree ?_)
  show wpAny _ A.in1 (callAny (.ref u) ⟨rest, []⟩) _ _ _
  simp only [callAny]
  refine wpAny_bind (wpAny_load hu ?_)
  simp only [PySem.W.kxs_mw, show (Value.type "method-wrapper" == Value.type "method" || Value.type "method-wrapper" == Value.type "builtin_function_or_method" || Value.type "method-wrapper" == Value.type "method-wrapper") = true by decide, if_true]
  refine PySem.W.KFB.if_so (by decide) ?_
  refine wpAny_bind (PySem.W.check_bound_init F.excBase_ValueError.toExcCallFacts hC he rfl ?_)
  refine wpAny_bind (wpAny_pure (wpAny_pure ?_))
  refine ⟨plainId_quiet F.excBase_ValueError.init.plain _, codeAny_builtin F.excBase_ValueError.initEntry ?_⟩
  exact PySem.W.exc_init_tree (cls := .ref C) (t0 := t0) (dv := none) (c2 := .none) (c3 := .none) (b4 := .bool false) he hrest fun h' k e' _ => hq h' _ k e'

section
variable {P : Program} {w : World} {K : PySem.W.Frag} {mg : Str → Option Value} {base : Heap} {C f : Addr} {fd : FuncData} {name qual : Str} {params : Arguments} {scope : Scope} {N ps : List Str} {sp : Sp} {k : Nat}
/-- the context of such a body -/
abbrev xcx (P : Program) (w : World) (K : PySem.W.Frag) (mg : Str → Option Value) (base : Heap) (N : List Str) (name qual : Str) (params : Arguments) (body : List Stmt) (scope : Scope) (cc cda f : Addr) (A : Around) (outer : List Env) (s : Shared) (H : Hp) (E : XK) : Cx :=
  NdefX.ncx (L2N.CX P w) P w K mg base N ⟨name, qual, params, body, scope, [("__class__", cc)], cda⟩ f A outer s H E
/-- THE RULE for such an __init__ -/
theorem fn_exc {p0 p1 p2 p3 p4 p5 : Pos} {msg : Str} {j : Nat} {rest : List Stmt} {x0 : Str} {ar : Arg} {body : List Stmt}
    (hbd : body = .Expr (.Call (.Attribute (.Call (.Name "super" p0) [] [] p1) "__init__" p2) [.Constant (.str msg) j p5] [] p3) p4 :: rest)
    (T : ExI P K C f fd name qual params body scope)
    (S : NdefX.NScope N ps ["__class__"] scope) (hks : scope.names.lookup ("super" : Str) = some .globalImplicit) (hmg : mg "super" = none) (htop : (P.main.scope.names.lookup ("super" : Str)).isSome = false)
    (hp0 : ps[0]? = some x0) (hp : (params.posonlyargs ++ params.args).head? = some ar) (har : ar.arg = x0)
    {pl : Env → Sem Bool} (he : ∀ env : Env, eval (.Call (.Attribute (.Call (.Name "super" p0) [] [] p1) "__init__" p2) [.Constant (.str msg) j p5] [] p3) env = (do
      let ov ← attributeBase (.Call (.Name "super" p0) [] [] p1) "__init__" env (eval (.Call (.Name "super" p0) [] [] p1) env)
      standAt p2.atName
      let (f, first) ← holding [ov] (getMethod ov "__init__" (pl env))
      callWith p3 f first (backTo p3 (starEach [.Constant (.str msg) j p5] env)) []))
    (len : ∀ vs H Q E, sp vs H Q E → vs.length = ps.length)
    (hbody : ∀ (cc cda : Addr) (A : Around) (outer : List Env) (s : Shared) (H : Hp) (vs : List V) (Q : VK) (E : XK), Room k (A.deeper (PySem.W.ksEnv qual scope s.heap.objs.size f (.ref cda) cc)) → sp vs H Q E →
      (∃ a us, vs = .ref a :: us ∧ H a = some (exo a C none)) ∧
      ∃ t, PSs (xcx P w K mg base N name qual params body scope cc cda f A outer s H E) rest t ∧ t { nx := fun _ H' => Q .non H', rt := Q } (NdefX.startF N vs [none]) H) :
    FnOk P w K mg base (L2N.CX P w) (k + 1) f fd ps sp := by
  refine ⟨len, fun A outer s H args us vs Q E hr e0 hb r hsp => ?_⟩
  obtain ⟨oc, od, kV, doc, pm, an, cda, ct, osl, cc, ccl, cdd, cvs, ccs, tf, cl, cld, csl, rfl, lk, hcd, lc, hfile, lcell⟩ := T.ex
  have KX : K.In s.heap := e0.mod.kin.keeps fun b o e => (e0.bs b o e).1
  have KB : K.In base := e0.mod.kin
  have hl := len _ _ _ _ hsp
  have lim : s.heap.NoLimit := e0.mod.nolimit.keeps fun b o e => (e0.bs b o e).1
  have CA : NdefX.CellsAt [("__class__", cc)] ["__class__"] [none] s.heap H := by
    have hcb := (e0.bs cc _ (KB _ _ lcell)).2
    refine ⟨rfl, fun y c e => ?_, fun x y c e1 e2 => ?_, fun i y e => ?_⟩
    · have e' := PySem.mem_of_lookup e
      simp only [List.mem_singleton, Prod.mk.injEq] at e'
      rw [e'.2]
      exact ⟨hcb, _, _, KX _ _ lcell, rfl⟩
    · have e1' := PySem.mem_of_lookup e1
      have e2' := PySem.mem_of_lookup e2
      simp only [List.mem_singleton, Prod.mk.injEq] at e1' e2'
      rw [e1'.1, e2'.1]
    · cases i with
      | zero =>
        cases e
        exact ⟨cc, rfl, fun v z => by cases z⟩
      | succ i => simp at e
  refine ks_codeAny_call_defAt (fd := PySem.W.ksFn name qual params body scope .none kV doc pm an (.ref cda) ct cc) (binds := ps.zip us) hr.depth (KX _ _ lk) rfl lim (PySem.W.codeRec_of KX hcd) rfl hb S.nocell (fun ⟨n, _⟩ hy => S.par n (List.of_mem_zip hy).1) (fun h₁ hns kp => ?_) S.co S.gen S.kind
  obtain ⟨⟨a, us0, ev, ea⟩, t, ht, hq⟩ := hbody cc cda A outer s H vs Q E (hr.deeper _) hsp
  have I : Inv (xcx P w K mg base N name qual params body scope cc cda f A outer s H E) [] (NdefX.startF N vs [none]) H { s with heap := h₁, toks := s.toks + (ps.zip us).length } := NdefX.inv_startN S hr.hd e0 hl r CA hns kp
  have hkc : scope.names.lookup ("__class__" : Str) = some .free := S.frk _ (List.mem_cons_self ..)
  have fin : ∀ s5, Inv (xcx P w K mg base N name qual params body scope cc cda f A outer s H E) [] (NdefX.startF N vs [none]) H s5 →
      _root_.PySem.wpAt (model P w) (A.deeper (PySem.W.ksEnv qual scope s.heap.objs.size f (.ref cda) cc)) (.func body (PySem.W.ksEnv qual scope s.heap.objs.size f (.ref cda) cc)) (execs rest (PySem.W.ksEnv qual scope s.heap.objs.size f (.ref cda) cc))
        (fun fl s' => CR (L2N.CX P w) outer P w H s Q E (.ok (.ret (match fl with | .ret v => v | _ => .none))) s')
        (fun e s' => wpAny (model P w) (A.deeper (PySem.W.ksEnv qual scope s.heap.objs.size f (.ref cda) cc)) (leaving (PySem.W.ksEnv qual scope s.heap.objs.size f (.ref cda) cc) e) (fun _ s'' => CR (L2N.CX P w) outer P w H s Q E (.error e) s'') (fun e' s'' => CR (L2N.CX P w) outer P w H s Q E (.error e') s'') s') s5 := fun s5 I5 => by
    refine _root_.PySem.wpAt_of_wpAny (wpAny_mono (ht.run [] _ (NdefX.startF N vs [none]) H _ I5 hq) (fun fl s' hs => ?_) fun e s' hs => hs)
    have go : ∀ {σ' : L2.St} {H' : Hp} {v : V} {u : Value}, Inv (xcx P w K mg base N name qual params body scope cc cda f A outer s H E) [] σ' H' s' → L2.RelV v u → Q v H' → CE outer P w H s Q u s' :=
      fun {σ' H' v u} J rv q => ⟨v, H', J.os, J.bare, J.base, J.hok, rv, q⟩
    cases fl with
    | ret u =>
      obtain ⟨v, σ', H', J, rv, q⟩ := hs
      exact go J rv q
    | next =>
      obtain ⟨σ', H', J, q⟩ := hs
      exact go (v := V.non) (u := Value.none) J rfl q
    | brk =>
      obtain ⟨_, _, _, q⟩ := hs
      exact False.elim q
    | cont =>
      obtain ⟨_, _, _, q⟩ := hs
      exact False.elim q
  -- the first statement
  subst ev
  cases r with
  | @cons _ u0 _ ur ra rw' =>
  obtain rfl : u0 = Value.ref a := ra
  obtain ⟨nm, q, N', bs, bm, sn, sub, ab, col, dd, k0, k1, k2, k3, k5, hC, hbm⟩ := T.ox.cls
  obtain ⟨t1, ho⟩ := exo_at I.hok ea
  have KX1 : K.In h₁ := I.kIn
  have hCh : h₁.get? C = _ := KX1 _ _ hC
  have J0 : PySem.W.InstAt h₁ a { cls := .ref C, dict := none, data := .fields #[.ref t1, .none, .none, .none, .bool false, .none] } C none := ⟨ho, rfl, rfl, trivial⟩
  have hcl : PySem.W.clsIn K C = some { name := nm, bases := bs, mro := .ref C :: bm, ns := N', qualname := q, hasDict := true, slotNames := sn, subclasses := sub, abstract := ab, collection := col, hasDel := false } := by unfold PySem.W.clsIn; rw [hC] <;> rfl
  have hsup := T.sup
  unfold PySem.W.ks_superIn at hsup
  rw [hcl] at hsup
  have sv : (List.zip ps (Value.ref a :: ur)).reverse.lookup ar.arg = some (.ref a) := by
    rw [har]
    have nd : ps.Nodup := by
      have q := S.nd.sublist (List.take_sublist (ps.length + 1) N)
      rw [show N.take (ps.length + 1) = ps ++ [("__class__" : Str)] from S.pre] at q
      exact (List.nodup_append.mp q).1
    exact NdefX.zip_look (i := 0) nd hp0 rfl
  have hka : scope.names.lookup ar.arg = some .local := by rw [har]; exact S.par _ (List.mem_of_getElem? hp0)
  obtain ⟨mb, b1, b2⟩ := I.mod.blt
  have hex : execs body (callEnv (PySem.W.ksFn name qual params body scope .none kV doc pm an (.ref cda) ct cc) s.heap.objs.size f) = execs (.Expr (.Call (.Attribute (.Call (.Name "super" p0) [] [] p1) "__init__" p2) [.Constant (.str msg) j p5] [] p3) p4 :: rest) (PySem.W.ksEnv qual scope s.heap.objs.size f (.ref cda) cc) := by rw [hbd] <;> rfl
  rw [hex]
  refine ks_wpAt_execs_cons (ks_wpAt_Expr_any (ks_wpAt_MethodCall (ks_wpAt_super_base (env := PySem.W.ksEnv qual scope s.heap.objs.size f (.ref cda) cc) hks hkc (by decide) rfl (KX1 _ _ lk) rfl hp rfl (KX1 _ _ lc) rfl hfile (by simp) htop ?_) (he _)) (by simp [interactive, S.kind]) rfl)
  refine PySem.W.ks_loadName_global S.kind hks (Calls.loadGlobal_builtin (I.mod.glob.keeps I.bk) hmg (b1.keeps I.bk) ((b2 "super" (by decide)).trans (by kernel_rfl)) ⟨rfl, ?_⟩)
  refine wpAny_loadName_free S.kind hkc rfl ⟨_, KX1 _ _ lcell, rfl⟩ ?_
  refine wpAny_loadName_local S.kind hka hns sv ?_
  refine ks_wpAny_isType_cls hCh rfl ⟨rfl, ?_⟩
  refine ks_wpAny_call_super hCh rfl ho rfl (fun c e => by cases e) (PySem.W.looks_mroIn KX1 T.mro) (fun h2 e2 kp2 => ?_)
  have I2 := I.kept (t' := s.toks + (ps.zip (Value.ref a :: ur)).length) kp2
  have J2 : PySem.W.InstAt h2 a _ C none := ⟨kp2 _ _ ho, rfl, rfl, trivial⟩
  refine PySem.W.kxs_getMethod (l₀ := .ref C :: bm) PySem.W.kxs_ValueError e2 (PySem.W.looks_opaque I2.kIn T.opq) (fun A Q E s k q => wpAny_bind ((PySem.W.looks_clsIn I2.kIn hcl) A _ E s k (wpAny_pure q))) rfl I2.kIn hsup
    (J2.type.andThen (PySem.W.looks_subIn I2.kIn T.sub)) (PySem.W.ks_ne I2.kIn J2 hcl) (by decide) ?_
  have kp3 : ∀ b o, h2.get? b = some o → (h2.push (PySem.W.kxs_mw "ValueError.__init__" a)).get? b = some o := fun b o e => Heap.get?_push_of_some _ e
  have I3 := I2.kept (h' := h2.push (PySem.W.kxs_mw "ValueError.__init__" a)) (t' := s.toks + (ps.zip (Value.ref a :: ur)).length + 1) kp3
  have e3 : (h2.push (PySem.W.kxs_mw "ValueError.__init__" a)).get? h2.objs.size = some (PySem.W.kxs_mw "ValueError.__init__" a) := Heap.get?_push_at rfl rfl
  have P3 : Inv (xcx P w K mg base N name qual params body scope cc cda f A outer s H E) [(h2.objs.size, PySem.W.kxs_mw "ValueError.__init__" a)] (NdefX.startF N (V.ref a :: us0) [none]) H _ := I3.pins_of fun p hp => by
    rw [List.mem_singleton] at hp
    subst hp
    · refine ⟨e3, I2.hok.fresh (Nat.le_refl _), Nat.ne_of_gt I2.lt, fun hm => ?_, fun v z => by cases z⟩
      exact I2.nofs (Nat.le_refl _) hm
  refine PySem.W.kxs_callWith (i := "ValueError.__init__") (x := a) rfl (Calls.evalArgs_plain ?_)
  have ha : PA (xcx P w K mg base N name qual params body scope cc cda f A outer s H E) [.Constant (.str msg) j p5] (tCons (tC (.str msg)) tNil) := pa_cons pe_str pa_nil
  refine thn (ha.run p3 _ _ _ H (fun vs H1 => vs = [V.str msg] ∧ H = H1) P3 ⟨rfl, rfl⟩) fun us4 s4 ⟨vs4, H4, I4, r4, ev4, eH4⟩ => ?_
  subst ev4 eH4
  have q4 := (I4.pin (h2.objs.size, PySem.W.kxs_mw "ValueError.__init__" a) (List.mem_append_right _ (List.mem_singleton.mpr rfl))).1
  refine ⟨q4, ?_⟩
  obtain ⟨h4, g4, d4, t4, os4⟩ := s4
  obtain ⟨t5, ho4⟩ := exo_at I4.hok ea
  have lu : us4.length = 1 := r4.length.symm
  refine mw_call (I4.kIn _ _ hC) ho4 q4 (by rw [List.nil_append, lu, sizeLine_eq]; decide) fun h5 t6 kp5 hx5 => ?_
  have I5 := I4.write (t' := t4) (x := a) (e := a) (o := exo a C none) (by rw [ea]; exact True.intro) (.inl rfl) kp5 ⟨_, hx5⟩ (exo_ok hx5)
  have eu : upd H a (exo a C none) = H := by
    funext b
    by_cases hb : b = a
    · rw [hb, upd_same, ea]
    · rw [upd_ne hb]
  rw [eu] at I5
  exact fin _ (I5.pins_of fun p hp => by cases hp)
end
end VL

set_option Elab.async false
set_option linter.all false
set_option maxRecDepth 100000
set_option maxHeartbeats 400000
/-! VL13: what such an __init__ promises; raise. -/
namespace VL
open PySem PySem.Spec PyProof.Rows L2
/-! ### self.f = parameter, one after another -/
def tOsts (K : PySem.W.Frag) : List (Str × Nat) → TS
  | [] => tNext
  | (f, i) :: l => tSeq (tOst K f (tVar 0) (tVar i)) (tOsts K l)
theorem pss_osts_nil {X : Cx} : PSs X [] (tOsts X.K []) := pss_nil
theorem pss_osts_cons {X : Cx} {st : Stmt} {rest : List Stmt} {f : Str} {i : Nat} {l : List (Str × Nat)} (h : PS X st (tOst X.K f (tVar 0) (tVar i))) (hr : PSs X rest (tOsts X.K l)) : PSs X (st :: rest) (tOsts X.K ((f, i) :: l)) := pss_cons h hr
/-- the dict fs tells these of the values us -/
def Tells (fs : List (Str × V)) (l : List (Str × Nat)) (us : List V) : Prop := ∀ p ∈ l, ∃ v, us[p.2]? = some v ∧ fs.lookup p.1 = some v
theorem osts_old {K : PySem.W.Frag} {C a dx : Addr} {us : List V} {σ : L2.St} {Q : VK} (T : OexC K C) (ha : us[0]? = some (.ref a)) (hσ : ∀ (i : Nat) v, us[i]? = some v → σ[i]? = some (some v)) (hdx : dx ≠ a) :
    ∀ (l done : List (Str × Nat)) (fs : List (Str × V)) (H : Hp), H a = some (exo a C (some dx)) → H dx = some (exd dx fs) → fs.length + l.length ≤ 900 → ((done ++ l).map (·.1)).Nodup → (∀ p ∈ l, PySem.W.findIn K (.ref C) p.1 = some none ∧ p.2 < us.length) → Tells fs done us →
      (∀ fs', Tells fs' (done ++ l) us → Q .non (upd H dx (exd dx fs'))) → tOsts K l { nx := fun _ H' => Q .non H', rt := Q } σ H
  | [], done, fs, H, h1, h2, _, _, _, ht, q => by
    show Q .non H
    have e : upd H dx (exd dx fs) = H := by
      funext b
      by_cases hb : b = dx
      · rw [hb, upd_same, h2]
      · rw [upd_ne hb]
    rw [← e]
    exact q fs (by rw [List.append_nil]; exact ht)
  | (f, i) :: l, done, fs, H, h1, h2, hz, nd, hl, ht, q => by
    obtain ⟨hf, hi⟩ := hl (f, i) (List.mem_cons_self ..)
    obtain ⟨v, hv⟩ : ∃ v, us[i]? = some v := ⟨_, List.getElem?_eq_getElem hi⟩
    show tVar i σ H fun y H1 => tVar 0 σ H1 _
    refine ⟨v, hσ i v hv, .ref a, hσ 0 _ ha, a, C, rfl, T, hf, .inr ⟨dx, fs, h1, h2, by simp at hz; omega, ?_⟩⟩
    have nd' : ((done ++ [(f, i)] ++ l).map (·.1)).Nodup := by rw [List.append_assoc]; exact nd
    refine osts_old T ha hσ hdx l (done ++ [(f, i)]) ((f, v) :: fs) _ (by rw [upd_ne (Ne.symm hdx)]; exact h1) upd_same (by simp at hz ⊢; omega) nd' (fun p hp => hl p (List.mem_cons_of_mem _ hp)) ?_ ?_
    · intro p hp
      rcases List.mem_append.mp hp with m | m
      · obtain ⟨u, e1, e2⟩ := ht p m
        refine ⟨u, e1, ?_⟩
        rw [lookup_put, if_neg ?_]
        · exact e2
        · intro z
          rw [List.map_append, List.map_append] at nd'
          have := (List.nodup_append.mp (List.nodup_append.mp nd').1).2.2 p.1 (List.mem_map_of_mem m) f (by simp)
          exact this z
      · rw [List.mem_singleton] at m
        subst m
        exact ⟨v, hv, by rw [lookup_put, if_pos rfl]⟩
    · intro fs' ht'
      have e : upd (upd H dx (exd dx ((f, v) :: fs))) dx (exd dx fs') = upd H dx (exd dx fs') := by
        funext b
        by_cases hb : b = dx
        · rw [hb, upd_same, upd_same]
        · rw [upd_ne hb, upd_ne hb, upd_ne hb]
      rw [e]
      exact q fs' (by rw [List.append_assoc] at ht'; exact ht')
/-- what such an __init__ promises: n values, l tells which becomes which attribute -/
def spE (C : Addr) (l : List (Str × Nat)) (n : Nat) : Sp := fun vs H Q _ => ∃ a us, vs = .ref a :: us ∧ vs.length = n ∧ H a = some (exo a C none) ∧
  match l with
  | [] => Q .non H
  | _ => ∀ dx fs', H dx = none → dx ≠ a → Tells fs' l vs → Q .non (upd (upd H dx (exd dx fs')) a (exo a C (some dx)))
theorem osts_ok {K : PySem.W.Frag} {C : Addr} {l : List (Str × Nat)} {n : Nat} {vs : List V} {H : Hp} {Q : VK} {E : XK} {N : List Str} {ws : List (Option V)} (T : OexC K C) (hl : ∀ p ∈ l, PySem.W.findIn K (.ref C) p.1 = some none ∧ p.2 < n) (nd : (l.map (·.1)).Nodup) (hz : l.length ≤ 900) (h : spE C l n vs H Q E) :
    tOsts K l { nx := fun _ H' => Q .non H', rt := Q } (NdefX.startF N vs ws) H := by
  obtain ⟨a, us, ev, hn, ha, q⟩ := h
  have hσ : ∀ (i : Nat) v, vs[i]? = some v → (NdefX.startF N vs ws)[i]? = some (some v) := fun i v e => by
    unfold NdefX.startF
    have hi : i < vs.length := (List.getElem?_eq_some_iff.mp e).1
    rw [List.getElem?_append_left (by simpa using hi), List.getElem?_map, e]
    rfl
  have h0 : vs[0]? = some (.ref a) := by rw [ev]; rfl
  cases l with
  | nil => exact q
  | cons p l =>
    obtain ⟨f, i⟩ := p
    obtain ⟨hf, hi⟩ := hl (f, i) (List.mem_cons_self ..)
    obtain ⟨v, hv⟩ : ∃ v, vs[i]? = some v := ⟨_, List.getElem?_eq_getElem (by rw [hn]; exact hi)⟩
    show tVar i _ H fun y H1 => tVar 0 _ H1 _
    refine ⟨v, hσ i v hv, .ref a, hσ 0 _ h0, a, C, rfl, T, hf, .inl ⟨ha, fun dx hdx hne => ?_⟩⟩
    refine osts_old T h0 hσ hne l [(f, i)] [(f, v)] _ upd_same (by rw [upd_ne hne, upd_same]) (by simp at hz ⊢; omega) nd (fun p hp => ⟨(hl p (List.mem_cons_of_mem _ hp)).1, by rw [hn]; exact (hl p (List.mem_cons_of_mem _ hp)).2⟩) ?_ ?_
    · intro p hp
      rw [List.mem_singleton] at hp
      subst hp
      exact ⟨v, hv, by rw [lookup_put, if_pos rfl]⟩
    · intro fs' ht'
      have e : upd (upd (upd H dx (exd dx [(f, v)])) a (exo a C (some dx))) dx (exd dx fs') = upd (upd H dx (exd dx fs')) a (exo a C (some dx)) := by
        funext b
        by_cases hb : b = dx
        · subst hb
          rw [upd_same, upd_ne hne, upd_same]
        · rw [upd_ne hb]
          by_cases hc : b = a
          · rw [hc, upd_same, upd_same]
          · rw [upd_ne hc, upd_ne hc, upd_ne hb, upd_ne hb]
      rw [e]
      exact q dx fs' hdx hne ht'
/-! ### the made exception -/
section
variable {X : Cx} {pins : List (Addr × Obj)} {σ : L2.St} {H H1 H2 : Hp}
/-- the end of C(..), no attribute set: the exception is let go -/
theorem mk_endN {hp hp2 h2 : Heap} {g1 g2 : Array GenState} {d1 d2 : Drawn} {t1 t2 : Nat} {os1 os2 : OsState} {a C : Addr} (I1 : Inv X pins σ H1 ⟨hp, g1, d1, t1, os1⟩)
    (ha : hp.objs.size ≤ a) (k : ∀ b o, hp.get? b = some o → hp2.get? b = some o) (un : Un (frs X.stack) [] (upd H1 a (exo a C none)) H2 hp2 h2) (hok : HOk X.prog X.w H2 h2) (ho : os2 = os1) (hb : AllBare g2)
    (ea : H2 a = some (exo a C none)) :
    ∃ (t0 : Addr) (G : Heap), Inv X pins σ (del H2 a) ⟨G, g2, d2, t2, os2⟩ ∧ (∀ b o, G.get? b = some o → h2.get? b = some o) ∧ G.get? a = none ∧
      h2.get? a = some ({ cls := .ref C, dict := none, data := .fields #[.ref t0, .none, .none, .none, .bool false, .none] } : Obj) ∧ (del H2 a) a = none := by
  obtain ⟨t0, hoe⟩ := exo_at hok ea
  have hn : H1 a = none := I1.hok.fresh ha
  obtain ⟨G, g1', g2'⟩ := restrict h2 fun b => decide (b ≠ a)
  have gk : ∀ b, b ≠ a → G.get? b = h2.get? b := fun b hb => g1' b (decide_eq_true hb)
  have ge : G.get? a = none := g2' a (by simp)
  have nha : ∀ {b : Addr} {o : Obj}, hp.get? b = some o → b ≠ a := fun {b o} z => Nat.ne_of_lt (Nat.lt_of_lt_of_le (Heap.lt_size z) ha)
  have up : ∀ {b : Addr}, b ≠ a → H1 b = none → upd H1 a (exo a C none) b = none := fun {b} hb n => by rw [upd_ne hb]; exact n
  have U : Un (frs X.stack) [] H1 (del H2 a) hp G := {
    keep := fun b o z n hf hx => (gk b (nha z)).trans (un.keep b o (k b o z) (up (nha z) n) hf hx)
    slot := fun b o z n hf hx => by
      obtain ⟨sl, e⟩ := un.slot b o (k b o z) (up (nha z) n) hf hx
      exact ⟨sl, (gk b (nha z)).trans e⟩
    free := fun b o z n hx => (del_ne (nha z)).trans (un.free b o (k b o z) (up (nha z) n) hx)
    there := fun b o z hx => by
      obtain ⟨o', e⟩ := un.there b o (k b o z) hx
      exact ⟨o', (gk b (nha z)).trans e⟩
    tups := fun b xs z => (del_ne (ne_of_none z hn)).trans (un.tups b xs (by rw [upd_ne (ne_of_none z hn)]; exact z))
    frzs := fun b o v z => (del_ne (ne_of_none z hn)).trans (un.frzs b o v (by rw [upd_ne (ne_of_none z hn)]; exact z))
    tbls := fun b ps z => by
      rw [del_ne (ne_of_none z hn)]
      exact un.tbls b ps (by rw [upd_ne (ne_of_none z hn)]; exact z) }
  have hok3 : HOk X.prog X.w (del H2 a) G := fun b o z => by
    have hba : b ≠ a := fun e => by
      rw [e, del_same] at z
      cases z
    rw [del_ne hba] at z
    have noa : ∀ {c : Addr}, H2 c = some (.own b) → c ≠ a := fun {c} hc => at_ne ea hc exo_own
    refine (hok b o z).stay (fun c v hc y => ?_) (fun c hc => by rw [del_ne (noa hc)]; exact hc) (fun c xs hc => by rw [del_ne (at_ne ea hc exo_tup)]; exact hc)
    have hca : c ≠ a := by
      rcases hc with hc | hc
      · rw [hc]
        exact hba
      · exact noa hc
    exact (gk c hca).trans y
  have J : Inv X pins σ (del H2 a) ⟨G, g2, d2, t2, os2⟩ := I1.call' (ch := []) ho U hok3 hb (fun b z => absurd z (by simp))
  refine ⟨t0, G, J, fun b o z => ?_, ge, hoe, del_same⟩
  by_cases hba : b = a
  · rw [hba, ge] at z
    cases z
  · exact (gk b hba).symm.trans z
def tMkX (C : Addr) (sp : Sp) (ta : TA) : L2.St → Hp → XK → Prop := fun σ H Q => ta σ H fun vs H1 => vs.length ≤ 1000 ∧ ∀ a, H1 a = none → sp (.ref a :: vs) (upd H1 a (exo a C none))
  (fun v H2 => v = .non ∧ ((H2 a = some (exo a C none) ∧ Q (.ref C) none (del H2 a)) ∨ ∃ (d : Addr) (fs : List (Str × V)), H2 a = some (exo a C (some d)) ∧ H2 d = some (exd d fs) ∧ H1 d = none ∧ Q (.ref C) (some d) (upd (del H2 a) d (.xd fs)))) (fun _ _ _ => False)
/-- the call of the class, its arguments reckoned -/
theorem run_mkx {W : WX} {C fI : Addr} {k : Nat} {fd : FuncData} {ps : List Str} {sp : Sp} {s1 : Shared} {us : List Value} {vs : List V} {Q : XK} (T : OexC X.K C) (iC : PySem.W.findIn X.K (.ref C) "__init__" = some (some (.ref fI))) (tI : PySem.W.typeIn X.K (.ref fI) = some (.type "function"))
    (F1 : FnOk X.prog X.w X.K X.mg X.base (L2N.CX X.prog X.w) k fI fd ps sp) (hr : Room (k + 1) X.A) (hb : Binds X.K fd ps []) (tk : L2N.Takes X W) (I1 : Inv X pins σ H1 s1) (r1 : Vals vs us) (hz : vs.length ≤ 1000)
    (q1 : ∀ a, H1 a = none → sp (.ref a :: vs) (upd H1 a (exo a C none))
      (fun v H2 => v = .non ∧ ((H2 a = some (exo a C none) ∧ Q (.ref C) none (del H2 a)) ∨ ∃ (d : Addr) (fs : List (Str × V)), H2 a = some (exo a C (some d)) ∧ H2 d = some (exd d fs) ∧ H1 d = none ∧ Q (.ref C) (some d) (upd (del H2 a) d (.xd fs)))) (fun _ _ _ => False)) :
    wpAny (model X.prog X.w) X.A (call (.ref C) us) (L2N.MkP X pins σ Q) X.xe s1 := by
  obtain ⟨nm, q, N, bs, bm, sn, sub, ab, col, dd, k0, k1, k2, k3, k5, hC, hbm⟩ := T.cls
  obtain ⟨hp, g, dr, tk0, os⟩ := s1
  have hsz : hp.objs.size ≤ hp.objs.size + 1 := Nat.le_succ _
  have hn : H1 (hp.objs.size + 1) = none := I1.hok.fresh hsz
  have hq := q1 (hp.objs.size + 1) hn
  have kk : ∀ b o, hp.get? b = some o → ((hp.push (PySem.W.kdv_tup us)).push (PySem.HandSPX.excO C hp.objs.size)).get? b = some o := fun b o e => Heap.get?_push_of_some _ (Heap.get?_push_of_some _ e)
  have hget : ((hp.push (PySem.W.kdv_tup us)).push (PySem.HandSPX.excO C hp.objs.size)).get? (hp.objs.size + 1) = some (PySem.HandSPX.excO C hp.objs.size) := by heap_get
  have I2 : Inv X pins σ (upd H1 (hp.objs.size + 1) (exo (hp.objs.size + 1) C none)) ⟨(hp.push (PySem.W.kdv_tup us)).push (PySem.HandSPX.excO C hp.objs.size), g, dr, tk0, os⟩ := I1.laid (t' := tk0) kk hsz (exo_ok hget)
  have r2 : Vals (V.ref (hp.objs.size + 1) :: vs) (Value.ref (hp.objs.size + 1) :: us) := .cons rfl r1
  have hl : (Value.ref (hp.objs.size + 1) :: us).length = ps.length := by
    rw [← r2.length]
    exact F1.len _ _ _ _ hq
  have hus : us.length ≤ sizeLine := by
    rw [← Paired.length r1, sizeLine_eq]
    omega
  have b2 := hb _ (Value.ref (hp.objs.size + 1) :: us) I2.kIn (by rw [List.append_nil]; exact hl)
  rw [List.append_nil] at b2
  have run := F1.run _ X.stack _ _ ⟨Value.ref (hp.objs.size + 1) :: us, []⟩ (Value.ref (hp.objs.size + 1) :: us) _ _ (fun _ _ _ => False) (hr.make C us []) (I2.env0.make C us []) b2 r2 hq
  refine wpAny_call (PySem.HandSPX.call_own F.excBase_ValueError (fun Y => PySem.HandSPX.refsVE_contains Y bm hbm) (I1.kIn _ _ hC) (PySem.W.looks_findIn I1.kIn iC) (fun self => PySem.W.bind_fn I1.kIn self tI) hus (codeAny_mono run fun r s' hq' => ?_))
  cases r with
  | error er =>
    obtain ⟨_, _, _, _, _, _, _, _, _, _, _, _, z⟩ := hq'
    exact z.elim
  | ok fl =>
    cases fl with
    | ret u =>
      obtain ⟨v, H2, os2, bare2, un2, hok2, rv, ev, hw⟩ := hq'
      subst ev
      obtain ⟨h2, g2, d2, t2, os'⟩ := s'
      refine ⟨rv, ?_⟩
      rcases hw with ⟨ea, q2⟩ | ⟨d, fs, ea, ed, hd1, q2⟩
      · obtain ⟨t0, G, J, kG, ge, hoe, na⟩ := mk_endN (d2 := d2) (t2 := t2) I1 hsz kk un2 hok2 os2 bare2 ea
        exact ⟨hp.objs.size + 1, _, _, ⟨G, g2, d2, t2, os'⟩, _, .ref C, none, rfl, J, kG, ge, hoe, ⟨rfl, rfl, fun vs hv => by cases hv; rfl⟩, rfl, rfl, na, rfl, bare2, raises_own T.exC T.tyC, q2⟩
      · obtain ⟨t0, G, J, kG, ge, hoe, na⟩ := mk_end0 (d2 := d2) (t2 := t2) I1 hsz kk un2 hok2 os2 bare2 ea ed hd1
        exact ⟨hp.objs.size + 1, _, _, ⟨G, g2, d2, t2, os'⟩, _, .ref C, some d, rfl, J, kG, ge, hoe, ⟨rfl, rfl, fun vs hv => by cases hv; rfl⟩, rfl, rfl, na, rfl, bare2, raises_own T.exC T.tyC, q2⟩
    | next => exact False.elim hq'
    | brk => exact False.elim hq'
    | cont => exact False.elim hq'
end
/-! ### raise C(..) -/
def excD (l : List (Nat × Nat)) (as : List Wv) : Option (List (Nat × D)) := match l with
  | [] => some []
  | (f, i) :: r => match as[i - 1]?, excD r as with
    | some (.t d), some rs => some ((f, d) :: rs)
    | _, _ => none
def kRaise (C n : Nat) (l : List (Nat × Nat)) (as : List Wv) (Γ : VEnv) (M : Store) : RS := if as.length + 1 = n then (match excD l as with
  | some fs => .exc C fs Γ M
  | none => .bad) else .bad
def vRaise (C n : Nat) (l : List (Nat × Nat)) (g : ES (List Wv)) : SemS := fun Γ M => (g Γ M).bindS Γ fun as M1 => kRaise C n l as Γ M1
theorem excD_xf {c : Vc} {μ : Nat → Addr} {m : Nat} {G : Hp} {as : List Wv} {xs : List V} {fs' : List (Str × V)} {a : V} (ha : Held c μ m G as xs) : ∀ {l : List (Nat × Nat)} {fs : List (Nat × D)}, excD l as = some fs → (∀ p ∈ l, 0 < p.2) → Tells fs' (l.map fun p => (c.nm p.1, p.2)) (a :: xs) → XF c G fs fs'
  | [], fs, e, _, _ => by
    cases e
    intro f d h
    cases h
  | (f, i) :: r, fs, e, hp, ht => by
    unfold excD at e
    split at e
    · rename_i d rs e1 e2
      cases e
      have ih := excD_xf ha e2 (fun p h => hp p (List.mem_cons_of_mem _ h)) fun p h => ht p (List.mem_cons_of_mem _ h)
      intro g d' h
      rw [List.lookup_cons] at h
      by_cases hg : g = f
      · subst hg
        simp only [beq_self_eq_true] at h
        cases h
        obtain ⟨v, q1, q2⟩ := ht (c.nm g, i) (List.mem_cons_self ..)
        obtain ⟨v2, q3, q4⟩ := ha.get e1
        have hi : 0 < i := hp (g, i) (List.mem_cons_self ..)
        obtain ⟨j, rfl⟩ : ∃ j, i = j + 1 := ⟨i - 1, by omega⟩
        simp only [Nat.add_sub_cancel] at q3
        dsimp only at q1
        rw [List.getElem?_cons_succ, q3] at q1
        cases q1
        exact ⟨v, q2, q4⟩
      · have b1 : (g == f) = false := beq_eq_false_iff_ne.mpr hg
        rw [b1] at h
        exact ih g d' h
    · cases e
theorem excD_nil {l : List (Nat × Nat)} {as : List Wv} {fs : List (Nat × D)} (e : excD l as = some fs) (h : l = []) : fs = [] := by
  subst h
  cases e
  rfl
section
variable {c : Vc} {X : Cx} {W : WX} {C n : Nat} {l : List (Nat × Nat)} {g : ES (List Wv)}
theorem vRaise_ok (hn : n ≤ 1000) (hp : ∀ p ∈ l, 0 < p.2) (D : Ends) (σ : L2.St) (H : Hp) (h : liftS c W (vRaise C n l g) D σ H) : tMkX (c.ρ C) (spE (c.ρ C) (l.map fun p => (c.nm p.1, p.2)) n) (liftA c W g) σ H (fun cls d H' => W cls d σ H') := by
  refine bindS_ok (rr := rrA c) (f := g) (k := fun as Γ M1 => kRaise C n l as Γ M1) h fun as xs H1 μ G Γ M R ha F => ?_
  dsimp only [kRaise] at F
  split at F
  · rename_i hl
    split at F
    · rename_i fs ef
      have hx : xs.length + 1 = n := by rw [ha.length]; exact hl
      refine ⟨by omega, fun a hna => ⟨a, xs, rfl, by simpa using hx, upd_same, ?_⟩⟩
      have e0 : ∀ (o : HO) , del (upd H1 a o) a = H1 := fun o => by
        funext b
        by_cases hb : b = a
        · rw [hb, del_same, hna]
        · rw [del_ne hb, upd_ne hb]
      cases l with
      | nil =>
        refine ⟨rfl, .inl ⟨upd_same, ?_⟩⟩
        rw [e0]
        have z := excD_nil ef rfl
        exact F μ G σ H1 (.ref (c.ρ C)) none Ext.refl R ⟨rfl, .inl z⟩
      | cons p l =>
        intro dx fs' hdx hne ht
        rw [upd_ne hne] at hdx
        refine ⟨rfl, .inr ⟨dx, fs', upd_same, ?_, hdx, ?_⟩⟩
        · rw [upd_ne hne, upd_same]
        · have e1 : upd (del (upd (upd (upd H1 a (exo a (c.ρ C) none)) dx (exd dx fs')) a (exo a (c.ρ C) (some dx))) a) dx (.xd fs') = upd H1 dx (.xd fs') := by
            funext b
            by_cases hb : b = dx
            · rw [hb, upd_same, upd_same]
            · rw [upd_ne hb, upd_ne hb]
              by_cases hba : b = a
              · rw [hba, del_same, hna]
              · rw [del_ne hba, upd_ne hba, upd_ne hb, upd_ne hba]
          rw [e1]
          obtain ⟨R2, s2⟩ := R.lay (p := dx) (o := .xd fs') hdx
          have ex2 : Ext μ G M.length μ (upd G dx (.xd fs')) M.length := ⟨s2, fun _ _ => rfl, Nat.le_refl _⟩
          exact F μ _ σ _ (.ref (c.ρ C)) (some dx) ex2 R2 ⟨rfl, .inr ⟨dx, fs', rfl, upd_same, excD_xf (ha.ext ex2) ef hp ht⟩⟩
    · exact F.elim
  · exact F.elim
variable {fI : Addr} {k : Nat} {fd : FuncData} {ps : List Str} {x : Str} {e : Expr} {es : List Expr} {p pos pos2 : Pos}
theorem ds_raise (hc : X.calm = true) (tk : L2N.Takes X W) (T : OexC X.K (c.ρ C)) (iC : PySem.W.findIn X.K (.ref (c.ρ C)) "__init__" = some (some (.ref fI))) (tI : PySem.W.typeIn X.K (.ref fI) = some (.type "function"))
    (F1 : FnOk X.prog X.w X.K X.mg X.base (L2N.CX X.prog X.w) k fI fd ps (spE (c.ρ C) (l.map fun p => (c.nm p.1, p.2)) n)) (hr : Room (k + 1) X.A) (hb : Binds X.K fd ps []) (hg : Gl X x) (hm : X.mg x = some (.ref (c.ρ C))) (ha : DA c X W (e :: es) g) (hn : n ≤ 1000 := by decide) (hp : ∀ p ∈ l, 0 < p.2 := by decide)
    (hdb : (x == ("__debug__" : Str)) = false := by decide) (he : starEach (e :: es) X.env = (false, eval e X.env) :: starEach es X.env := by rfl) (hpl : (backTo pos (starEach es X.env)).any (·.1) = false := by rfl) :
    DS c X W (.Raise (some (.Call (.Name x p) (e :: es) [] pos)) none pos2) (vRaise C n l g) := by
  have mk : L2N.PMk X (.Call (.Name x p) (e :: es) [] pos) (tMkX (c.ρ C) (spE (c.ρ C) (l.map fun p => (c.nm p.1, p.2)) n) (liftA c W g)) := by
    intro pins s σ H Q I h
    refine wpAny_Call_Name_kw (ld_glob I hg hm ?_ hdb)
    refine PySem.W.callWith_K (h₀ := X.base) I.ok.mod.kin T.kC (thn (ha.run pos pins s σ H _ I h) fun us s1 ⟨vs, H1, I1, r1, hz, q1⟩ => ⟨I1.kIn, ?_⟩) he hpl
    exact run_mkx T iC tI F1 hr hb tk I1 r1 hz q1
  exact psImp (L2N.ps_raise hc tk mk) fun D σ H h => vRaise_ok hn hp D σ H h
theorem ds_raise0 (hc : X.calm = true) (tk : L2N.Takes X W) (T : OexC X.K (c.ρ C)) (iC : PySem.W.findIn X.K (.ref (c.ρ C)) "__init__" = some (some (.ref fI))) (tI : PySem.W.typeIn X.K (.ref fI) = some (.type "function"))
    (F1 : FnOk X.prog X.w X.K X.mg X.base (L2N.CX X.prog X.w) k fI fd ps (spE (c.ρ C) [] n)) (hr : Room (k + 1) X.A) (hb : Binds X.K fd ps []) (hg : Gl X x) (hm : X.mg x = some (.ref (c.ρ C))) (hn : n ≤ 1000 := by decide) (hdb : (x == ("__debug__" : Str)) = false := by decide) :
    DS c X W (.Raise (some (.Call (.Name x p) [] [] pos)) none pos2) (vRaise C n [] vNil) := by
  have mk : L2N.PMk X (.Call (.Name x p) [] [] pos) (tMkX (c.ρ C) (spE (c.ρ C) [] n) tNil) := by
    intro pins s σ H Q I h
    refine wpAny_Call_Name_kw (ld_glob I hg hm ?_ hdb)
    obtain ⟨hz, q1⟩ := h
    exact PySem.W.callWith_K0 I.kIn T.kC (run_mkx (us := []) T iC tI F1 hr hb tk I .nil hz q1)
  refine psImp (L2N.ps_raise hc tk mk) fun D σ H h => ?_
  have q := vRaise_ok (l := []) hn (fun _ h => by cases h) D σ H h
  obtain ⟨μ, G, Γ, M, R, hd, F⟩ := q
  exact F μ G [] H Ext.refl R rfl
end
end VL

set_option Elab.async false
set_option linter.all false
set_option maxRecDepth 100000
set_option maxHeartbeats 400000
/-! VL14: try, except clauses with a name or without. -/
namespace VL
open PySem PySem.Spec PyProof.Rows L2
/-! ### the rule over HandS -/
def endAs (i : Nat) (D : Ends) : Ends := { nx := fun σ H => D.nx (σ.set i none) H, rt := D.rt, bk := fun σ H => D.bk (σ.set i none) H, ct := fun σ H => D.ct (σ.set i none) H }
structure HdT where
  c : Value
  i : Option Nat
  ts : Addr → Value → Option Addr → TS
def HdT.go (h : HdT) (a : Addr) (cls : Value) (d : Option Addr) (D : Ends) (σ : L2.St) (H : Hp) : Prop := match h.i with
  | none => h.ts a cls d D σ H
  | some i => h.ts a cls d (endAs i D) (σ.set i (some (.ref a))) H
def wHds (K : PySem.W.Frag) (Wout : WX) (D : Ends) : List HdT → WX
  | [] => Wout
  | h :: r => fun cls d σ H => ∃ b, PySem.W.exmOne K cls h.c = some b ∧ (b = true → ∀ a, H a = none → h.go a cls d D σ H) ∧ (b = false → wHds K Wout D r cls d σ H)
inductive HdsV (X : Cx) : List ExceptHandler → List HdT → Prop
  | nil : HdsV X [] []
  | plain {x : Str} {c : Value} {ts : Addr → Value → Option Addr → TS} {b₀ : Stmt} {suite : List Stmt} {np pos' : Pos} {hds : List ExceptHandler} {l : List HdT} (hc : Names X x c)
      (hsu : ∀ (a : Addr) (oe : Obj) (cls : Value) (d : Option Addr) (pn : List (Addr × Obj)), L2N.Zn cls d oe → (∃ vs, oe.data = .fields vs) → PSs (X.suite a ((a, oe) :: pn)) (b₀ :: suite) (ts a cls d)) (r : HdsV X hds l) :
      HdsV X (.ExceptHandler (some (.Name x np)) none (b₀ :: suite) pos' :: hds) (⟨c, none, ts⟩ :: l)
  | named {x n : Str} {c : Value} {i : Nat} {ts : Addr → Value → Option Addr → TS} {b₀ : Stmt} {suite : List Stmt} {np pos' : Pos} {hds : List ExceptHandler} {l : List HdT} (hi : X.N[i]? = some n) (hln : X.env.kindOf n = some .local) (hc : Names X x c)
      (hsu : ∀ (a : Addr) (oe : Obj) (cls : Value) (d : Option Addr) (pn : List (Addr × Obj)), L2N.Zn cls d oe → (∃ vs, oe.data = .fields vs) → PSs (X.suite a ((a, oe) :: pn)) (b₀ :: suite) (ts a cls d)) (r : HdsV X hds l) :
      HdsV X (.ExceptHandler (some (.Name x np)) (some n) (b₀ :: suite) pos' :: hds) (⟨c, some i, ts⟩ :: l)
section
variable {X : Cx} {body : List Stmt} {h₀ : ExceptHandler} {hds : List ExceptHandler} {l : List HdT} {pos : Pos} {tb : WX → TS} {Wout : WX}
theorem ps_tryV (hs : X.stack = X.env :: X.outer) (hf : X.env.frame = some X.env.locals) (hN : X.N.Nodup) (tk : L2N.Takes X Wout)
    (hb : ∀ (W : WX) (pn : List (Addr × Obj)) (xe : Value → Shared → Prop), L2N.Takes (X.tr pn xe) W → PassesOwn (model X.prog X.w) X.A X.env xe → PSs (X.tr pn xe) body (tb W))
    (hh : HdsV X (h₀ :: hds) l) : PS X (.Try body (h₀ :: hds) [] [] pos) (fun D σ H => tb (wHds X.K Wout D l) D σ H) := by
  refine ⟨fun pins s σ H D I h => ?_⟩
  have ok := I.ok
  have hfr : X.A.frames = some (X.env :: X.outer) := by rw [ok.frames, hs]
  refine wpAny_Try_except ?_
  refine wpAny_mono ((hb (wHds X.K Wout D l) (X.pn ++ pins) (fun e s₁ => wpAny (model X.prog X.w) X.A (noteFrame e X.env) (fun _ s₂ => wpAny (model X.prog X.w) X.A (setFlight e none) (fun _ s₃ =>
    wpAny (model X.prog X.w) X.A (handleBy e X.env (h₀ :: hds)) (SP X pins D) X.xe s₃) X.xe s₂) X.xe s₁) (fun u s' xx => ?_) PassesOwn.looking).run [] s σ H D (I.toTry _) h) (fun f s1 hsp => ?_) (fun e s1 he => he)
  · obtain ⟨a, B, sI, pins', σ', H', cls, d, rfl, J', nb, up, sky, na, os, ag, w⟩ := xx
    have J : Inv X pins σ' H' sI := J'.ofTry ok
    have sky' : Sky B (X.env :: X.outer) a (L2N.Zn cls d) X.env.locals s'.heap := by rw [← hs]; exact sky
    show wpAny (model X.prog X.w) X.A (noteFrame (.ref a) X.env) _ _ _
    refine L2N.Sky.land L2N.Zn.steady hfr hf sky' fun h3 fl3 up3 => ?_
    have J3 : Inv X pins σ' H' { s' with heap := h3 } := J.landed nb fl3.1 (up.trans up3) os ag
    obtain ⟨oe3, vs3, he3, hz3, hd3⟩ := fl3.there
    have notFr : ∀ {h : Heap} {o : Obj} {vs : Array Value}, h.FunFrames B (X.env :: X.outer) → h.get? a = some o → o.data = .fields vs → a ∉ frs (X.env :: X.outer) := fun {h o vs} ff e dd hm => by
      obtain ⟨_, o', e', hnf⟩ := ff.mem hm
      rw [e] at e'
      cases e'
      exact hnf _ dd
    have nfr := notFr fl3.2.2.1 he3 hd3
    have nL : a ≠ X.env.locals := fun z => nfr (List.mem_filterMap.mpr ⟨X.env, List.mem_cons_self, by rw [hf, z]⟩)
    have nF : a ∉ X.fs := fun hm => by
      obtain ⟨e, he, q⟩ := List.mem_filterMap.mp hm
      exact nfr (List.mem_filterMap.mpr ⟨e, List.mem_cons_of_mem _ he, q⟩)
    have S3 := J3.suite he3 hd3 na nL nF
    have tst : ∀ {x : Str} {c : Value} {np : Pos} {Q : Value → Shared → Prop} {E : Value → Shared → Prop}, Names X x c → Q c { s' with heap := h3 } → wpAny (model X.prog X.w) (X.A.mark (some (.ref a))) (eval (.Name x np) X.env) Q E { s' with heap := h3 } := fun {x c np Q E} hc q => by
      obtain ⟨hg, hdbg, hm | ⟨hm, hv, hnn⟩⟩ := hc
      · exact ld_glob (X := X.suite a ((a, oe3) :: (X.pn ++ pins))) S3 hg hm q hdbg
      · exact ld_blt (X := X.suite a ((a, oe3) :: (X.pn ++ pins))) S3 hg hm hv q hnn hdbg
    have LT : PySem.W.Looks (model X.prog X.w) h3 (typeOf (.ref a)) cls := fun A Q E s k q => wpAny_typeOf_ref (k _ _ he3) (by rw [hz3.1]; exact q)
    have go : ∀ {hds' : List ExceptHandler} {l' : List HdT}, HdsV X hds' l' → wHds X.K Wout D l' cls d σ' H' → wpAny (model X.prog X.w) X.A (handleBy (.ref a) X.env hds') (SP X pins D) X.xe { s' with heap := h3 } := by
      intro hds' l' hk
      induction hk with
      | nil =>
        intro w
        refine wpAny_handleBy_nil ?_
        obtain ⟨k1, k2, k3, oe, vs, T, oT, ts', he, hz, hd, h1, hr⟩ := id fl3
        unfold PySem.passOn
        refine wpAny_bind (wpAny_field he hd h1 ?_)
        rw [if_neg (show ¬ ((Value.ref T == Value.none) = true) from by simp)]
        have fin : wpAny (model X.prog X.w) X.A (setFlight (.ref a) X.env.frame) (fun _ s4 => wpAny (model X.prog X.w) X.A (throw (.ref a) : Sem Flow) (SP X pins D) X.xe s4) X.xe { s' with heap := h3 } := by
          rw [hf]
          refine HandSPX.setFlight_upZ fl3 fun h4 hh4 up4 => wpAny_throw (tk _ _ ?_)
          exact ⟨a, B, sI, pins, σ', H', cls, d, rfl, J, nb, (up.trans up3).trans up4, .inr (.inr (by rw [hs]; exact hh4)), na, os, ag, w⟩
        first
          | exact wpAny_bind (wpAny_pure (wpAny_bind fin))
          | exact wpAny_bind fin
      | @plain x c ts b₀ suite np pos' hds2 l2 hc hsu r ih =>
        intro w
        obtain ⟨b, hb1, hyes, hno⟩ := w
        refine wpAny_handleBy_cons (codeAny_handlers_test ?_) (by intro q; cases q)
        have LM := PySem.W.exm_one (M := model X.prog X.w) (J3.kIn) LT hb1
        refine tst hc (LM.here ?_)
        cases b with
        | true =>
          refine codeAny_handlers_suite ?_
          refine HandSPX.lands_againZ fl3 fun h4 fl4 up4 => ?_
          have J4 : Inv X pins σ' H' { s' with heap := h4 } := J.landed nb fl4.1 ((up.trans up3).trans up4) os ag
          obtain ⟨oe4, vs4, he4, hz4, hd4⟩ := fl4.there
          have S4 := J4.suite he4 hd4 na nL nF
          refine wpAny_mono ((hsu a oe4 cls d (X.pn ++ pins) hz4 ⟨_, hd4⟩).run [] _ _ H' _ S4 (hyes rfl a na)) (fun f s6 hsp => ?_) (fun _ _ z => False.elim z)
          cases f with
          | ret u =>
            obtain ⟨v6, σ6, H6, S6, r6, q6⟩ := hsp
            exact ⟨_, _, _, S6.unsuite ok, r6, q6⟩
          | _ =>
            obtain ⟨σ6, H6, S6, q6⟩ := hsp
            exact ⟨_, _, S6.unsuite ok, q6⟩
        | false =>
          show wpAny _ X.A (handleBy (.ref a) X.env hds2) _ _ _
          exact ih (hno rfl)
      | @named x n c i ts b₀ suite np pos' hds2 l2 hi hln hc hsu r ih =>
        intro w
        obtain ⟨b, hb1, hyes, hno⟩ := w
        have hloc : Loc X.env.scope n := .inl hln
        refine wpAny_handleBy_cons (codeAny_handlers_test ?_) (by intro q; cases q)
        have LM := PySem.W.exm_one (M := model X.prog X.w) (J3.kIn) LT hb1
        refine tst hc (LM.here ?_)
        cases b with
        | true =>
          refine codeAny_handlers_suite_as ?_
          refine HandSPX.lands_againZ fl3 fun h4 fl4 up4 => ?_
          have J4 : Inv X pins σ' H' { s' with heap := h4 } := J.landed nb fl4.1 ((up.trans up3).trans up4) os ag
          obtain ⟨oe4, vs4, he4, hz4, hd4⟩ := fl4.there
          have S4 := J4.suite he4 hd4 na nL nF
          refine store_ok (X := X.suite a ((a, oe4) :: (X.pn ++ pins))) (v := .ref a) S4 hN hi hloc rfl (fun s5 S5 => ?_) (.inr hln)
          refine wpAny_mono ((hsu a oe4 cls d (X.pn ++ pins) hz4 ⟨_, hd4⟩).run [] s5 _ H' _ S5 (hyes rfl a na)) (fun f s6 hsp => ?_) (fun _ _ z => False.elim z)
          have end_ : ∀ {σ6 : L2.St} {H6 : Hp} {Q : Shared → Prop}, Inv (X.suite a ((a, oe4) :: (X.pn ++ pins))) [] σ6 H6 s6 → (∀ s7, Inv X pins (σ6.set i none) H6 s7 → Q s7) →
              wpAny (model X.prog X.w) X.A (do bindName X.env n .none; unbindBehindTheSuite X.env n pos') (fun _ s7 => Q s7) X.xe s6 := fun {σ6 H6 Q} S6 hq => gone_ok (S6.unsuite ok) hN hi hln hq
          cases f with
          | next =>
            obtain ⟨σ6, H6, S6, q6⟩ := hsp
            exact end_ S6 fun s7 J7 => ⟨_, _, J7, q6⟩
          | brk =>
            obtain ⟨σ6, H6, S6, q6⟩ := hsp
            exact end_ S6 fun s7 J7 => ⟨_, _, J7, q6⟩
          | cont =>
            obtain ⟨σ6, H6, S6, q6⟩ := hsp
            exact end_ S6 fun s7 J7 => ⟨_, _, J7, q6⟩
          | ret u =>
            obtain ⟨v6, σ6, H6, S6, r6, q6⟩ := hsp
            exact end_ S6 fun s7 J7 => ⟨_, _, _, J7, r6, q6⟩
        | false =>
          show wpAny _ X.A (handleBy (.ref a) X.env hds2) _ _ _
          exact ih (hno rfl)
    exact go hh w
  · cases f with
    | next =>
      obtain ⟨σ', H', J', q⟩ := hsp
      exact wpAny_execs_nil ⟨σ', H', J'.ofTry ok, q⟩
    | brk =>
      obtain ⟨σ', H', J', q⟩ := hsp
      exact ⟨σ', H', J'.ofTry ok, q⟩
    | cont =>
      obtain ⟨σ', H', J', q⟩ := hsp
      exact ⟨σ', H', J'.ofTry ok, q⟩
    | ret u =>
      obtain ⟨v, σ', H', J', r, q⟩ := hsp
      exact ⟨v, σ', H', J'.ofTry ok, r, q⟩
end
/-! ### over plain data -/
structure HdD where
  sub : List (Nat × Bool)
  i : Option Nat
  h : Addr → Value → Option Addr → SemS
/-- behind a suite with a name: the name is gone, so is the exception's cell -/
def Fl.below (m : Nat) : Fl → Bool
  | .rt (.l n) => decide (n < m)
  | _ => true
def asEnd (i m : Nat) : RS → RS
  | .ok fl Γ M => if m ≤ M.length ∧ okL m (M.take m) = true ∧ fl.below m = true then .ok fl ((Γ.set i none).map (Wv.cut m)) (M.take m) else .bad
  | _ => .bad
def HdD.run (hd : HdD) (a : Addr) (cls : Value) (d : Option Addr) (C : Nat) (fs : List (Nat × D)) : SemS := fun Γ M => match hd.i with
  | none => (match hd.h a cls d Γ M with
    | .ok fl Γ' M' => .ok fl Γ' M'
    | _ => .bad)
  | some i => asEnd i M.length (hd.h a cls d (Γ.set i (some (.l M.length))) (M ++ [.exn a cls d C fs]))
noncomputable def anyExc (F : Addr → Value → Option Addr → RS) : RS := @dite _ (∃ r, ∀ a cls d, F a cls d = r) (Classical.propDecidable _) (fun h => h.choose) fun _ => .bad
theorem anyExc_eq {F : Addr → Value → Option Addr → RS} {r : RS} (h : ∀ a cls d, F a cls d = r) : anyExc F = r := by
  unfold anyExc
  rw [dif_pos ⟨r, h⟩]
  have z := (show ∃ r, ∀ a cls d, F a cls d = r from ⟨r, h⟩).choose_spec 0 .none none
  rw [← z]
  exact h _ _ _
theorem anyExc_spec {F : Addr → Value → Option Addr → RS} (h : anyExc F ≠ .bad) : ∀ a cls d, F a cls d = anyExc F := by
  unfold anyExc at h ⊢
  by_cases q : ∃ r, ∀ a cls d, F a cls d = r
  · rw [dif_pos q]
    exact q.choose_spec
  · rw [dif_neg q] at h
    exact absurd rfl h
noncomputable def tryHds : List HdD → Nat → List (Nat × D) → SemS
  | [], C, fs => fun Γ M => .exc C fs Γ M
  | hd :: r, C, fs => fun Γ M => match hd.sub.lookup C with
    | none => .bad
    | some false => tryHds r C fs Γ M
    | some true => anyExc fun a cls d => hd.run a cls d C fs Γ M
noncomputable def kTry (hs : List HdD) : RS → RS
  | .exc C fs Γ M => tryHds hs C fs Γ M
  | r => r
noncomputable def vTry (fb : SemS) (hs : List HdD) : SemS := fun Γ M => kTry hs (fb Γ M)
/-- the handlers, over plain data -/
inductive HdsD (c : Vc) (X : Cx) : List ExceptHandler → List HdD → Prop
  | nil : HdsD c X [] []
  | plain {x : Str} {cv : Value} {sub : List (Nat × Bool)} {h : Addr → Value → Option Addr → SemS} {b₀ : Stmt} {suite : List Stmt} {np pos' : Pos} {hds : List ExceptHandler} {l : List HdD} (hc : Names X x cv) (hsub : ∀ p ∈ sub, PySem.W.exmOne c.K (.ref (c.ρ p.1)) cv = some p.2)
      (hsu : ∀ (a : Addr) (oe : Obj) (cls : Value) (d : Option Addr) (pn : List (Addr × Obj)), L2N.Zn cls d oe → (∃ vs, oe.data = .fields vs) → DSs c (X.suite a ((a, oe) :: pn)) WF (b₀ :: suite) (h a cls d)) (r : HdsD c X hds l) :
      HdsD c X (.ExceptHandler (some (.Name x np)) none (b₀ :: suite) pos' :: hds) (⟨sub, none, h⟩ :: l)
  | named {x n : Str} {cv : Value} {i : Nat} {sub : List (Nat × Bool)} {h : Addr → Value → Option Addr → SemS} {b₀ : Stmt} {suite : List Stmt} {np pos' : Pos} {hds : List ExceptHandler} {l : List HdD} (hi : X.N[i]? = some n) (hln : X.env.kindOf n = some .local) (hc : Names X x cv)
      (hsub : ∀ p ∈ sub, PySem.W.exmOne c.K (.ref (c.ρ p.1)) cv = some p.2)
      (hsu : ∀ (a : Addr) (oe : Obj) (cls : Value) (d : Option Addr) (pn : List (Addr × Obj)), L2N.Zn cls d oe → (∃ vs, oe.data = .fields vs) → DSs c (X.suite a ((a, oe) :: pn)) WF (b₀ :: suite) (h a cls d)) (r : HdsD c X hds l) :
      HdsD c X (.ExceptHandler (some (.Name x np)) (some n) (b₀ :: suite) pos' :: hds) (⟨sub, some i, h⟩ :: l)
theorem mem_lookup {l : List (Nat × Bool)} {C : Nat} {b : Bool} (h : l.lookup C = some b) : (C, b) ∈ l := by
  induction l with
  | nil => cases h
  | cons p l ih =>
    obtain ⟨k, v⟩ := p
    rw [List.lookup_cons] at h
    by_cases e : C = k
    · subst e
      simp only [beq_self_eq_true] at h
      cases h
      exact List.mem_cons_self ..
    · have b1 : (C == k) = false := beq_eq_false_iff_ne.mpr e
      rw [b1] at h
      exact List.mem_cons_of_mem _ (ih h)
theorem Rel.gone {c : Vc} {μ : Nat → Addr} {G H : Hp} {Γ : VEnv} {M : Store} {σ : L2.St} (R : Rel c μ G Γ M σ H) (i : Nat) : Rel c μ G (Γ.set i none) M (σ.set i none) H := by
  refine R.env (by rw [List.length_set, List.length_set]; exact R.len) fun j w e => ?_
  by_cases h : i = j
  · subst h
    rw [List.getElem?_set_self'] at e
    cases q : Γ[i]? with
    | none => rw [q] at e; cases e
    | some _ => rw [q] at e; cases e
  · rw [List.getElem?_set_ne h] at e
    obtain ⟨v, q1, q2⟩ := R.sl j w e
    exact ⟨v, by rw [List.getElem?_set_ne h]; exact q1, q2⟩
section
variable {c : Vc} {X : Cx} {W : WX}
/-- the wish of an exception of the body -/
theorem tryHds_ok (hK : c.K = X.K) {hds : List ExceptHandler} {l : List HdD} (hk : HdsD c X hds l) (Dn : Ends) :
    ∃ L : List HdT, HdsV X hds L ∧ ∀ (C : Nat) (fs : List (Nat × D)) (Γ : VEnv) (M : Store) (μ : Nat → Addr) (G : Hp) (σ : L2.St) (H : Hp) (cls : Value) (dd : Option Addr), Rel c μ G Γ M σ H → ExcAt c G C fs cls dd → FinS c W μ G M.length Dn (tryHds l C fs Γ M) → wHds X.K W Dn L cls dd σ H := by
  induction hk with
  | nil => exact ⟨[], .nil, fun C fs Γ M μ G σ H cls dd R q F => F μ G σ H cls dd Ext.refl R q⟩
  | @plain x cv sub h b₀ suite np pos' hds l hc hsub hsu r ih =>
    obtain ⟨L, hL, iL⟩ := ih
    refine ⟨⟨cv, none, fun a cls d => liftS c WF (h a cls d)⟩ :: L, .plain hc hsu hL, fun C fs Γ M μ G σ H cls dd R q F => ?_⟩
    unfold tryHds at F
    dsimp only at F
    cases e : sub.lookup C with
    | none => rw [e] at F; exact F.elim
    | some b =>
      rw [e] at F
      have e2 := hsub (C, b) (mem_lookup e)
      refine ⟨b, (by rw [q.1, ← hK]; exact e2), fun hb a ha => ?_, fun hb => ?_⟩
      · subst hb
        dsimp only at F
        have nb : anyExc (fun a cls d => HdD.run ⟨sub, none, h⟩ a cls d C fs Γ M) ≠ .bad := fun z => by rw [z] at F; exact F.elim
        have sp := anyExc_spec nb a cls dd
        rw [← sp] at F
        refine ⟨μ, G, Γ, M, R, ?_⟩
        dsimp only [HdD.run] at F
        cases er : h a cls dd Γ M with
        | ok fl Γ' M' =>
          rw [er] at F
          cases fl <;> exact F
        | exc C' fs' Γ' M' => rw [er] at F; exact F.elim
        | bad => rw [er] at F; exact F.elim
      · subst hb
        exact iL C fs Γ M μ G σ H cls dd R q F
  | @named x n cv i sub h b₀ suite np pos' hds l hi hln hc hsub hsu r ih =>
    obtain ⟨L, hL, iL⟩ := ih
    refine ⟨⟨cv, some i, fun a cls d => liftS c WF (h a cls d)⟩ :: L, .named hi hln hc hsu hL, fun C fs Γ M μ G σ H cls dd R q F => ?_⟩
    unfold tryHds at F
    dsimp only at F
    cases e : sub.lookup C with
    | none => rw [e] at F; exact F.elim
    | some b =>
      rw [e] at F
      have e2 := hsub (C, b) (mem_lookup e)
      refine ⟨b, (by rw [q.1, ← hK]; exact e2), fun hb a ha => ?_, fun hb => ?_⟩
      · subst hb
        dsimp only at F
        have nb : anyExc (fun a cls d => HdD.run ⟨sub, some i, h⟩ a cls d C fs Γ M) ≠ .bad := fun z => by rw [z] at F; exact F.elim
        have sp := anyExc_spec nb a cls dd
        rw [← sp] at F
        have nl : ∀ n, Live M n → μ n ≠ a := fun n ln z => by
          obtain ⟨_, o, ho⟩ := R.live ln
          rw [z, ha] at ho
          cases ho
        obtain ⟨μ', ex, ea, R'⟩ := R.cell (x := .exn a cls dd C fs) nl fun μ' _ => ⟨rfl, q⟩
        have R2 := R'.store (i := i) (w := .l M.length) (v := .ref a) ⟨by simp, by rw [ea]⟩
        refine ⟨μ', G, _, _, R2, ?_⟩
        dsimp only [HdD.run] at F
        cases er : h a cls dd (Γ.set i (some (.l M.length))) (M ++ [.exn a cls dd C fs]) with
        | bad => rw [er] at F; exact F.elim
        | exc C' fs' Γ' M' => rw [er] at F; exact F.elim
        | ok fl Γ' M' =>
          rw [er] at F
          dsimp only [asEnd] at F
          by_cases hk : M.length ≤ M'.length ∧ okL M.length (M'.take M.length) = true ∧ fl.below M.length = true
          · rw [if_pos hk] at F
            obtain ⟨k1, k2, k3⟩ := hk
            have key : ∀ μ2 G2 σ2 H2, Ext μ' G (M ++ [Cel.exn a cls dd C fs]).length μ2 G2 M'.length → Rel c μ2 G2 Γ' M' σ2 H2 →
                Ext μ G M.length μ2 G2 (M'.take M.length).length ∧ Rel c μ2 G2 ((Γ'.set i none).map (Wv.cut M.length)) (M'.take M.length) (σ2.set i none) H2 := fun μ2 G2 σ2 H2 ex2 R3 =>
              ⟨⟨ex.g.trans ex2.g, fun n hn => (ex2.u n (Nat.lt_of_lt_of_le hn ex.m)).trans (ex.u n hn), by rw [List.length_take]; omega⟩, (R3.gone i).trim k1 k2⟩
            cases fl with
            | nx => exact fun μ2 G2 σ2 H2 ex2 R3 => let ⟨q1, q2⟩ := key μ2 G2 σ2 H2 ex2 R3; F μ2 G2 _ H2 q1 q2
            | bk => exact fun μ2 G2 σ2 H2 ex2 R3 => let ⟨q1, q2⟩ := key μ2 G2 σ2 H2 ex2 R3; F μ2 G2 _ H2 q1 q2
            | ct => exact fun μ2 G2 σ2 H2 ex2 R3 => let ⟨q1, q2⟩ := key μ2 G2 σ2 H2 ex2 R3; F μ2 G2 _ H2 q1 q2
            | rt r =>
              intro μ2 G2 σ2 H2 v ex2 R3 rr
              obtain ⟨q1, q2⟩ := key μ2 G2 σ2 H2 ex2 R3
              refine F μ2 G2 _ H2 v q1 q2 ?_
              cases r with
              | t d => exact rr
              | f d =>
                obtain ⟨a5, z1, z2, z3, z4⟩ := rr
                exact ⟨a5, z1, z2, fun n l => z3 n (live_take l), z4⟩
              | l n => exact ⟨by rw [List.length_take]; have := of_decide_eq_true k3; omega, rr.2⟩
          · rw [if_neg hk] at F
            exact F.elim
      · subst hb
        exact iL C fs Γ M μ G σ H cls dd R q F
theorem ds_try {body : List Stmt} {h₀ : ExceptHandler} {hds : List ExceptHandler} {pos : Pos} {fb : SemS} {l : List HdD} (hK : c.K = X.K) (hs : X.stack = X.env :: X.outer) (hf : X.env.frame = some X.env.locals) (hN : X.N.Nodup) (tk : L2N.Takes X W)
    (hb : ∀ (W : WX) (pn : List (Addr × Obj)) (xe : Value → Shared → Prop), L2N.Takes (X.tr pn xe) W → PassesOwn (model X.prog X.w) X.A X.env xe → DSs c (X.tr pn xe) W body fb)
    (hh : HdsD c X (h₀ :: hds) l) : DS c X W (.Try body (h₀ :: hds) [] [] pos) (vTry fb l) := by
  refine ⟨fun pins s σ H D I h => ?_⟩
  obtain ⟨L, hL, iL⟩ := tryHds_ok (W := W) hK hh D
  refine (ps_tryV (tb := fun W => liftS c W fb) (Wout := W) hs hf hN tk hb hL).run pins s σ H D I ?_
  obtain ⟨μ, G, Γ, M, R, F⟩ := h
  refine ⟨μ, G, Γ, M, R, ?_⟩
  unfold vTry at F
  cases e : fb Γ M with
  | bad => rw [e] at F; exact F.elim
  | ok fl Γ' M' =>
    rw [e] at F
    cases fl <;> exact F
  | exc C fs Γ' M' =>
    rw [e] at F
    intro μ2 G2 σ2 H2 cls dd ex R2 q
    exact iL C fs Γ' M' μ2 G2 σ2 H2 cls dd R2 q (FinS.ext ex F)
/-! ### e.f in a suite -/
noncomputable def kXf (a : Addr) (cls : Value) (d : Option Addr) (Cs : List Nat) (f : Nat) (r : Rv) (M : Store) : Res Rv := match r with
  | .l n => (match M[n]? with
    | some (.exn a' cls' d' C fs) => cIf (a' = a ∧ cls' = cls ∧ d' = d) (if C ∈ Cs then (match fs.lookup f with
      | some x => .ok (.t x) M
      | none => .bad) else .bad) .bad
    | _ => .bad)
  | _ => .bad
noncomputable def vXf (a : Addr) (cls : Value) (d : Option Addr) (Cs : List Nat) (f : Nat) (g : SemE) : SemE := fun Γ M => (g Γ M).bind fun r M1 => kXf a cls d Cs f r M1
theorem de_xf {a : Addr} {oe : Obj} {cls : Value} {d : Option Addr} {pn : List (Addr × Obj)} {e : Expr} {g : SemE} {pos : Pos} {n : Str} {Cs : List Nat} {f : Nat} (hK : c.K = X.K) (hf : c.nm f = n) (hC : ∀ C ∈ Cs, XfC X.K (c.ρ C) ∧ PySem.W.findIn X.K (.ref (c.ρ C)) n = some none)
    (hz : L2N.Zn cls d oe) (hd : ∃ vs, oe.data = .fields vs) (he : DE c (X.suite a ((a, oe) :: pn)) W e g) (hb : attributeBase e n X.env (eval e X.env) = eval e X.env := by rfl) :
    DE c (X.suite a ((a, oe) :: pn)) W (.Attribute e n pos) (vXf a cls d Cs f g) := by
  refine ⟨fun pins s σ H Q I h => ?_⟩
  obtain ⟨μ, G, Γ, M, R, _, F⟩ := h
  refine attr_of hb (thn (he.run pins s σ H (fun x H1 => ∃ C fs n', x = .ref a ∧ (∃ dd vs u, d = some dd ∧ H1 dd = some (.xd vs) ∧ cls = .ref (c.ρ C) ∧ C ∈ Cs ∧ vs.lookup n = some u ∧ Q u H1) ∧ fs = ([] : List Nat) ∧ n' = (0 : Nat)) I ?_) fun u s1 hh => ?_)
  · refine ⟨μ, G, Γ, M, R, rfl, ?_⟩
    unfold vXf at F
    cases e1 : g Γ M with
    | bad => rw [e1] at F; exact F.elim
    | exc C fs M' => rw [e1] at F; exact F
    | ok r M1 =>
      rw [e1] at F
      intro μ1 G1 v H1 ex R1 q
      dsimp only [Res.bind, kXf] at F
      cases r with
      | t _ => exact F.elim
      | f _ => exact F.elim
      | l k =>
        dsimp only at F
        split at F
        · rename_i a' cls' d' C fs em
          by_cases ha : a' = a ∧ cls' = cls ∧ d' = d
          · rw [cIf_pos ha] at F
            obtain ⟨h1, h2, h3⟩ := ha
            subst h1 h2 h3
            split at F
            · rename_i hm
              split at F
              · rename_i x ex2
                obtain ⟨hk, ev⟩ := q
                have hc := R1.ce k _ em
                obtain ⟨ea, ec, eo⟩ := hc
                rcases eo with z | ⟨dd, vs, e3, e4, e5⟩
                · rw [z] at ex2; cases ex2
                · obtain ⟨u, q1, q2⟩ := e5 f x ex2
                  refine ⟨C, [], 0, by rw [ev, ← ea], ⟨dd, vs, u, e3, R1.gh _ _ e4, ec, hm, by rw [← hf]; exact q1, ?_⟩, rfl, rfl⟩
                  exact F μ1 G1 u H1 ex R1 q2
              · exact F.elim
            · exact F.elim
          · rw [cIf_neg ha] at F
            exact F.elim
        · exact F.elim
  · obtain ⟨x, H1, I1, rx, C, _, _, exa, ⟨dd, fs, v, ed, ea, ec, hm, l, q⟩, _, _⟩ := hh
    subst exa
    obtain rfl : u = Value.ref a := rx
    subst ec
    subst ed
    obtain ⟨T, hno⟩ := hC C hm
    obtain ⟨ha, _⟩ := I1.pin (a, oe) (List.mem_append_left _ List.mem_cons_self)
    obtain ⟨vs, hd⟩ := hd
    have hx : ObjOk X.prog X.w H1 s1.heap dd (.xd fs) := I1.hok dd _ ea
    obtain ⟨mA, hns, hr⟩ := hx
    obtain ⟨od, ho, hl⟩ := lookIn_ns hns
    obtain ⟨u, hu, ru⟩ := RelO.some_of (v := v) (o := mA n) (by rw [← l]; exact hr n)
    have J : PySem.W.InstAt s1.heap a oe (c.ρ C) (some od) := ⟨ha, hz.1, by unfold PySem.W.notCls; rw [hd] <;> rfl, by rw [hz.2.1]; exact ho⟩
    exact HandSPX.exc_get I1.kIn J T.ga T.gg T.exC (PySem.W.findObj_own T.hdC hno rfl (by rw [hl, hu])) (handed_of ru) ⟨v, H1, I1.tok _, ru, q⟩
end
end VL

set_option Elab.async false
set_option linter.all false
set_option maxRecDepth 100000
set_option maxHeartbeats 1000000
/-! VL15: enumerate over a list or a tuple; zip; augmented assignments; chains of comparisons. -/
namespace VL
open PySem PySem.Spec PyProof.Rows L2
/-! ### enumerate over a tuple -/
theorem meets_enumB1 {v : Value} {o : Obj} {H : Heap → Prop} (B : Begins v o H) :
    Meets (Builtin.«enumerate.__new__» ⟨[.type "enumerate", v], []⟩) (fun _ R s => H s.heap ∧
      R (.ok (.ret (.ref (s.heap.push o).objs.size))) { s with heap := (s.heap.push o).push { cls := .type "enumerate", data := .fields #[.none, .bool false, .ref s.heap.objs.size, rawInt 0, .none, .none] } }) :=
  .of_wp fun prog w A R s h => by
    obtain ⟨hp, g, d, tk, os⟩ := s
    obtain ⟨h1, h⟩ := h
    have hsub := sub_enumerate
    have q1 : ∀ {A' : Around} {E : Value → Shared → Prop} {Q : Value → Shared → Prop}, Q (.ref hp.objs.size) ⟨hp.push o, g, d, tk, os⟩ → wpAny (model prog w) A' (pyIter v) Q E ⟨hp, g, d, tk, os⟩ :=
      fun q => B.iter prog w _ _ ⟨hp, g, d, tk, os⟩ _ h1 q
    wp_walk using q1
    refine wpAny_stack_any fun st => wpAny_pure ?_
    split
    · rename_i c _ _ _ _ _
      cases (c == Value.type "enumerate")
      · wp_walk using q1
        exact ⟨_, rfl, h⟩
      · wp_walk using q1
        exact ⟨_, rfl, h⟩
    · wp_walk using q1
      exact ⟨_, rfl, h⟩
section
variable {prog : Program} {w : World} {A : Around} {E : Value → Shared → Prop} {s : Shared}
theorem call_enumB {v : Value} {o : Obj} {H : Heap → Prop} {Q : Value → Shared → Prop} (B : Begins v o H) (h1 : H s.heap)
    (h : ∀ h', IsEnum h' (s.heap.objs.size + 1) s.heap.objs.size 0 .none → h'.get? s.heap.objs.size = some o → h'.objs.size = s.heap.objs.size + 2 →
      (∀ b o, s.heap.get? b = some o → h'.get? b = some o) → Q (.ref (s.heap.objs.size + 1)) { s with heap := h' }) :
    wpAny (model prog w) A (call (.type "enumerate") [v]) Q E s := by
  refine callType_new F.called_enumerate (by decide) (F.typeCall_enumerate_1 _) (F.newCall_enumerate_1 _) (fun obj => F.args_object_init_2 obj _) F.entry_enumerate_new (meets_enumB1 B) ⟨h1, ?_⟩
  have hz : (s.heap.push o).objs.size = s.heap.objs.size + 1 := Heap.size_push ..
  show _ ∧ _
  rw [hz]
  have he : IsEnum ((s.heap.push o).push { cls := .type "enumerate", data := .fields #[.none, .bool false, .ref s.heap.objs.size, rawInt 0, .none, .none] }) (s.heap.objs.size + 1) s.heap.objs.size 0 .none := by
    have q := Heap.get?_push_size (s.heap.push o) (o := { cls := .type "enumerate", data := .fields #[.none, .bool false, .ref s.heap.objs.size, rawInt 0, .none, .none] }) rfl
    rw [hz] at q
    exact q
  exact ⟨⟨_, he, rfl⟩, h _ he (Heap.get?_push_of_some _ (Heap.get?_push_size _ B.free)) (by rw [Heap.size_push, hz]) fun b o x => Heap.get?_push_of_some _ (Heap.get?_push_of_some _ x)⟩
end
/-- the tuple at a, each item in a new pair -/
def IteT (K : PySem.W.Frag) (a : Addr) : It where
  go := fun i H => ∃ (xs : List V) (x : V), SqT K H a xs ∧ xs[i]? = some x
  yld := fun i H v H' => ∃ T x, v = .ref T ∧ H T = none ∧ H' = upd H T (.tup [.int (i : Nat), x]) ∧ ∀ xs, SqT K H a xs → xs[i]? = some x
  stop := fun i H => ∃ xs : List V, SqT K H a xs ∧ xs.length ≤ i
theorem turn_enumT {P : Program} {w : World} {K : PySem.W.Frag} {elts : List Expr} {kk : Nat} {tpos : Pos} (a e it : Addr) :
    Turn P w K (.Tuple elts kk tpos) (IteT K a) [e, it] e (fun i h => (∃ old, IsEnum h e it ((i : Nat) : Int) old) ∧ h.IsTupleIter it a i ∧ e ≠ it ∧ a ≠ it ∧ a ≠ e) where
  mem := by simp
  obj := fun i h st b hb => by
    obtain ⟨⟨old, he⟩, ⟨o, ho, hc, hd⟩, _⟩ := st
    have e' : b = e ∨ b = it := by simpa using hb
    rcases e' with z | z
    · subst z
      exact ⟨_, he, fun v q => nomatch q⟩
    · subst z
      exact ⟨o, ho, fun v q => by rw [hd] at q; cases q⟩
  keep := fun i h h' st k => let ⟨⟨old, he⟩, hi, hne⟩ := st; ⟨⟨old, k e (by simp) _ he⟩, hi.at fun o q => k it (by simp) o q, hne⟩
  item := by
    intro X hP hw hK hc i pins s σ H E I hf st hg
    subst hP hw hK
    obtain ⟨⟨old, he⟩, hit, hne, ha1, ha2⟩ := st
    obtain ⟨xs, x, hq, hx⟩ := hg
    obtain ⟨its, rv, p, hz⟩ := I.tuple hq
    obtain ⟨u, hu, ru⟩ := rv.get hx
    have hel : e < s.heap.objs.size := Heap.lt_size he
    have hil : it < s.heap.objs.size := by
      obtain ⟨_, q, _⟩ := hit
      exact Heap.lt_size q
    have hlt : i < its.toArray.size := by
      have := (List.getElem?_eq_some_iff.mp hu).1
      simpa using this
    have hef : e ∉ [it, a] := by
      simp only [List.mem_cons, List.not_mem_nil, or_false, not_or]
      exact ⟨hne, Ne.symm ha2⟩
    refine wpAny_pyNext_enum_itemD (Draws.tuple (A := X.A.in1) (show X.A.in1.handled = none from I.ok.hd hc) it a ha1 its.toArray) he ⟨hit, p⟩ hlt hne hef fun x' h' tk hp ho hit' hT hsz hk => ?_
    have ex : x' = u := by
      have z : its.toArray[i]? = some u := by simpa using hu
      rw [z] at hp
      exact (Option.some.inj hp).symm
    subst ex
    refine ⟨_, rfl, wpAny_letOwnedTupleGo_enum (s := { s with heap := h', toks := tk + 1 }) ho fun h'' he' sb => ?_⟩
    have hT2 : h''.get? s.heap.objs.size = some { cls := .type "tuple", data := .seq #[.int i tk, x'] } := (sb.2 _ (Nat.ne_of_gt hel)).trans hT
    have new : ObjOk X.prog X.w (upd H s.heap.objs.size (.tup [.int (i : Nat), x])) h'' s.heap.objs.size (.tup [.int (i : Nat), x]) :=
      ⟨by show 2 ≤ sizeLine; decide, [.int i tk, x'], .cons ⟨_, rfl⟩ (.cons ru .nil), ⟨_, hT2, rfl, _, rfl⟩⟩
    have I1 : Inv X pins σ (upd H s.heap.objs.size (.tup [.int (i : Nat), x])) { s with heap := h'', toks := tk + 1 } :=
      I.turnedNew (ch := [e, it]) (fun b ob hb q => (sb.2 b (fun z => hb (by simp [z]))).trans (hk b ob (fun z => hb (by simp [z])) (fun z => hb (by simp [z])) q)) hf (Nat.le_refl _) new
    refine ⟨.ref s.heap.objs.size, _, I1, rfl, ⟨_, x, rfl, I.hok.fresh (Nat.le_refl _), rfl, fun ys hy => by rw [I.tuple_inj hy hq]; exact hx⟩, ⟨⟨x', ?_⟩, hit'.1.at fun o q => (sb.2 it (Ne.symm hne)).trans q, hne, ha1, ha2⟩, fun b hb => ?_⟩
    · have e1 : ((i + 1 : Nat) : Int) = (i : Int) + 1 := by omega
      rw [e1]
      exact he'
    · have hb' : b < s.heap.objs.size := by
        have e' : b = e ∨ b = it := by simpa using hb
        rcases e' with z | z
        · subst z; exact hel
        · subst z; exact hil
      rw [upd_ne (Nat.ne_of_lt hb')]
      exact (hf b hb).1
  done := by
    intro X hP hw hK hc i pins s σ H E I hf st hg
    subst hP hw hK
    obtain ⟨⟨old, he⟩, hit, hne, ha1, ha2⟩ := st
    obtain ⟨xs, hq, hx⟩ := hg
    obtain ⟨its, rv, p, hz⟩ := I.tuple hq
    obtain ⟨f0, f1, f2, f3, f4, f5⟩ := hf it (by simp)
    have hl := rv.length
    have hT : s.TypeIs (.ref e) "enumerate" := ⟨_, he, rfl⟩
    unfold pyNext
    refine wpAny_bind (wpAny_attempt (wpAny_callSpecial?_slot (name := Str.ofString "__next__") hT F.slot_enumerate_next
      (wpAny_call_entry F.slot_enumerate_next hT F.entry_enumerate_next ?_ (F.args_enumerate_next_1 _))))
    show wpAny _ _ (field (.ref e) 2 >>= _) _ _ _
    refine wpAny_bind (wpAny_field he rfl (x := .ref it) rfl ?_)
    refine wpAny_bind (wpAny_nextOf_tuple_end (I.ok.hd hc) hit p (by simp; omega) fun h' x he' hx' => ?_)
    obtain ⟨o, ho, hcl⟩ := hx'
    refine wpAny_bind (wpAny_isInstance (T := "StopIteration") (b := true) ⟨o, ho, hcl⟩ isSubtype_stop ?_)
    exact wpAny_pure ⟨rfl, I.turned (t' := s.toks) (fun b o hb q => he' b o hb q) f0 f1 f3 f4 f5⟩
  self := fun A i s Q E st h => let ⟨⟨_, he⟩, _⟩ := st; wpAny_pyIter_enum he h
def iEnumA (K : PySem.W.Frag) (ta : TA) : TI := fun σ H R => ta σ H fun vs H1 => ∃ a xs, vs = [.ref a] ∧ ((SqL K H1 a xs ∧ R (Ite K a) H1) ∨ (SqT K H1 a xs ∧ R (IteT K a) H1))
theorem pi_enumA {X : Cx} {e : Expr} {ta : TA} {p pos tpos : Pos} {elts : List Expr} {kk : Nat} (hg : Gl X "enumerate") (hm : X.mg "enumerate" = none) (ha : PA X [e] ta) (hs : starEach [e] X.env = [(false, eval e X.env)] := by rfl) :
    PI X (.Tuple elts kk tpos) (.Call (.Name "enumerate" p) [e] [] pos) (iEnumA X.K ta) := by
  refine ⟨fun pins s σ H R I h => ?_⟩
  refine Call_ (ld_blt I hg hm boot_enumerate (PyProof.Rows.callWith_type1 (thn (ha.run pos pins s σ H _ I h) fun us s1 ⟨vs, H1, I1, r1, q1⟩ => ?_) hs rfl))
  obtain ⟨a, xs, ex, q⟩ := q1
  subst ex
  have fp : ∀ b ∈ [s1.heap.objs.size + 1, s1.heap.objs.size], FpOk X pins H1 b := fun b hb => by
    have hle : s1.heap.objs.size ≤ b := by
      have e' : b = s1.heap.objs.size + 1 ∨ b = s1.heap.objs.size := by simpa using hb
      omega
    exact I1.fpOk hle (I1.hok.fresh hle)
  cases r1 with
  | cons r rr =>
    cases rr
    cases r
    rcases q with ⟨hq, q⟩ | ⟨hq, q⟩
    · obtain ⟨its, rv, p', hz⟩ := I1.list hq
      refine call_enumerate_list p'.isList fun h' he hit hsz hk => wpAny_pyIter_enum he ?_
      have I2 : Inv X pins σ H1 { s1 with heap := h' } := I1.kept (t' := s1.toks) hk
      exact ⟨s1.heap.objs.size + 1, [s1.heap.objs.size + 1, s1.heap.objs.size], _, _, H1, rfl, I2, turn_enum a (s1.heap.objs.size + 1) s1.heap.objs.size, ⟨⟨.none, he⟩, hit, Nat.succ_ne_self _⟩, fp, q⟩
    · obtain ⟨its, rv, p', hz⟩ := I1.tuple hq
      have hal : a < s1.heap.objs.size := by
        obtain ⟨o, ho, _⟩ := id p'
        exact Heap.lt_size ho
      refine call_enumB (begins_tuple a its.toArray) p' fun h' he hit hsz hk => wpAny_pyIter_enum he ?_
      have I2 : Inv X pins σ H1 { s1 with heap := h' } := I1.kept (t' := s1.toks) hk
      exact ⟨s1.heap.objs.size + 1, [s1.heap.objs.size + 1, s1.heap.objs.size], _, _, H1, rfl, I2, turn_enumT a (s1.heap.objs.size + 1) s1.heap.objs.size, ⟨⟨.none, he⟩, ⟨_, hit, rfl, rfl⟩, Nat.succ_ne_self _, Nat.ne_of_lt hal, Nat.ne_of_lt (Nat.lt_succ_of_lt hal)⟩, fp, q⟩
section
variable {c : Vc} {X : Cx} {W : WX} {pos : Pos} {tg : Expr}
def kEnumA (as : List Wv) (M : Store) : Res Src := match as with
  | [.t (.lst xs)] => .ok ⟨enumD 0 xs, none⟩ M
  | [.t (.scr xs)] => .ok ⟨enumD 0 xs, none⟩ M
  | [.t (.tup xs)] => .ok ⟨enumD 0 xs, none⟩ M
  | [.l n] => (match M[n]? with
    | some (.lst xs) => .ok ⟨enumD 0 xs, some (n, xs)⟩ M
    | _ => .bad)
  | _ => .bad
def vEnumA (g : ES (List Wv)) : ES Src := fun Γ M => (g Γ M).bind kEnumA
theorem itok_enumT {μ : Nat → Addr} {G H : Hp} {Γ : VEnv} {M : Store} {σ : L2.St} {a : Addr} {vs : List V} {ds : List D} (hK : c.K = X.K) (q : SqT c.K G a vs) (r : RFs c G ds vs) : ItOk c μ G M.length (IteT X.K a) ⟨enumD 0 ds, none⟩ := by
  intro μ' G' Γ' M' σ' H' i ex R _
  have q' : SqT X.K H' a vs := by
    rw [← hK]
    exact seqT_mono R.gh (seqT_mono ex.g q)
  refine ⟨fun d hd => ?_, fun hl => ⟨vs, q', by rw [r.length, ← enumD_length ds 0]; exact hl⟩⟩
  obtain ⟨e, h1, h2⟩ := enumD_get ds 0 i d hd
  obtain ⟨v, e1, e2⟩ := r.get h1
  refine ⟨⟨vs, v, q', e1⟩, fun x H2 y => ?_⟩
  obtain ⟨T, z, rfl, hn, rfl, y⟩ := y
  have ey := y vs q'
  rw [e1] at ey
  cases ey
  subst h2
  exact lay2 R hn (.cons (rf_int.mpr (by simp)) (.cons (RF.mono ex.g e e2) .nil))
theorem itok_enumC {μ : Nat → Addr} {G H : Hp} {Γ : VEnv} {M : Store} {σ : L2.St} {n : Nat} {ds : List D} (hK : c.K = X.K) (hn : n < M.length) : ItOk c μ G M.length (Ite X.K (μ n)) ⟨enumD 0 ds, some (n, ds)⟩ := by
  intro μ' G' Γ' M' σ' H' i ex R hc
  obtain ⟨vs, h1, r⟩ := R.getL (show M'[n]? = some (.lst ds) from hc)
  rw [ex.u n hn] at h1
  refine ⟨fun d hd => ?_, fun hl => ⟨vs, SqL.of h1, by rw [r.length, ← enumD_length ds 0]; exact hl⟩⟩
  obtain ⟨e, g1, g2⟩ := enumD_get ds 0 i d hd
  obtain ⟨v, e1, e2⟩ := r.get g1
  refine ⟨⟨vs, v, SqL.of h1, e1⟩, fun x H2 y => ?_⟩
  obtain ⟨T, z, rfl, hn, rfl, y⟩ := y
  have ey := y vs (SqL.of h1)
  rw [e1] at ey
  cases ey
  subst g2
  exact lay2 R hn (.cons (rf_int.mpr (by simp)) (.cons e2 .nil))
theorem di_enumA {e : Expr} {g : ES (List Wv)} {p tpos : Pos} {elts : List Expr} {kk : Nat} (hK : c.K = X.K) (hg : Gl X "enumerate") (hm : X.mg "enumerate" = none) (ha : DA c X W [e] g) (hs : starEach [e] X.env = [(false, eval e X.env)] := by rfl) :
    DI c X W (.Tuple elts kk tpos) (.Call (.Name "enumerate" p) [e] [] pos) (vEnumA g) :=
  piImp (pi_enumA hg hm ha hs) fun σ H Rr h => by
    refine lift_bindA (rr := rrI c) (g := fun as _ M1 => kEnumA as M1) h fun as xs H1 μ G Γ M R ha _ F => ?_
    unfold kEnumA at F
    split at F
    · rename_i ds
      obtain ⟨v, ev, hw⟩ := held1 ha
      obtain ⟨a, vs, e1, q1, r1⟩ := rf_lst.mp (wr_t hw)
      rw [e1] at ev
      exact ⟨a, vs, ev, .inl ⟨by rw [← hK]; exact R.gh.seq (SqL.of q1), F μ G _ H1 Ext.refl R ⟨itok_enum (H := H1) (Γ := Γ) (σ := σ) hK (SqL.of q1) r1, trivial⟩⟩⟩
    · rename_i ds
      obtain ⟨v, ev, hw⟩ := held1 ha
      obtain ⟨a, vs, e1, q1, r1⟩ := rf_scr.mp (wr_t hw)
      rw [e1] at ev
      exact ⟨a, vs, ev, .inl ⟨by rw [← hK]; exact R.gh.seq q1, F μ G _ H1 Ext.refl R ⟨itok_enum (H := H1) (Γ := Γ) (σ := σ) hK q1 r1, trivial⟩⟩⟩
    · rename_i ds
      obtain ⟨v, ev, hw⟩ := held1 ha
      obtain ⟨a, vs, e1, q1, r1⟩ := rf_tup.mp (wr_t hw)
      rw [e1] at ev
      exact ⟨a, vs, ev, .inr ⟨by rw [← hK]; exact seqT_mono R.gh q1, F μ G _ H1 Ext.refl R ⟨itok_enumT (H := H1) (Γ := Γ) (σ := σ) hK q1 r1, trivial⟩⟩⟩
    · rename_i n
      obtain ⟨v, ev, hw⟩ := held1 ha
      obtain ⟨hn, e1⟩ := (show n < M.length ∧ v = .ref (μ n) from hw)
      rw [e1] at ev
      split at F
      · rename_i xs em
        obtain ⟨vs, h1, h2⟩ := R.getL em
        exact ⟨μ n, vs, ev, .inl ⟨SqL.of h1, F μ G _ H1 Ext.refl R ⟨itok_enumC (H := H1) (Γ := Γ) (σ := σ) hK hn, em⟩⟩⟩
      · exact F.elim
    · exact F.elim
/-! ### zip of two lists, of two tuples -/
def zipD : List D → List D → List D
  | a :: as, b :: bs => .tup [a, b] :: zipD as bs
  | _, _ => []
theorem zipD_get : ∀ (as bs : List D) (i : Nat) (d : D), (zipD as bs)[i]? = some d → ∃ a b, as[i]? = some a ∧ bs[i]? = some b ∧ d = .tup [a, b]
  | [], bs, i, d, h => by simp [zipD] at h
  | a :: as, [], i, d, h => by simp [zipD] at h
  | a :: as, b :: bs, 0, d, h => by
    simp [zipD] at h
    exact ⟨a, b, rfl, rfl, h.symm⟩
  | a :: as, b :: bs, i + 1, d, h => by
    simp only [zipD, List.getElem?_cons_succ] at h
    obtain ⟨a', b', h1, h2, h3⟩ := zipD_get as bs i d h
    exact ⟨a', b', by simpa using h1, by simpa using h2, h3⟩
theorem zipD_length : ∀ (as bs : List D), (zipD as bs).length = min as.length bs.length
  | [], bs => by simp [zipD]
  | a :: as, [] => by simp [zipD]
  | a :: as, b :: bs => by simp [zipD, zipD_length as bs]
def kZip (as : List Wv) (M : Store) : Res Src := match as with
  | [.t (.lst xs), .t (.lst ys)] => .ok ⟨zipD xs ys, none⟩ M
  | [.t (.tup xs), .t (.tup ys)] => .ok ⟨zipD xs ys, none⟩ M
  | _ => .bad
def vZip (g : ES (List Wv)) : ES Src := fun Γ M => (g Γ M).bind kZip
theorem itok_zipL {μ : Nat → Addr} {G H : Hp} {Γ : VEnv} {M : Store} {σ : L2.St} {a b : Addr} {vs us : List V} {ds es : List D} (hK : c.K = X.K) (q : SqL c.K G a vs) (r : RFs c G ds vs) (q2 : SqL c.K G b us) (r2 : RFs c G es us) : ItOk c μ G M.length (Itz X.K a b) ⟨zipD ds es, none⟩ := by
  intro μ' G' Γ' M' σ' H' i ex R _
  have q' : SqL X.K H' a vs := by rw [← hK]; exact R.gh.seq (ex.g.seq q)
  have q2' : SqL X.K H' b us := by rw [← hK]; exact R.gh.seq (ex.g.seq q2)
  refine ⟨fun d hd => ?_, fun hl => ⟨vs, us, q', q2', by rw [r.length, r2.length]; dsimp only at hl; rw [zipD_length] at hl; omega⟩⟩
  obtain ⟨d1, d2, h1, h2, h3⟩ := zipD_get ds es i d hd
  obtain ⟨v, e1, e2⟩ := r.get h1
  obtain ⟨u, f1, f2⟩ := r2.get h2
  refine ⟨⟨vs, us, v, u, q', q2', e1, f1⟩, fun x H2 y => ?_⟩
  obtain ⟨T, z1, z2, rfl, hn, rfl, y1, y2⟩ := y
  have ey1 := y1 vs q'
  have ey2 := y2 us q2'
  rw [e1] at ey1
  rw [f1] at ey2
  cases ey1
  cases ey2
  subst h3
  exact lay2 R hn (.cons (RF.mono ex.g d1 e2) (.cons (RF.mono ex.g d2 f2) .nil))
theorem itok_zipT {μ : Nat → Addr} {G H : Hp} {Γ : VEnv} {M : Store} {σ : L2.St} {a b : Addr} {vs us : List V} {ds es : List D} (hK : c.K = X.K) (q : SqT c.K G a vs) (r : RFs c G ds vs) (q2 : SqT c.K G b us) (r2 : RFs c G es us) : ItOk c μ G M.length (RZ.ItzT X.K a b) ⟨zipD ds es, none⟩ := by
  intro μ' G' Γ' M' σ' H' i ex R _
  have q' : SqT X.K H' a vs := by rw [← hK]; exact seqT_mono R.gh (seqT_mono ex.g q)
  have q2' : SqT X.K H' b us := by rw [← hK]; exact seqT_mono R.gh (seqT_mono ex.g q2)
  refine ⟨fun d hd => ?_, fun hl => ⟨vs, us, q', q2', by rw [r.length, r2.length]; dsimp only at hl; rw [zipD_length] at hl; omega⟩⟩
  obtain ⟨d1, d2, h1, h2, h3⟩ := zipD_get ds es i d hd
  obtain ⟨v, e1, e2⟩ := r.get h1
  obtain ⟨u, f1, f2⟩ := r2.get h2
  refine ⟨⟨vs, us, v, u, q', q2', e1, f1⟩, fun x H2 y => ?_⟩
  obtain ⟨T, z1, z2, rfl, hn, rfl, y1, y2⟩ := y
  have ey1 := y1 vs q'
  have ey2 := y2 us q2'
  rw [e1] at ey1
  rw [f1] at ey2
  cases ey1
  cases ey2
  subst h3
  exact lay2 R hn (.cons (RF.mono ex.g d1 e2) (.cons (RF.mono ex.g d2 f2) .nil))
theorem di_zip {e e2 : Expr} {g : ES (List Wv)} {p tpos : Pos} {elts : List Expr} {kk : Nat} (hK : c.K = X.K) (hg : Gl X "zip") (hm : X.mg "zip" = none) (ha : DA c X W [e, e2] g)
    (hs : starEach [e, e2] X.env = (false, eval e X.env) :: starEach [e2] X.env := by rfl) (hpl : (backTo pos (starEach [e2] X.env)).any (·.1) = false := by rfl) :
    DI c X W (.Tuple elts kk tpos) (.Call (.Name "zip" p) [e, e2] [] pos) (vZip g) :=
  piImp (RZ.pi_zipA hg hm ha hs hpl) fun σ H Rr h => by
    refine lift_bindA (rr := rrI c) (g := fun as _ M1 => kZip as M1) h fun as xs H1 μ G Γ M R ha _ F => ?_
    unfold kZip at F
    split at F
    · rename_i ds es
      obtain ⟨v, u, ev, hw1, hw2⟩ := held2 ha
      obtain ⟨a, vs, e1, q1, r1⟩ := rf_lst.mp (wr_t hw1)
      obtain ⟨b, us, e2, q2, r2⟩ := rf_lst.mp (wr_t hw2)
      rw [e1, e2] at ev
      exact ⟨a, b, vs, us, ev, .inl ⟨by rw [← hK]; exact R.gh.seq (SqL.of q1), by rw [← hK]; exact R.gh.seq (SqL.of q2), F μ G _ H1 Ext.refl R ⟨itok_zipL (H := H1) (Γ := Γ) (σ := σ) hK (SqL.of q1) r1 (SqL.of q2) r2, trivial⟩⟩⟩
    · rename_i ds es
      obtain ⟨v, u, ev, hw1, hw2⟩ := held2 ha
      obtain ⟨a, vs, e1, q1, r1⟩ := rf_tup.mp (wr_t hw1)
      obtain ⟨b, us, e2, q2, r2⟩ := rf_tup.mp (wr_t hw2)
      rw [e1, e2] at ev
      exact ⟨a, b, vs, us, ev, .inr ⟨by rw [← hK]; exact seqT_mono R.gh q1, by rw [← hK]; exact seqT_mono R.gh q2, F μ G _ H1 Ext.refl R ⟨itok_zipT (H := H1) (Γ := Γ) (σ := σ) hK q1 r1 q2 r2, trivial⟩⟩⟩
    · exact F.elim
/-! ### x += e, x -= e -/
def kAug (i : Nat) (f : Int → Int → Int) (w : Wv) (r : Rv) (Γ : VEnv) (M : Store) : RS := match w, r with
  | .t (.int a), .t (.int b) => .ok .nx (Γ.set i (some (.t (.int (f a b))))) M
  | _, _ => .bad
def vAug (i : Nat) (f : Int → Int → Int) (g : SemE) : SemS := fun Γ M => match Γ[i]? with
  | some (some w) => (g Γ M).bindS Γ fun r M1 => kAug i f w r Γ M1
  | _ => .bad
theorem vAug_ok {i : Nat} {f : Int → Int → Int} {g : SemE} (D : Ends) (σ : L2.St) (H : Hp) (h : liftS c W (vAug i f g) D σ H) : tAug i (lift c W g) (ipI f) D σ H := by
  obtain ⟨μ, G, Γ, M, R, F⟩ := h
  unfold vAug at F
  split at F
  · rename_i w ew
    obtain ⟨x, hx, hw⟩ := R.sl i w ew
    refine ⟨x, hx, μ, G, Γ, M, R, rfl, ?_⟩
    cases e : g Γ M with
    | bad => rw [e] at F; exact F.elim
    | exc C fs M1 =>
      rw [e] at F
      exact fun μ' G' cls dd H' ex R1 q => F μ' G' σ H' cls dd ex R1 q
    | ok r M1 =>
      rw [e] at F
      intro μ' G' v H' ex R1 q
      dsimp only [Res.bindS, kAug] at F
      split at F
      · rename_i a b
        refine ⟨a, b, wr_int hw, ?_, ?_⟩
        · exact rf_int.mp (show RF c G' (.int b) v from q)
        · exact F μ' G' _ H' ex (R1.store (show WR c μ' M1.length G' (.t (.int (f a b))) (.int (f a b)) from (rf_int (c := c) (G := G')).mpr rfl))
      · exact F.elim
  · exact F.elim
theorem ds_augA {i : Nat} {x : Str} {e : Expr} {g : SemE} {p' : Pos} (hN : X.N.Nodup) (hi : X.N[i]? = some x) (hx : Loc X.env.scope x) (he : DE c X W e g) (hf : X.fn x = true ∨ X.env.scope.names.lookup x = some .local := by first | exact .inl rfl | exact .inr rfl | assumption) : DS c X W (.AugAssign (.Name x p') .Add e pos) (vAug i (fun a b => a + b) g) :=
  psImp (ps_aug hN hi hx he ip_add hf) vAug_ok
theorem ds_augS {i : Nat} {x : Str} {e : Expr} {g : SemE} {p' : Pos} (hN : X.N.Nodup) (hi : X.N[i]? = some x) (hx : Loc X.env.scope x) (he : DE c X W e g) (hf : X.fn x = true ∨ X.env.scope.names.lookup x = some .local := by first | exact .inl rfl | exact .inr rfl | assumption) : DS c X W (.AugAssign (.Name x p') .Sub e pos) (vAug i (fun a b => a - b) g) :=
  psImp (ps_aug hN hi hx he ip_sub hf) vAug_ok
/-! ### a op b op' c -/
def kChain (o' : Op2) (h : SemE) (w2 : Wv) (r : Rv) (Γ : VEnv) (M : Store) : Res Rv := match r with
  | .t (.bl true) => (h Γ M).bind fun r3 M3 => o' w2 r3.w M3
  | .t (.bl false) => .ok (.t (.bl false)) M
  | _ => .bad
def vChain2 (o o' : Op2) (f g h : SemE) : SemE := fun Γ M => (f Γ M).bind fun r1 M1 => (g Γ M1).bind fun r2 M2 => (o r1.w r2.w M2).bind fun r M3 => kChain o' h r2.w r Γ M3
end
end VL

set_option Elab.async false
set_option linter.all false
set_option maxRecDepth 100000
set_option maxHeartbeats 1000000
/-! VL16: chains of comparisons; powers of great numbers; own == and !=; isinstance of a caught exception. -/
namespace VL
open PySem PySem.Spec PyProof.Rows L2
section
variable {c : Vc} {X : Cx} {W : WX} {pos : Pos}
theorem vChain2_ok {r r' : R2} {o o' : Op2} {f g h : SemE} (hk : OpOk c W r o) (hk' : OpOk c W r' o') (σ : L2.St) (H : Hp) (Q : VK) (hh : lift c W (vChain2 o o' f g h) σ H Q) : tChain r r' (lift c W f) (lift c W g) (lift c W h) σ H Q := by
  refine lift_bind (g := fun w1 Γ M1 => (g Γ M1).bind fun r2 M2 => (o w1 r2.w M2).bind fun r M3 => kChain o' h r2.w r Γ M3) hh fun w1 x H1 h1 => ?_
  refine lift_bind (ws := [w1]) (vs := [x]) (g := fun w2 Γ M2 => (o w1 w2 M2).bind fun r M3 => kChain o' h w2 r Γ M3) h1 fun w2 y H2 h2 => ?_
  refine hk σ H2 _ w1 w2 x y ?_
  obtain ⟨μ, G, Γ, M, R, hd, F⟩ := h2
  refine ⟨μ, G, Γ, M, R, hd, ?_⟩
  dsimp only at F ⊢
  cases e : o w1 w2 M with
  | bad => rw [e] at F; exact F.elim
  | exc C fs M3 => rw [e] at F; exact F
  | ok rr M3 =>
    rw [e] at F
    intro μ' G' v H' ex R' q
    dsimp only [Res.bind, kChain] at F
    have hy := (heldTwo hd).2
    split at F
    · refine ⟨true, (rf_bl (c := c) (G := G')).mp q, ?_⟩
      rw [if_pos rfl]
      have hy' : WR c μ' M3.length G' w2 y := hy.ext ex
      refine lift_bind (ws := [w2]) (vs := [y]) (g := fun w3 _ M4 => o' w2 w3 M4) ⟨μ', G', Γ, M3, R', ⟨y, [], rfl, hy', rfl⟩, FinG.ext ex F⟩ fun w3 z H4 h4 => ?_
      exact hk' σ H4 _ w2 w3 y z h4
    · refine ⟨false, (rf_bl (c := c) (G := G')).mp q, ?_⟩
      rw [if_neg Bool.false_ne_true]
      exact F μ' G' (.bl false) H' ex R' ((rf_bl (c := c) (G := G')).mpr rfl)
    · exact F.elim
theorem de_chain {op op' : CmpOp} {r r' : R2} {o o' : Op2} {a b d : Expr} {f g h : SemE} (ho : OpR X (compareOp op) r) (ho' : OpR X (compareOp op') r') (hk : OpOk c W r o) (hk' : OpOk c W r' o') (ha : DE c X W a f) (hb : DE c X W b g) (hd : DE c X W d h)
    (hm : lastMarks [op, op'] [b, d] = false := by with_unfolding_all rfl) : DE c X W (.Compare a [op, op'] [b, d] pos) (vChain2 o o' f g h) := peImp (pe_chain ho ho' ha hb hd hm) fun σ H Q q => vChain2_ok hk hk' σ H Q q
theorem dt_chain {op op' : CmpOp} {r r' : R2} {o o' : Op2} {a b d : Expr} {f g h : SemE} (ho : OpR X (compareOp op) r) (ho' : OpR X (compareOp op') r') (hk : OpOk c W r o) (hk' : OpOk c W r' o') (ha : DE c X W a f) (hb : DE c X W b g) (hd : DE c X W d h)
    (hm : lastMarks [op, op'] [b, d] = false := by with_unfolding_all rfl) : DT c X W (.Compare a [op, op'] [b, d] pos) (vTest (vChain2 o o' f g h)) :=
  ptImp (pt_chain ho ho' ha hb hd hm) fun σ H Q q => vChain2_ok hk hk' σ H _ (vTest_ok q)
/-! ### i ** j, i wide -/
def CPowW (i j : Int) : Prop := 0 ≤ j ∧ j ≤ 1000 ∧ i.natAbs < 2 ^ 10000
theorem op_powW : OpR X (binaryOp .Pow) (rI CPowW fun i j => .int (i ^ j.toNat)) := opI fun i j _ _ _ _ _ hc q => by
  refine pow_int hc.1 ?_ q
  have hb : Builtin.Int.intBits i ≤ 10000 := intBits_le hc.2.2
  have h1 : (Builtin.Int.intBits i : Int) * j ≤ 10000 * j := Int.mul_le_mul_of_nonneg_right (by omega) hc.1
  have h2 : j ≤ 1000 := hc.2.1
  have h0 : (0 : Int) ≤ j := hc.1
  omega
def oPowW : Op2 := oII (fun i j => decide (0 ≤ j) && decide (j ≤ 1000) && decide (i.natAbs < 2 ^ 10000)) fun i j => .int (i ^ j.toNat)
theorem ok_powW : OpOk c W (rI CPowW fun i j => .int (i ^ j.toNat)) oPowW := opII_ok (gV := fun i j => .int (i ^ j.toNat)) (fun _ _ _ => rf_int.mpr rfl) fun i j H Q p q => by
  rw [Bool.and_eq_true, Bool.and_eq_true] at p
  exact ⟨i, j, rfl, rfl, ⟨of_decide_eq_true p.1.1, of_decide_eq_true p.1.2, of_decide_eq_true p.2⟩, q⟩
/-! ### x == y, x != y, x an instance of a class with its own __eq__, __ne__ -/
/-- what stands on the right: its type is known not to come first -/
def tyOf : Wv → Store → Option (String ⊕ Nat)
  | .t .non, _ => some (.inl "NoneType")
  | .t (.int _), _ => some (.inl "int")
  | .t (.bl _), _ => some (.inl "bool")
  | .t (.str _), _ => some (.inl "str")
  | .t (.tup _), _ => some (.inl "tuple")
  | .t (.lst _), _ => some (.inl "list")
  | .t (.ins C _ _), _ => some (.inr C)
  | .l n, M => (match M[n]? with
    | some (.lst _) => some (.inl "list")
    | some (.obj C _) => some (.inr C)
    | _ => none)
  | _, _ => none
def insC (C : Nat) (w : Wv) (M : Store) : Bool := match w with
  | .t (.ins C' _ _) => C' == C
  | .l n => (match M[n]? with
    | some (.obj C' _) => C' == C
    | _ => false)
  | _ => false
/-- φ: what the own method does; p: what == of other values does -/
def oOwn (C : Nat) (φ : FnSem) (p : Op2) : Op2 := fun w1 w2 M => if insC C w1 M = true then (match tyOf w2 M with
    | some (.inl _) => (match φ [w1, w2] M with
      | .ok r M' => .ok r M'
      | _ => .bad)
    | some (.inr C') => if C' = C then (match φ [w1, w2] M with
      | .ok r M' => .ok r M'
      | _ => .bad) else .bad
    | none => .bad) else p w1 w2 M
def rOwn (K : PySem.W.Frag) (C : Addr) (sp : Sp) (p : R2) : R2 := fun x y H Q => (∃ (a dx : Addr) (fs : List (Str × V)) (tb : Value), x = .ref a ∧ H a = some (.ins C dx fs) ∧ PySem.W.notFirst K C tb = true ∧
    (y = .non ∧ tb = .type "NoneType" ∨ (∃ i, y = .int i) ∧ tb = .type "int" ∨ (∃ i, y = .bl i) ∧ tb = .type "bool" ∨ (∃ i, y = .str i) ∧ tb = .type "str" ∨ (∃ b xs, y = .ref b ∧ SqT K H b xs) ∧ tb = .type "tuple" ∨ (∃ b xs, y = .ref b ∧ SqL K H b xs) ∧ tb = .type "list" ∨
      (∃ b dy gs, y = .ref b ∧ H b = some (.ins C dy gs)) ∧ tb = .ref C) ∧ sp [x, y] H Q (fun _ _ _ => False)) ∨ p x y H Q
theorem op_own {op : CmpOp} {C f : Addr} {sp : Sp} {p : R2} (hop : ∀ a b, compareOp op a b = richCompare op a b) (hs : PySem.W.findIn X.K (.ref C) (PySem.cmpInfo op).2.1 = some (some (.ref f))) (hf : PySem.W.isFn X.K (.ref f) = true) (hr : X.A.units < cLine)
    (F : Runs X f sp (fun _ _ _ _ => False)) (hp : OpR X (compareOp op) p) : OpR X (compareOp op) (rOwn X.K C sp p) := by
  intro pins s σ H x y v u Q I rx ry h
  rcases h with h | h
  · obtain ⟨a, dx, fs, tb, ex, ha, hn, hty, hsp⟩ := h
    subst ex
    obtain rfl : v = Value.ref a := rx
    obtain ⟨mA, J, _⟩ := ins_get I.hok ha
    obtain ⟨od, J, _⟩ := J.look
    obtain ⟨m, hF⟩ := I.fr
    rw [hop]
    have hb : PySem.W.Looks (model X.prog X.w) s.heap (typeOf u) tb := by
      rcases hty with ⟨e, e2⟩ | ⟨⟨i, e⟩, e2⟩ | ⟨⟨i, e⟩, e2⟩ | ⟨⟨i, e⟩, e2⟩ | ⟨⟨b, xs, e, q⟩, e2⟩ | ⟨⟨b, xs, e, q⟩, e2⟩ | ⟨⟨b, dy, gs, e, q⟩, e2⟩
      · subst e e2
        obtain rfl : u = Value.none := ry
        exact PySem.W.Looks.of_pure rfl
      · subst e e2
        obtain ⟨t, rfl⟩ := ry
        exact PySem.W.Looks.of_pure rfl
      · subst e e2
        obtain rfl : u = Value.bool i := ry
        exact PySem.W.Looks.of_pure rfl
      · subst e e2
        obtain ⟨t, rfl⟩ := ry
        exact PySem.W.Looks.of_pure rfl
      · subst e e2
        obtain rfl : u = Value.ref b := ry
        obtain ⟨its, _, ⟨o, ho, hc, _⟩, _⟩ := I.tuple q
        exact fun A Q E s k q => wpAny_typeOf_ref (k _ _ ho) (by rw [hc]; exact q)
      · subst e e2
        obtain rfl : u = Value.ref b := ry
        obtain ⟨its, _, pl, _⟩ := I.list q
        obtain ⟨o, ho, hc, _⟩ := pl.isList
        exact fun A Q E s k q => wpAny_typeOf_ref (k _ _ ho) (by rw [hc]; exact q)
      · subst e e2
        obtain rfl : u = Value.ref b := ry
        obtain ⟨mB, J', _⟩ := ins_get I.hok q
        obtain ⟨od', J', _⟩ := J'.look
        exact J'.type
    refine PySem.W.cmp_K hr hF I.ok.mod.kin J hb hn hs hf ?_
    have := F pins σ H s (fun v' H' => Q v' H') [.ref a, u] [.ref a, y] I (.cons rfl (.cons ry .nil)) hsp
    refine wpAny_mono this (fun z s' hz => ?_) fun _ _ e => e
    obtain ⟨v', H', I', rv, q⟩ := hz
    have nn : z ≠ .notImplemented := fun e => by
      subst e
      cases v' <;> first | (cases rv; done) | (obtain ⟨_, hz⟩ := rv; cases hz; done)
    unfold PySem.W.CmpBack
    split
    · exact nn rfl
    · exact ⟨v', H', I', rv, q⟩
  · exact hp pins s σ H x y v u Q I rx ry h
theorem runs_okF {k : Nat} {f : Addr} {fd : FuncData} {ps : List Str} {sp : Sp} (F : FnOk X.prog X.w X.K X.mg X.base (L2N.CX X.prog X.w) k f fd ps sp) (hr : Room k X.A) (hb : Binds X.K fd ps []) : Runs X f sp (fun _ _ _ _ => False) :=
  fun pins σ H s Q us vs I r h => run_fnS (E := fun _ _ _ _ => False) F hr hb (fun _ _ _ _ _ _ hx => by obtain ⟨_, _, _, _, _, _, _, _, _, _, _, _, z⟩ := hx; exact False.elim z) I r h
theorem notFirst_ty {K : PySem.W.Frag} {C : Addr} {T : String} (h : (fastBuiltinMro T).map (fun l => l.contains (Value.ref C)) = some false) : PySem.W.notFirst K C (.type T) = true := by
  unfold PySem.W.notFirst
  have : PySem.W.subIn K (.type T) (.ref C) = some false := h
  rw [this]
  simp
theorem ok_own {C : Nat} {φ : FnSem} {p : Op2} {rp : R2} (hK : c.K = X.K) (hp : OpOk c W rp p) : OpOk c W (rOwn X.K (c.ρ C) (spV c 2 φ) rp) (oOwn C φ p) := by
  intro σ H Q w1 w2 x y h
  obtain ⟨μ, G, Γ, M, R, hd, F⟩ := h
  obtain ⟨h1, h2⟩ := heldTwo hd
  unfold oOwn at F
  dsimp only at F
  by_cases hi : insC C w1 M = true
  · rw [if_pos hi] at F
    left
    have hx : ∃ a dx fs, x = .ref a ∧ H a = some (.ins (c.ρ C) dx fs) := by
      unfold insC at hi
      split at hi
      · rename_i C' ns xs
        obtain ⟨a, dx, fs, e1, e2, _⟩ := rf_ins.mp (wr_t h1)
        rw [beq_iff_eq.mp hi] at e2
        exact ⟨a, dx, fs, e1, R.gh _ _ e2⟩
      · rename_i n
        split at hi
        · rename_i C' fs em
          obtain ⟨_, dx, vs, e2, _⟩ := R.ce n _ em
          rw [beq_iff_eq.mp hi] at e2
          exact ⟨μ n, dx, vs, (show n < M.length ∧ x = .ref (μ n) from h1).2, e2⟩
        · cases hi
      · cases hi
    obtain ⟨a, dx, fs, ex, ha⟩ := hx
    have hall : Held c μ M.length G [w1, w2] [x, y] := ⟨x, [y], rfl, h1, y, [], rfl, h2, rfl⟩
    have fin : FinG c W σ Γ (rrE c) μ G M.length Q (match φ [w1, w2] M with
        | .ok r M' => .ok r M'
        | _ => .bad) → spV c 2 φ [x, y] H Q (fun _ _ _ => False) := fun F2 => by
      refine ⟨μ, G, M, [w1, w2], rfl, rfl, R.args hall, ?_⟩
      cases e : φ [w1, w2] M with
      | bad => rw [e] at F2; exact F2.elim
      | exc C fs M' => rw [e] at F2; exact F2.elim
      | ok r M' =>
        rw [e] at F2
        exact fun μ' G' v H' ex R' q => F2 μ' G' v H' ex (R.back ex R') q
    cases ety : tyOf w2 M with
    | none => rw [ety] at F; exact F.elim
    | some t =>
      rw [ety] at F
      cases t with
      | inr C' =>
        dsimp only at F
        by_cases hc : C' = C
        · rw [if_pos hc] at F
          subst hc
          refine ⟨a, dx, fs, .ref (c.ρ C'), ex, ha, by simp [PySem.W.notFirst], .inr (.inr (.inr (.inr (.inr (.inr ⟨?_, rfl⟩))))), fin F⟩
          unfold tyOf at ety
          split at ety <;> first | (cases ety; done) | skip
          · rename_i C2 ns xs
            cases ety
            obtain ⟨b, dy, gs, e1, e2, _⟩ := rf_ins.mp (wr_t h2)
            exact ⟨b, dy, gs, e1, R.gh _ _ e2⟩
          · rename_i n
            split at ety <;> first | (cases ety; done) | skip
            rename_i C2 gs em
            cases ety
            obtain ⟨_, dy, vs, e2, _⟩ := R.ce n _ em
            exact ⟨μ n, dy, vs, (show n < M.length ∧ y = .ref (μ n) from h2).2, e2⟩
        · rw [if_neg hc] at F
          exact F.elim
      | inl T =>
        dsimp only at F
        have nf : ∀ T : String, T ∈ ["NoneType", "int", "bool", "str", "tuple", "list"] → PySem.W.notFirst X.K (c.ρ C) (.type T) = true := fun T hT => by
          refine notFirst_ty ?_
          simp only [List.mem_cons, List.not_mem_nil, or_false] at hT
          rcases hT with e | e | e | e | e | e <;> subst e <;> rfl
        unfold tyOf at ety
        split at ety
        · cases ety
          exact ⟨a, dx, fs, _, ex, ha, nf _ (by simp), .inl ⟨rf_non.mp (wr_t h2), rfl⟩, fin F⟩
        · cases ety
          exact ⟨a, dx, fs, _, ex, ha, nf _ (by simp), .inr (.inl ⟨⟨_, wr_int h2⟩, rfl⟩), fin F⟩
        · cases ety
          exact ⟨a, dx, fs, _, ex, ha, nf _ (by simp), .inr (.inr (.inl ⟨⟨_, rf_bl.mp (wr_t h2)⟩, rfl⟩)), fin F⟩
        · cases ety
          exact ⟨a, dx, fs, _, ex, ha, nf _ (by simp), .inr (.inr (.inr (.inl ⟨⟨_, rf_str.mp (wr_t h2)⟩, rfl⟩))), fin F⟩
        · cases ety
          obtain ⟨b, vs, e1, q1, r1⟩ := rf_tup.mp (wr_t h2)
          exact ⟨a, dx, fs, _, ex, ha, nf _ (by simp), .inr (.inr (.inr (.inr (.inl ⟨⟨b, vs, e1, by rw [← hK]; exact seqT_mono R.gh q1⟩, rfl⟩)))), fin F⟩
        · cases ety
          obtain ⟨b, vs, e1, q1, r1⟩ := rf_lst.mp (wr_t h2)
          exact ⟨a, dx, fs, _, ex, ha, nf _ (by simp), .inr (.inr (.inr (.inr (.inr (.inl ⟨⟨b, vs, e1, by rw [← hK]; exact R.gh.seq (SqL.of q1)⟩, rfl⟩))))), fin F⟩
        · cases ety
        · rename_i n
          split at ety
          · rename_i xs em
            cases ety
            obtain ⟨vs, e1, _⟩ := R.getL em
            exact ⟨a, dx, fs, _, ex, ha, nf _ (by simp), .inr (.inr (.inr (.inr (.inr (.inl ⟨⟨μ n, vs, (show n < M.length ∧ y = .ref (μ n) from h2).2, SqL.of e1⟩, rfl⟩))))), fin F⟩
          · cases ety
          · cases ety
        · cases ety
  · rw [if_neg hi] at F
    exact .inr (hp σ H Q w1 w2 x y ⟨μ, G, Γ, M, R, hd, F⟩)
end
end VL

set_option Elab.async false
set_option linter.all false
set_option maxRecDepth 100000
set_option maxHeartbeats 1000000
/-! VL17: isinstance of a caught exception (where the answer is yes). -/
namespace PySem.W
open PySem PySem.Spec PySem.Calls PyProof.Rows
section
variable {K : Frag} {x t : Value} {H : Heap → Prop}
theorem vl_ans {c : Value} (ty : ∀ (M : Model) (h : Heap), K.In h → H h → Looks M h (typeOf x) t) (q : (t == c) = false) (e : kitCls K t c = some true) : Answers (fun s => K.In s.heap ∧ H s.heap) x c true := by
  intro dep tk prog w A R s hs
  obtain ⟨h0, g, d, tt, os⟩ := s
  obtain ⟨⟨X, p⟩, hq⟩ := hs
  have LT := ty (model prog w) h0 X p
  unfold Builtin.«isinstance.nested»
  refine wpAny_bind (LT.at ?_)
  rw [if_neg (by rw [q]; decide)]
  obtain ⟨hty, his, hsub⟩ := kit_cls (M := model prog w) X e
  have LI : Looks (model prog w) h0 (isInstance x c) true := LT.andThen hsub
  refine wpAny_bind (hty.at ?_)
  rw [if_pos (by decide)]
  k_delta "plainIsInstance"
  refine wpAny_bind (wpAny_bind (his.at ?_))
  simp only [Bool.not_true, Bool.false_eq_true, if_false]
  refine wpAny_bind (LI.at ?_)
  first
    | exact wpAny_pure (wpAny_pure (hq tt))
    | (simp only [if_true]; first | exact wpAny_pure (wpAny_pure (hq tt)) | exact wpAny_pure (hq tt) | exact wpAny_bind (wpAny_pure (wpAny_pure (hq tt))))
variable {prog : Program} {w : World} {A : Around} {E : Value → Shared → Prop} {s : Shared} {Q : Value → Shared → Prop}
theorem vl_isi {c : Value} (ty : ∀ (M : Model) (h : Heap), K.In h → H h → Looks M h (typeOf x) t) (q : (t == c) = false) (e : kitCls K t c = some true) (X : K.In s.heap) (p : H s.heap) (hx : x ≠ .builtin "__main__.__loader__#opaque") (h : ∀ tk, Q (.bool true) { s with toks := tk }) :
    wpAny (model prog w) A (call (.builtin "isinstance") [x, c]) Q E s :=
  call_isinstance (S := fun _ R s => (K.In s.heap ∧ H s.heap) ∧ ∀ tk, R (.ok (.ret (.bool true))) { s with toks := tk })
    (fun prog w A R s hs => isinstance_outer (vl_ans ty q e 0 _ prog w A R s hs) hx) ⟨⟨X, p⟩, h⟩
end
end PySem.W
namespace VL
open PySem PySem.Spec PyProof.Rows L2
section
variable {c : Vc} {X : Cx} {W : WX} {pos p q : Pos} {e : Expr} {g : SemE} {T : Str}
noncomputable def kIsE (a : Addr) (cls : Value) (d : Option Addr) (Cs : List Nat) (r : Rv) (M : Store) : Res Rv := match r with
  | .l n => (match M[n]? with
    | some (.exn a' cls' d' C fs) => cIf (a' = a ∧ cls' = cls ∧ d' = d) (if C ∈ Cs then .ok (.t (.bl true)) M else .bad) .bad
    | _ => .bad)
  | _ => .bad
noncomputable def vIsE (a : Addr) (cls : Value) (d : Option Addr) (Cs : List Nat) (g : SemE) : SemE := fun Γ M => (g Γ M).bind fun r M1 => kIsE a cls d Cs r M1
theorem de_isE {a : Addr} {oe : Obj} {cls : Value} {d : Option Addr} {pn : List (Addr × Obj)} {Cs : List Nat} {n : String} (hg : Gl X "isinstance") (hm : X.mg "isinstance" = none) (hC : ∀ C ∈ Cs, PySem.W.kitCls X.K (.ref (c.ρ C)) (.type n) = some true)
    (hz : L2N.Zn cls d oe) (hd : ∃ vs, oe.data = .fields vs) (he : DE c (X.suite a ((a, oe) :: pn)) W e g) (ht : PE (X.suite a ((a, oe) :: pn)) (.Name T q) (tC (.ty n)))
    (h1 : starEach [e, .Name T q] X.env = (false, eval e X.env) :: starEach [.Name T q] X.env := by rfl) (h2 : starEach [.Name T q] X.env = (false, eval (.Name T q) X.env) :: starEach [] X.env := by rfl)
    (hpl : (backTo pos (starEach [.Name T q] X.env)).any (·.1) = false := by rfl) : DE c (X.suite a ((a, oe) :: pn)) W (.Call (.Name "isinstance" p) [e, .Name T q] [] pos) (vIsE a cls d Cs g) := by
  have cr : CallR (X.suite a ((a, oe) :: pn)) (.builtin "isinstance") (fun xs H Q => ∃ C, xs = [.ref a, .ty n] ∧ cls = .ref (c.ρ C) ∧ C ∈ Cs ∧ Q (.bl true) H) := by
    intro pins s σ H xs us Q I r h
    obtain ⟨C, ex, ec, hc, hq⟩ := h
    subst ex ec
    cases r with
    | cons rx rr =>
      cases rr with
      | cons rt rr =>
        cases rr
        cases rx
        cases rt
        obtain ⟨hget, _⟩ := I.pin (a, oe) (List.mem_append.mpr (.inl List.mem_cons_self))
        refine PySem.W.vl_isi (K := X.K) (t := .ref (c.ρ C)) (H := fun h => h.get? a = some oe) (fun M h _ hh => ?_) rfl (hC C hc) I.kIn hget (fun z => nomatch z) fun tk => ⟨.bl true, H, I.kept (t' := tk) fun _ _ z => z, rfl, hq⟩
        exact fun A Q E s k q => wpAny_typeOf_ref (k _ _ hh) (by rw [hz.1]; exact q)
  refine peImp (pe_callB cr hg hm (by decide +kernel) (pa_cons he (pa_cons ht pa_nil h2) h1) (by decide) (by decide) h1 hpl) fun σ H Q h => ?_
  obtain ⟨μ, G, Γ, M, R, _, F⟩ := h
  refine ⟨μ, G, Γ, M, R, rfl, ?_⟩
  unfold vIsE at F
  cases e1 : g Γ M with
  | bad => rw [e1] at F; exact F.elim
  | exc C fs M' => rw [e1] at F; exact F
  | ok r M1 =>
    rw [e1] at F
    intro μ1 G1 v H1 ex R1 hq
    dsimp only [Res.bind, kIsE] at F
    cases r with
    | t _ => exact F.elim
    | f _ => exact F.elim
    | l k =>
      dsimp only at F
      split at F
      · rename_i a' cls' d' C fs em
        by_cases ha : a' = a ∧ cls' = cls ∧ d' = d
        · rw [cIf_pos ha] at F
          obtain ⟨h1, h2, h3⟩ := ha
          subst h1 h2 h3
          split at F
          · rename_i hm
            obtain ⟨hk, ev⟩ := hq
            obtain ⟨ea, ec, _⟩ := R1.ce k _ em
            exact ⟨C, by rw [ev, ← ea], ec, hm, F μ1 G1 (.bl true) H1 ex R1 ((rf_bl (c := c) (G := G1)).mpr rfl)⟩
          · exact F.elim
        · rw [cIf_neg ha] at F
          exact F.elim
      · exact F.elim
end
end VL

set_option Elab.async false
set_option linter.all false
set_option maxRecDepth 100000
set_option maxHeartbeats 1000000
/-! VL18: what a callee is told by, in one pack; the head's facts. -/
namespace VL
open PySem PySem.Spec PyProof.Rows L2
/-! ### packs -/
/-- the def at the global x does φ on n values -/
def Cal (c : Vc) (P : Program) (w : World) (mg : Str → Option Value) (base : Heap) (x : Str) (k n : Nat) (φ : FnSem) : Prop :=
  ∃ f fd ps, FnOk P w c.K mg base (L2N.CX P w) k f fd ps (spV c n φ) ∧ mg x = some (.ref f) ∧ PySem.W.keepIn c.K (.ref f) = true ∧ Binds c.K fd ps []
/-- .. wherever it is called -/
def CalV (c : Vc) (P : Program) (w : World) (mg : Str → Option Value) (base : Heap) (x : Str) (k n : Nat) (φ : FnSem) : Prop :=
  ∃ f fd ps, FnV P w c.K mg base k f fd ps (spV c n φ) ∧ mg x = some (.ref f) ∧ PySem.W.keepIn c.K (.ref f) = true ∧ Binds c.K fd ps []
/-- the method m of the class C -/
def CalM (c : Vc) (P : Program) (w : World) (mg : Str → Option Value) (base : Heap) (C : Nat) (m : Str) (k n : Nat) (φ : FnSem) : Prop :=
  ∃ f fd ps, FnOk P w c.K mg base (L2N.CX P w) k f fd ps (spV c n φ) ∧ Cls c.K (c.ρ C) ∧ Meth c.K (c.ρ C) m f ∧ Binds c.K fd ps []
/-- the class C is made, its __init__ doing φ -/
def CalN (c : Vc) (P : Program) (w : World) (mg : Str → Option Value) (base : Heap) (x : Str) (C k n : Nat) (φ : FnSem) : Prop :=
  ∃ f fd ps, FnOk P w c.K mg base (L2N.CX P w) k f fd ps (spV c n φ) ∧ L2.Mk c.K (c.ρ C) f ∧ mg x = some (.ref (c.ρ C)) ∧ Binds c.K fd ps []
/-- the exception class C is made, n - 1 values, l tells the attributes -/
def CalE (c : Vc) (P : Program) (w : World) (mg : Str → Option Value) (base : Heap) (x : Str) (C k n : Nat) (l : List (Nat × Nat)) : Prop :=
  ∃ f fd ps, FnOk P w c.K mg base (L2N.CX P w) k f fd ps (spE (c.ρ C) (l.map fun p => (c.nm p.1, p.2)) n) ∧ OexC c.K (c.ρ C) ∧ PySem.W.findIn c.K (.ref (c.ρ C)) "__init__" = some (some (.ref f)) ∧ PySem.W.typeIn c.K (.ref f) = some (.type "function") ∧ mg x = some (.ref (c.ρ C)) ∧ Binds c.K fd ps []
section
variable {c : Vc} {X : Cx} {W : WX} {k j n C : Nat} {φ : FnSem} {x m : Str} {p pos apos pos2 : Pos} {e o : Expr} {es : List Expr} {g : ES (List Wv)} {l : List (Nat × Nat)}
theorem de_cal (hK : c.K = X.K) (F : Cal c X.prog X.w X.mg X.base x j n φ) (hr : Room k X.A) (tk : L2N.Takes X W) (hj : j ≤ k) (hg : Gl X x) (ha : DA c X W (e :: es) g)
    (hdb : (x == ("__debug__" : Str)) = false := by decide) (he : starEach (e :: es) X.env = (false, eval e X.env) :: starEach es X.env := by rfl) (hpl : (backTo pos (starEach es X.env)).any (·.1) = false := by rfl) :
    DE c X W (.Call (.Name x p) (e :: es) [] pos) (vDef n φ g) := by
  obtain ⟨f, fd, ps, h1, h2, h3, h4⟩ := F
  rw [hK] at h1 h3 h4
  exact de_callR (runs_ok h1 (hr.mono hj) h4 tk) hg h2 h3 ha hdb he hpl
theorem de_cal0 (hK : c.K = X.K) (F : Cal c X.prog X.w X.mg X.base x j n φ) (hr : Room k X.A) (tk : L2N.Takes X W) (hj : j ≤ k) (hg : Gl X x) (hdb : (x == ("__debug__" : Str)) = false := by decide) : DE c X W (.Call (.Name x p) [] [] pos) (vDef n φ vNil) := by
  obtain ⟨f, fd, ps, h1, h2, h3, h4⟩ := F
  rw [hK] at h1 h3 h4
  exact de_callR0 (runs_ok h1 (hr.mono hj) h4 tk) hg h2 h3 hdb
theorem RoomV.mono (h : RoomV k X) (hj : j ≤ k) : RoomV j X := by
  rcases h with ⟨a, b⟩ | ⟨a, b⟩
  · exact .inl ⟨a, b.mono hj⟩
  · exact .inr ⟨a, b.mono hj⟩
theorem de_calV (hK : c.K = X.K) (F : CalV c X.prog X.w X.mg X.base x j n φ) (hr : RoomV k X) (tk : L2N.Takes X W) (hj : j ≤ k) (hg : Gl X x) (ha : DA c X W (e :: es) g)
    (hdb : (x == ("__debug__" : Str)) = false := by decide) (he : starEach (e :: es) X.env = (false, eval e X.env) :: starEach es X.env := by rfl) (hpl : (backTo pos (starEach es X.env)).any (·.1) = false := by rfl) :
    DE c X W (.Call (.Name x p) (e :: es) [] pos) (vDef n φ g) := by
  obtain ⟨f, fd, ps, h1, h2, h3, h4⟩ := F
  rw [hK] at h1 h3 h4
  exact de_callR (runs_V h1 (hr.mono hj) h4 tk) hg h2 h3 ha hdb he hpl
theorem CalV.cal {P : Program} {w : World} {mg : Str → Option Value} {base : Heap} (F : CalV c P w mg base x j n φ) : Cal c P w mg base x j n φ := by
  obtain ⟨f, fd, ps, h1, h2⟩ := F
  exact ⟨f, fd, ps, h1.ok, h2⟩
theorem de_calM {mi : Nat} {fo : SemE} {pl : Sem Bool} (hK : c.K = X.K) (F : CalM c X.prog X.w X.mg X.base C m j n φ) (hr : Room k X.A) (tk : L2N.Takes X W) (hj : j ≤ k) (hmi : c.nm mi = m) (hN : mi < c.N) (ho : DE c X W o fo) (ha : DA c X W (e :: es) g)
    (hst : starEach (e :: es) X.env = (false, eval e X.env) :: starEach es X.env := by rfl) (hpl : (backTo pos (starEach es X.env)).any (·.1) = false := by rfl)
    (ht : eval (.Call (.Attribute o m apos) (e :: es) [] pos) X.env = (do
      let ov ← eval o X.env
      standAt apos.atName
      let (f, first) ← holding [ov] (getMethod ov m pl)
      callWith pos f first (backTo pos (starEach (e :: es) X.env)) (backToKw pos (keywordEach [] X.env))) := by rfl) :
    DE c X W (.Call (.Attribute o m apos) (e :: es) [] pos) (vMeth C mi n φ fo g) := by
  obtain ⟨f, fd, ps, h1, h2, h3, h4⟩ := F
  rw [hK] at h1 h2 h3 h4
  exact de_methR ho h2 h3 hmi hN (runs_ok h1 (hr.mono hj) h4 tk) ha hst hpl ht
theorem de_calM0 {mi : Nat} {fo : SemE} {pl : Sem Bool} (hK : c.K = X.K) (F : CalM c X.prog X.w X.mg X.base C m j n φ) (hr : Room k X.A) (tk : L2N.Takes X W) (hj : j ≤ k) (hmi : c.nm mi = m) (hN : mi < c.N) (ho : DE c X W o fo)
    (ht : eval (.Call (.Attribute o m apos) [] [] pos) X.env = (do
      let ov ← eval o X.env
      standAt apos.atName
      let (f, first) ← holding [ov] (getMethod ov m pl)
      callWith pos f first (backTo pos (starEach [] X.env)) (backToKw pos (keywordEach [] X.env))) := by rfl) :
    DE c X W (.Call (.Attribute o m apos) [] [] pos) (vMeth C mi n φ fo vNil) := by
  obtain ⟨f, fd, ps, h1, h2, h3, h4⟩ := F
  rw [hK] at h1 h2 h3 h4
  exact de_methR0 ho h2 h3 hmi hN (runs_ok h1 (hr.mono hj) h4 tk) ht
theorem de_calN {fz : Bool} (hK : c.K = X.K) (F : CalN c X.prog X.w X.mg X.base x C j n φ) (hr : Room k X.A) (tk : L2N.Takes X W) (hj : j + 1 ≤ k) (hg : Gl X x) (ha : DA c X W (e :: es) g)
    (hdb : (x == ("__debug__" : Str)) = false := by decide) (he : starEach (e :: es) X.env = (false, eval e X.env) :: starEach es X.env := by rfl) (hpl : (backTo pos (starEach es X.env)).any (·.1) = false := by rfl) :
    DE c X W (.Call (.Name x p) (e :: es) [] pos) (vMake fz C n φ g) := by
  obtain ⟨f, fd, ps, h1, h2, h3, h4⟩ := F
  rw [hK] at h1 h2 h4
  exact de_make h2 h1 (hr.mono hj) hg h3 h4 tk ha hdb he hpl
theorem ds_calE (hK : c.K = X.K) (F : CalE c X.prog X.w X.mg X.base x C j n l) (hr : Room k X.A) (tk : L2N.Takes X W) (hc : X.calm = true) (hj : j + 1 ≤ k) (hg : Gl X x) (ha : DA c X W (e :: es) g) (hn : n ≤ 1000 := by decide) (hp : ∀ p ∈ l, 0 < p.2 := by decide)
    (hdb : (x == ("__debug__" : Str)) = false := by decide) (he : starEach (e :: es) X.env = (false, eval e X.env) :: starEach es X.env := by rfl) (hpl : (backTo pos (starEach es X.env)).any (·.1) = false := by rfl) :
    DS c X W (.Raise (some (.Call (.Name x p) (e :: es) [] pos)) none pos2) (vRaise C n l g) := by
  obtain ⟨f, fd, ps, h1, h2, h3, h4, h5, h6⟩ := F
  rw [hK] at h1 h2 h3 h4 h6
  exact ds_raise hc tk h2 h3 h4 h1 (hr.mono hj) h6 hg h5 ha hn hp hdb he hpl
theorem ds_calE0 (hK : c.K = X.K) (F : CalE c X.prog X.w X.mg X.base x C j n []) (hr : Room k X.A) (tk : L2N.Takes X W) (hc : X.calm = true) (hj : j + 1 ≤ k) (hg : Gl X x) (hn : n ≤ 1000 := by decide) (hdb : (x == ("__debug__" : Str)) = false := by decide) :
    DS c X W (.Raise (some (.Call (.Name x p) [] [] pos)) none pos2) (vRaise C n [] vNil) := by
  obtain ⟨f, fd, ps, h1, h2, h3, h4, h5, h6⟩ := F
  rw [hK] at h1 h2 h3 h4 h6
  exact ds_raise0 hc tk h2 h3 h4 h1 (hr.mono hj) h6 hg h5 hn hdb
end
/-! ### the head's facts of own exceptions -/
open He
structure ExD where
  at_ : Str
  name : Str
  qual : Str
  params : Arguments
  body : List Stmt
  scope : Scope
def exF (K : PySem.W.Frag) (x : Str) : Addr := ma K (ga K x) "__init__"
abbrev FnWC : Type := Option (Str × Str × Arguments × FuncBody × Scope × Addr × List Str × Addr)
def fnC (K : PySem.W.Frag) (x : Str) : FnWC := match K.lookup (exF K x) with
  | some ⟨_, _, .func fd, _⟩ => some (fd.name, fd.qualname, fd.params, fd.body, fd.scope, fd.globals, fd.closure.map (·.1), fd.builtins)
  | _ => none
def ExD.val (d : ExD) : FnWC := some (d.name, d.qual, d.params, .stmts d.body, d.scope, mainGlobals, ["__class__"], builtinsNs)
def oexB (K : PySem.W.Frag) (C : Addr) : Bool := (match K.lookup C with
  | some ⟨.type "type", _, .cls cd, sl⟩ => (match cd.mro, sl.toList with
    | .ref C' :: bm, [_, _, _, _, some (.builtin n), _] => C' == C && n == "ValueError.__new__" && !cd.hasDel && cd.hasDict && PySem.HandSPX.refsVE bm
    | _, _ => false)
  | _ => false) && (eqO (PySem.W.findIn K (.ref C) "__setattr__") (some (some (.builtin "object.__setattr__"))) && (decide (PySem.W.subIn K (.ref C) (.type "BaseException") = some true) && (decide (PySem.W.typeIn K (.ref C) = some (.type "type")) && PySem.W.keepIn K (.ref C))))
theorem oexB_ok {K : PySem.W.Frag} {C : Addr} (h : oexB K C = true) : OexC K C := by
  obtain ⟨h1, h⟩ := ba h
  obtain ⟨h2, h⟩ := ba h
  obtain ⟨h3, h⟩ := ba h
  obtain ⟨h4, h5⟩ := ba h
  refine ⟨?_, eqO_ok h2, of_decide_eq_true h3, of_decide_eq_true h4, h5⟩
  split at h1
  · rename_i dd cd sl ho
    split at h1
    · rename_i C' bm k0 k1 k2 k3 n k5 hm hs
      simp only [Bool.and_eq_true, beq_iff_eq, Bool.not_eq_true'] at h1
      obtain ⟨⟨⟨⟨rfl, rfl⟩, hdel⟩, hdict⟩, ht⟩ := h1
      obtain ⟨nm, bs, mro, ns, qn, hd, sn, sub, ab, col, del⟩ := cd
      dsimp only at hm hdel hdict
      subst hm hdel hdict
      have hsl : sl = #[k0, k1, k2, k3, some (.builtin "ValueError.__new__"), k5] := by
        obtain ⟨l⟩ := sl
        simp only at hs
        rw [hs]
      subst hsl
      exact ⟨nm, qn, ns, bs, bm, sn, sub, ab, col, dd, k0, k1, k2, k3, k5, ho, ht⟩
    · cases h1
  · cases h1
def codB (file : Str) (K : PySem.W.Frag) (C : Addr) (q : Str) (fd : FuncData) : Bool := match fd.code, fd.closure, fd.defaults with
  | .ref cda, [(_, cc)], .none => PySem.W.codeIn K (.ref cda) q && ((match K.lookup cda with
    | some ⟨_, _, .fields vs, _⟩ => (match (vs[2]? : Option Value) with
      | some (.str z _) => decide (z = file)
      | _ => false)
    | _ => false) && (match K.lookup cc with
    | some ⟨_, _, .cell (some (.ref C')), _⟩ => decide (C' = C)
    | _ => false))
  | _, _, _ => false
def ExD.ok (file : Str) (K : PySem.W.Frag) (d : ExD) : Bool := oexB K (ga K d.at_) && (xfB K (ga K d.at_) && (eqO (PySem.W.findIn K (.ref (ga K d.at_)) "__init__") (some (some (.ref (exF K d.at_)))) && (decide (PySem.W.typeIn K (.ref (exF K d.at_)) = some (.type "function")) &&
  (eqO (PySem.W.ks_superIn K (ga K d.at_) (ga K d.at_) "__init__") (some (some (.builtin "ValueError.__init__"))) && (decide (PySem.W.mroIn K (ga K d.at_) (.ref (ga K d.at_)) = some true) && (decide (PySem.W.subIn K (.ref (ga K d.at_)) (.type "ValueError") = some true) &&
  (eqO (PySem.W.nsIn K cStatics "thirdparty.any") (some none) && (match K.lookup (exF K d.at_) with
    | some ⟨_, _, .func fd, _⟩ => codB file K (ga K d.at_) d.qual fd
    | _ => false))))))))
theorem ExD.exI {P : Program} {K : PySem.W.Frag} {d : ExD} (e : fnC K d.at_ = d.val) (h : d.ok P.main.file K = true) : ∃ fd, ExI P K (ga K d.at_) (exF K d.at_) fd d.name d.qual d.params d.body d.scope ∧ XfC K (ga K d.at_) := by
  obtain ⟨h1, h⟩ := ba h
  obtain ⟨h2, h⟩ := ba h
  obtain ⟨h3, h⟩ := ba h
  obtain ⟨h4, h⟩ := ba h
  obtain ⟨h5, h⟩ := ba h
  obtain ⟨h6, h⟩ := ba h
  obtain ⟨h7, h⟩ := ba h
  obtain ⟨h8, h9⟩ := ba h
  unfold fnC at e
  cases q : K.lookup (exF K d.at_) with
  | none =>
    rw [q] at e
    cases e
  | some o =>
    obtain ⟨oc, od, dt, osl⟩ := o
    rw [q] at e h9
    cases dt with
    | func fd =>
      obtain ⟨n1, n2, n3, n4, n5, n6, n7, n8, n9, n10, n11, n12, n13, n14, n15⟩ := fd
      have e2 : (some (n1, n2, n3, n4, n5, n6, n7.map (·.1), n15) : FnWC) = (some (d.name, d.qual, d.params, FuncBody.stmts d.body, d.scope, mainGlobals, [("__class__" : Str)], builtinsNs) : FnWC) := e
      simp only [Option.some.injEq, Prod.mk.injEq] at e2
      obtain ⟨g1, g2, g3, g4, g5, g6, g7, g8⟩ := e2
      subst g1 g2 g3 g4 g5 g6 g8
      obtain ⟨cda, nm, cc, e3, e4, e5⟩ : ∃ (cda : Addr) (nm : Str) (cc : Addr), n13 = Value.ref cda ∧ n7 = [(nm, cc)] ∧ n8 = Value.none := by
        unfold codB at h9
        dsimp only at h9
        cases n13 with
        | ref cda =>
          cases n7 with
          | nil => cases h9
          | cons p r =>
            cases r with
            | cons _ _ => cases h9
            | nil =>
              cases n8 with
              | none => exact ⟨cda, p.1, p.2, rfl, rfl, rfl⟩
              | _ => cases h9
        | _ => cases h9
      subst e3 e4 e5
      · obtain ⟨k1, k2⟩ := ba h9
        obtain ⟨k3, k4⟩ := ba k2
        have enm : nm = ("__class__" : Str) := by
          simp only [List.map_cons, List.map_nil, List.cons.injEq, and_true] at g7
          exact g7
        subst enm
        refine ⟨PySem.W.ksFn d.name d.qual d.params d.body d.scope .none n9 n10 n11 n12 (.ref cda) n14 cc, ⟨oexB_ok h1, eqO_ok h3, of_decide_eq_true h4, ?_, eqO_ok h5, of_decide_eq_true h6, of_decide_eq_true h7, eqO_ok h8⟩, xfB_ok h2⟩
        cases q2 : K.lookup cda with
        | none => rw [q2] at k3; cases k3
        | some oc2 =>
          obtain ⟨a1, a2, a3, a4⟩ := oc2
          rw [q2] at k3
          cases a3 with
          | fields vs =>
            dsimp only at k3
            cases q3 : vs[2]? with
            | none => rw [q3] at k3; cases k3
            | some u =>
              rw [q3] at k3
              cases u with
              | str z tf =>
                have ez : z = P.main.file := of_decide_eq_true k3
                subst ez
                cases q4 : K.lookup cc with
                | none => rw [q4] at k4; cases k4
                | some oc3 =>
                  obtain ⟨b1, b2, b3, b4⟩ := oc3
                  rw [q4] at k4
                  cases b3 with
                  | cell v =>
                    cases v with
                    | none => cases k4
                    | some v =>
                      cases v with
                      | ref C' =>
                        have eC : C' = ga K d.at_ := of_decide_eq_true k4
                        subst eC
                        exact ⟨oc, od, n9, n10, n11, n12, cda, n14, osl, cc, a1, a2, vs, a4, tf, b1, b2, b4, rfl, q, k1, q2, q3, q4⟩
                          | _ => cases k4
                  | _ => cases k4
              | _ => cases k3
          | _ => cases k3
    | _ => cases e
/-! ### the Hook -/
def frV (g : Addr → Option Obj) (n : Nat) : PySem.W.Frag := frG g (cStatics :: asD g n)
abbrev AlV : Type := (AlD × List FnWC) × Bool
def obsK (file : Str) (fa : List Fa) (fn : List DefD) (fx : List ExD) (ex : PySem.W.Frag → Bool) (K : PySem.W.Frag) : AlV := ((obsD fa fn K, fx.map fun d => fnC K d.at_), ex K && fx.all fun d => d.ok file K)
def obsV (file : Str) (n : Nat) (fa : List Fa) (fn : List DefD) (fx : List ExD) (ex : PySem.W.Frag → Bool) (g : Addr → Option Obj) : AlV := obsK file fa fn fx ex (frV g n)
def valV (fn : List DefD) (fx : List ExD) : AlV := ((valD fn, fx.map ExD.val), true)
def SaysV (file : Str) (fa : List Fa) (fn : List DefD) (fx : List ExD) (ex : PySem.W.Frag → Bool) (K : PySem.W.Frag) : Prop := obsK file fa fn fx ex K = valV fn fx
def hookV (file : Str) (n : Nat) (fa : List Fa) (fn : List DefD) (fx : List ExD) (ex : PySem.W.Frag → Bool) : PySem.W.Hook where
  α := AlV
  obs := fun s => obsV file n fa fn fx ex s.heap.get?
  val := fun _ => valV fn fx
  says := fun _ h => ∃ K : PySem.W.Frag, K.In h ∧ SaysV file fa fn fx ex K
  of := fun _ _ e => ⟨_, frG_in, e⟩
  keeps := fun _ _ _ ⟨K, hK, c⟩ k => ⟨K, PySem.W.Frag.In.keeps hK k, c⟩
theorem obsV_eq {file : Str} {n : Nat} {fa : List Fa} {fn : List DefD} {fx : List ExD} {ex : PySem.W.Frag → Bool} {g : Addr → Option Obj} {s : Shared} (h : ∀ a, g a = s.heap.get? a) : obsV file n fa fn fx ex g = (hookV file n fa fn fx ex).obs s := by
  have e : g = s.heap.get? := funext h
  rw [e] <;> rfl
section
variable {file : Str} {fa : List Fa} {fn : List DefD} {fx : List ExD} {ex : PySem.W.Frag → Bool} {K : PySem.W.Frag}
theorem SaysV.d (c : SaysV file fa fn fx ex K) : SaysD fa fn K := congrArg (fun z : AlV => z.1.1) c
theorem SaysV.more (c : SaysV file fa fn fx ex K) : ex K = true := (ba (show (ex K && fx.all fun d => d.ok file K) = true from congrArg (fun z : AlV => z.2) c)).1
theorem SaysV.exc {P : Program} (hf : P.main.file = file) (c : SaysV file fa fn fx ex K) (i : Nat) {d : ExD} (h : fx[i]? = some d := by rfl) : ∃ fd, ExI P K (ga K d.at_) (exF K d.at_) fd d.name d.qual d.params d.body d.scope ∧ XfC K (ga K d.at_) := by
  subst hf
  have h2 := (ba (show (ex K && fx.all fun d => d.ok P.main.file K) = true from congrArg (fun z : AlV => z.2) c)).2
  have h1 : fx.map (fun d => fnC K d.at_) = fx.map ExD.val := congrArg (fun z : AlV => z.1.2) c
  have e2 : (fx.map fun d => fnC K d.at_)[i]? = (fx.map ExD.val)[i]? := by rw [h1]
  rw [List.getElem?_map, List.getElem?_map, h] at e2
  exact ExD.exI (Option.some.inj e2) (List.all_eq_true.mp h2 d (List.mem_of_getElem? h))
end
end VL

set_option Elab.async false
set_option linter.all false
set_option maxRecDepth 100000
set_option maxHeartbeats 1000000
/-! VL19: the rules in short. -/
namespace VL
open PySem PySem.Spec PyProof.Rows L2
/-! ### contexts -/
theorem tkc {P : Program} {w : World} {K : PySem.W.Frag} {mg : Str → Option Value} {base : Heap} {N : List Str} {qual : Str} {scope : Scope} {f : Addr} {cd : Value} {A : Around} {outer : List Env} {s : Shared} {H : Hp} {E : XK} :
    L2N.Takes (cxOf (L2N.CX P w) P w K mg base N qual scope f cd A outer s H E) (fun cls d _ H => E cls d H) := L2N.takes_of rfl rfl rfl rfl
theorem hpc {P : Program} {w : World} {K : PySem.W.Frag} {mg : Str → Option Value} {base : Heap} {N : List Str} {qual : Str} {scope : Scope} {f : Addr} {cd : Value} {A : Around} {outer : List Env} {s : Shared} {H : Hp} {E : XK} :
    PassesOwn (model (cxOf (L2N.CX P w) P w K mg base N qual scope f cd A outer s H E).prog (cxOf (L2N.CX P w) P w K mg base N qual scope f cd A outer s H E).w) (cxOf (L2N.CX P w) P w K mg base N qual scope f cd A outer s H E).A (cxOf (L2N.CX P w) P w K mg base N qual scope f cd A outer s H E).env (cxOf (L2N.CX P w) P w K mg base N qual scope f cd A outer s H E).xe := passes_of rfl
theorem tkh {P : Program} {w : World} {K : PySem.W.Frag} {mg : Str → Option Value} {base : Heap} {N : List Str} {qual : Str} {scope : Scope} {f : Addr} {cd : Value} {A : Around} {outer : List Env} {s : Shared} {H : Hp} {E : XK} {p : Addr × Obj} :
    L2N.Takes (L2H.cxH (L2N.CX P w) P w K mg base N qual scope f cd A outer s H E p) (fun cls d _ H => E cls d H) := L2N.takes_of rfl rfl rfl rfl
theorem hph {P : Program} {w : World} {K : PySem.W.Frag} {mg : Str → Option Value} {base : Heap} {N : List Str} {qual : Str} {scope : Scope} {f : Addr} {cd : Value} {A : Around} {outer : List Env} {s : Shared} {H : Hp} {E : XK} {p : Addr × Obj} :
    PassesOwn (model (L2H.cxH (L2N.CX P w) P w K mg base N qual scope f cd A outer s H E p).prog (L2H.cxH (L2N.CX P w) P w K mg base N qual scope f cd A outer s H E p).w) (L2H.cxH (L2N.CX P w) P w K mg base N qual scope f cd A outer s H E p).A (L2H.cxH (L2N.CX P w) P w K mg base N qual scope f cd A outer s H E p).env (L2H.cxH (L2N.CX P w) P w K mg base N qual scope f cd A outer s H E p).xe := passes_of rfl
theorem hot_suite {X : Cx} {a : Addr} {oe : Obj} {cls : Value} {d : Option Addr} {pn : List (Addr × Obj)} {k : Nat} (hz : L2N.Zn cls d oe) (hd : ∃ vs, oe.data = .fields vs) (hr : Room k X.A) : RoomV k (X.suite a ((a, oe) :: pn)) := by
  obtain ⟨vs, hv⟩ := hd
  exact .inr ⟨⟨(a, oe), ⟨rfl, vs, hv, hz.2.2 vs hv⟩, List.mem_cons_self⟩, L2H.roomH_mark hr _⟩
theorem calm_room {X : Cx} {k : Nat} (hc : X.calm = true) (hr : Room k X.A) : RoomV k X := .inl ⟨hc, hr⟩
/-! ### operators that tell their operands apart -/
def rOr (r r' : R2) : R2 := fun x y H Q => r x y H Q ∨ r' x y H Q
theorem op_or {X : Cx} {f : Value → Value → Sem Value} {r r' : R2} (h : OpR X f r) (h' : OpR X f r') : OpR X f (rOr r r') := fun pins s σ H x y v u Q I rx ry q => by
  rcases q with q | q
  · exact h pins s σ H x y v u Q I rx ry q
  · exact h' pins s σ H x y v u Q I rx ry q
def oAlt (p : Wv → Wv → Bool) (o o' : Op2) : Op2 := fun w1 w2 M => if p w1 w2 = true then o w1 w2 M else o' w1 w2 M
theorem ok_alt {c : Vc} {W : WX} {p : Wv → Wv → Bool} {r r' : R2} {o o' : Op2} (h : OpOk c W r o) (h' : OpOk c W r' o') : OpOk c W (rOr r r') (oAlt p o o') := by
  intro σ H Q w1 w2 x y ⟨μ, G, Γ, M, R, hd, F⟩
  dsimp only [oAlt] at F
  split at F
  · exact .inl (h σ H Q w1 w2 x y ⟨μ, G, Γ, M, R, hd, F⟩)
  · exact .inr (h' σ H Q w1 w2 x y ⟨μ, G, Γ, M, R, hd, F⟩)
def isII : Wv → Wv → Bool
  | .t (.int _), .t (.int _) => true
  | _, _ => false
def isTT : Wv → Wv → Bool
  | .t (.tup _), .t (.tup _) => true
  | _, _ => false
def oPlus : Op2 := oAlt isII oAdd (oAlt isTT oCatT oCat)
def oTimes : Op2 := oAlt isII oMul oRep
section
variable {c : Vc} {X : Cx} {W : WX} {pos p q pos2 apos : Pos} {a b e o i : Expr} {es : List Expr} {f g : SemE} {ga : ES (List Wv)} {k n : Nat} {x : Str}
theorem de_plus (hK : c.K = X.K) (ha : DE c X W a f) (hb : DE c X W b g) : DE c X W (.BinOp a .Add b pos) (vOp oPlus f g) := de_op (op_or op_add (op_or op_catA op_cat)) (by rw [← hK]; exact ok_alt ok_add (ok_alt ok_catT ok_cat)) ha hb
theorem de_minus (ha : DE c X W a f) (hb : DE c X W b g) : DE c X W (.BinOp a .Sub b pos) (vOp oSub f g) := de_op op_sub ok_sub ha hb
theorem de_times (ha : DE c X W a f) (hb : DE c X W b g) : DE c X W (.BinOp a .Mult b pos) (vOp oTimes f g) := de_op (op_or op_mulW op_rep) (ok_alt ok_mul ok_rep) ha hb
theorem de_fdiv (ha : DE c X W a f) (hb : DE c X W b g) : DE c X W (.BinOp a .FloorDiv b pos) (vOp oFdiv f g) := de_op op_fdivW ok_fdiv ha hb
theorem de_mod (ha : DE c X W a f) (hb : DE c X W b g) : DE c X W (.BinOp a .Mod b pos) (vOp oMod f g) := de_op op_mod ok_mod ha hb
theorem de_pow (ha : DE c X W a f) (hb : DE c X W b g) : DE c X W (.BinOp a .Pow b pos) (vOp oPowW f g) := de_op op_powW ok_powW ha hb
theorem de_lt (ha : DE c X W a f) (hb : DE c X W b g) : DE c X W (.Compare a [.Lt] [b] pos) (vOp oLt f g) := de_cmp op_lt ok_lt ha hb (nomark _)
theorem de_le (ha : DE c X W a f) (hb : DE c X W b g) : DE c X W (.Compare a [.LtE] [b] pos) (vOp oLe f g) := de_cmp op_le ok_le ha hb (nomark _)
theorem de_gt (ha : DE c X W a f) (hb : DE c X W b g) : DE c X W (.Compare a [.Gt] [b] pos) (vOp oGt f g) := de_cmp op_gt ok_gt ha hb (nomark _)
theorem de_ge (ha : DE c X W a f) (hb : DE c X W b g) : DE c X W (.Compare a [.GtE] [b] pos) (vOp oGe f g) := de_cmp op_ge ok_ge ha hb (nomark _)
theorem de_eq (hK : c.K = X.K) (hr : Room k X.A) (ha : DE c X W a f) (hb : DE c X W b g) : DE c X W (.Compare a [.Eq] [b] pos) (vOp oEq f g) := de_cmp (op_eqD hr.units) (by rw [← hK]; exact ok_eq) ha hb (nomark _)
theorem de_ne (hK : c.K = X.K) (hr : Room k X.A) (ha : DE c X W a f) (hb : DE c X W b g) : DE c X W (.Compare a [.NotEq] [b] pos) (vOp oNe f g) := de_cmp (op_neD hr.units) (by rw [← hK]; exact ok_ne) ha hb (nomark _)
theorem dt_lt (ha : DE c X W a f) (hb : DE c X W b g) : DT c X W (.Compare a [.Lt] [b] pos) (vTest (vOp oLt f g)) := dt_cmp op_lt ok_lt ha hb (nomark _)
theorem dt_le (ha : DE c X W a f) (hb : DE c X W b g) : DT c X W (.Compare a [.LtE] [b] pos) (vTest (vOp oLe f g)) := dt_cmp op_le ok_le ha hb (nomark _)
theorem dt_gt (ha : DE c X W a f) (hb : DE c X W b g) : DT c X W (.Compare a [.Gt] [b] pos) (vTest (vOp oGt f g)) := dt_cmp op_gt ok_gt ha hb (nomark _)
theorem dt_ge (ha : DE c X W a f) (hb : DE c X W b g) : DT c X W (.Compare a [.GtE] [b] pos) (vTest (vOp oGe f g)) := dt_cmp op_ge ok_ge ha hb (nomark _)
theorem dt_eq (hK : c.K = X.K) (hr : Room k X.A) (ha : DE c X W a f) (hb : DE c X W b g) : DT c X W (.Compare a [.Eq] [b] pos) (vTest (vOp oEq f g)) := dt_cmp (op_eqD hr.units) (by rw [← hK]; exact ok_eq) ha hb (nomark _)
theorem dt_ne (hK : c.K = X.K) (hr : Room k X.A) (ha : DE c X W a f) (hb : DE c X W b g) : DT c X W (.Compare a [.NotEq] [b] pos) (vTest (vOp oNe f g)) := dt_cmp (op_neD hr.units) (by rw [← hK]; exact ok_ne) ha hb (nomark _)
/-- low <= x <= high -/
theorem de_between {d : Expr} {h : SemE} (ha : DE c X W a f) (hb : DE c X W b g) (hd : DE c X W d h) (hm : lastMarks [.LtE, .LtE] [b, d] = false := by with_unfolding_all rfl) : DE c X W (.Compare a [.LtE, .LtE] [b, d] pos) (vChain2 oLe oLe f g h) := de_chain op_le op_le ok_le ok_le ha hb hd hm
theorem dt_between {d : Expr} {h : SemE} (ha : DE c X W a f) (hb : DE c X W b g) (hd : DE c X W d h) (hm : lastMarks [.LtE, .LtE] [b, d] = false := by with_unfolding_all rfl) : DT c X W (.Compare a [.LtE, .LtE] [b, d] pos) (vTest (vChain2 oLe oLe f g h)) := dt_chain op_le op_le ok_le ok_le ha hb hd hm
theorem dt_betwlt {d : Expr} {h : SemE} (ha : DE c X W a f) (hb : DE c X W b g) (hd : DE c X W d h) (hm : lastMarks [.LtE, .Lt] [b, d] = false := by with_unfolding_all rfl) : DT c X W (.Compare a [.LtE, .Lt] [b, d] pos) (vTest (vChain2 oLe oLt f g h)) := dt_chain op_le op_lt ok_le ok_lt ha hb hd hm
/-- the own == and != of the class C -/
def CalO (c : Vc) (P : Program) (w : World) (mg : Str → Option Value) (base : Heap) (op : CmpOp) (C : Nat) (k : Nat) (φ : FnSem) : Prop :=
  ∃ f fd ps, FnOk P w c.K mg base (L2N.CX P w) k f fd ps (spV c 2 φ) ∧ PySem.W.findIn c.K (.ref (c.ρ C)) (PySem.cmpInfo op).2.1 = some (some (.ref f)) ∧ PySem.W.isFn c.K (.ref f) = true ∧ Binds c.K fd ps []
theorem op_calO {op : CmpOp} {C j : Nat} {φ : FnSem} {pr : R2} (hop : ∀ a b, compareOp op a b = richCompare op a b) (hK : c.K = X.K) (F : CalO c X.prog X.w X.mg X.base op C j φ) (hr : Room k X.A) (hj : j ≤ k) (hp : OpR X (compareOp op) pr) :
    OpR X (compareOp op) (rOwn X.K (c.ρ C) (spV c 2 φ) pr) := by
  obtain ⟨f, fd, ps, h1, h2, h3, h4⟩ := F
  rw [hK] at h1 h2 h3 h4
  exact op_own hop h2 h3 hr.units0 (runs_okF h1 (hr.mono hj) h4) hp
theorem de_eqO {C j : Nat} {φ : FnSem} (hK : c.K = X.K) (F : CalO c X.prog X.w X.mg X.base .Eq C j φ) (hr : Room k X.A) (hj : j ≤ k) (ha : DE c X W a f) (hb : DE c X W b g) : DE c X W (.Compare a [.Eq] [b] pos) (vOp (oOwn C φ oEq) f g) :=
  de_cmp (op_calO (fun _ _ => rfl) hK F hr hj (op_eqD hr.units)) (ok_own hK (by rw [← hK]; exact ok_eq)) ha hb (nomark _)
theorem de_neO {C j : Nat} {φ : FnSem} (hK : c.K = X.K) (F : CalO c X.prog X.w X.mg X.base .NotEq C j φ) (hr : Room k X.A) (hj : j ≤ k) (ha : DE c X W a f) (hb : DE c X W b g) : DE c X W (.Compare a [.NotEq] [b] pos) (vOp (oOwn C φ oNe) f g) :=
  de_cmp (op_calO (fun _ _ => rfl) hK F hr hj (op_neD hr.units)) (ok_own hK (by rw [← hK]; exact ok_ne)) ha hb (nomark _)
/-! ### built-in functions -/
theorem de_len (hK : c.K = X.K) (hg : Gl X "len") (hm : X.mg "len" = none) (ha : DA c X W (e :: es) ga) (he : starEach (e :: es) X.env = (false, eval e X.env) :: starEach es X.env := by rfl) (hpl : (backTo pos (starEach es X.env)).any (·.1) = false := by rfl) :
    DE c X W (.Call (.Name "len" p) (e :: es) [] pos) (vCall fLen ga) := de_callB call_len (by rw [← hK]; exact ok_len) hg hm (by decide +kernel) ha (by decide) (by decide) he hpl
theorem de_abs (hg : Gl X "abs") (hm : X.mg "abs" = none) (ha : DA c X W (e :: es) ga) (he : starEach (e :: es) X.env = (false, eval e X.env) :: starEach es X.env := by rfl) (hpl : (backTo pos (starEach es X.env)).any (·.1) = false := by rfl) :
    DE c X W (.Call (.Name "abs" p) (e :: es) [] pos) (vCall fAbs ga) := de_callB call_abs ok_abs hg hm (by decide +kernel) ha (by decide) (by decide) he hpl
theorem de_toint (hg : Gl X "int") (hm : X.mg "int" = none) (ha : DA c X W (e :: es) ga) (he : starEach (e :: es) X.env = (false, eval e X.env) :: starEach es X.env := by rfl) (hpl : (backTo pos (starEach es X.env)).any (·.1) = false := by rfl) :
    DE c X W (.Call (.Name "int" p) (e :: es) [] pos) (vCall fInt ga) := de_callTy call_int1 ok_int hg hm (by decide +kernel) ha (by decide) (by decide) he hpl
theorem de_sum (hK : c.K = X.K) (hc : X.calm = true) (hg : Gl X "sum") (hm : X.mg "sum" = none) (ha : DA c X W (e :: es) ga) (he : starEach (e :: es) X.env = (false, eval e X.env) :: starEach es X.env := by rfl) (hpl : (backTo pos (starEach es X.env)).any (·.1) = false := by rfl) :
    DE c X W (.Call (.Name "sum" p) (e :: es) [] pos) (vCall fSum ga) := de_callB (cr_sum hc) (by rw [← hK]; exact ok_sum) hg hm (by decide +kernel) ha (by decide) (by decide) he hpl
theorem de_maxL (hK : c.K = X.K) (hc : X.calm = true) (hg : Gl X "max") (hm : X.mg "max" = none) (ha : DA c X W (e :: es) ga) (he : starEach (e :: es) X.env = (false, eval e X.env) :: starEach es X.env := by rfl) (hpl : (backTo pos (starEach es X.env)).any (·.1) = false := by rfl) :
    DE c X W (.Call (.Name "max" p) (e :: es) [] pos) (vCall fMaxL ga) := de_callB (cr_max hc) (by rw [← hK]; exact ok_maxL) hg hm (by decide +kernel) ha (by decide) (by decide) he hpl
theorem de_minL (hK : c.K = X.K) (hc : X.calm = true) (hg : Gl X "min") (hm : X.mg "min" = none) (ha : DA c X W (e :: es) ga) (he : starEach (e :: es) X.env = (false, eval e X.env) :: starEach es X.env := by rfl) (hpl : (backTo pos (starEach es X.env)).any (·.1) = false := by rfl) :
    DE c X W (.Call (.Name "min" p) (e :: es) [] pos) (vCall fMinL ga) := de_callB (cr_min hc) (by rw [← hK]; exact ok_minL) hg hm (by decide +kernel) ha (by decide) (by decide) he hpl
theorem de_max2 (hc : X.calm = true) (hg : Gl X "max") (hm : X.mg "max" = none) (ha : DA c X W (e :: es) ga) (he : starEach (e :: es) X.env = (false, eval e X.env) :: starEach es X.env := by rfl) (hpl : (backTo pos (starEach es X.env)).any (·.1) = false := by rfl) :
    DE c X W (.Call (.Name "max" p) (e :: es) [] pos) (vCall fMax2 ga) := de_callB (call_max2 hc) (okII _) hg hm (by decide +kernel) ha (by decide) (by decide) he hpl
theorem de_min2 (hc : X.calm = true) (hg : Gl X "min") (hm : X.mg "min" = none) (ha : DA c X W (e :: es) ga) (he : starEach (e :: es) X.env = (false, eval e X.env) :: starEach es X.env := by rfl) (hpl : (backTo pos (starEach es X.env)).any (·.1) = false := by rfl) :
    DE c X W (.Call (.Name "min" p) (e :: es) [] pos) (vCall fMin2 ga) := de_callB (call_min2 hc) (okII _) hg hm (by decide +kernel) ha (by decide) (by decide) he hpl
theorem de_gcd (hg : Gl X "gcd") (hm : X.mg "gcd" = some (.builtin "math.gcd")) (ha : DA c X W (e :: es) ga) (he : starEach (e :: es) X.env = (false, eval e X.env) :: starEach es X.env := by rfl) (hpl : (backTo pos (starEach es X.env)).any (·.1) = false := by rfl) :
    DE c X W (.Call (.Name "gcd" p) (e :: es) [] pos) (vCall fGcd ga) := de_callM cr_gcd (okII _) hg hm ha (by decide) he hpl
theorem de_list (hK : c.K = X.K) (hg : Gl X "list") (hm : X.mg "list" = none) (ha : DA c X W (e :: es) ga) (he : starEach (e :: es) X.env = (false, eval e X.env) :: starEach es X.env := by rfl) (hpl : (backTo pos (starEach es X.env)).any (·.1) = false := by rfl) :
    DE c X W (.Call (.Name "list" p) (e :: es) [] pos) (vCall fList ga) := de_callTy call_list_of (by rw [← hK]; exact ok_list) hg hm (by decide +kernel) ha (by decide) (by decide) he hpl
theorem de_tuple (hK : c.K = X.K) (hg : Gl X "tuple") (hm : X.mg "tuple" = none) (ha : DA c X W (e :: es) ga) (he : starEach (e :: es) X.env = (false, eval e X.env) :: starEach es X.env := by rfl) (hpl : (backTo pos (starEach es X.env)).any (·.1) = false := by rfl) :
    DE c X W (.Call (.Name "tuple" p) (e :: es) [] pos) (vCall fTuple ga) := de_callTy call_tuple_of (by rw [← hK]; exact ok_tuple) hg hm (by decide +kernel) ha (by decide) (by decide) he hpl
theorem de_divmod (hg : Gl X "divmod") (hm : X.mg "divmod" = none) (ha : DA c X W (e :: es) ga) (he : starEach (e :: es) X.env = (false, eval e X.env) :: starEach es X.env := by rfl) (hpl : (backTo pos (starEach es X.env)).any (·.1) = false := by rfl) :
    DE c X W (.Call (.Name "divmod" p) (e :: es) [] pos) (vCall fDivmod ga) := de_callB call_divmodW ok_divmod hg hm (by decide +kernel) ha (by decide) (by decide) he hpl
/-! ### methods of lists -/
theorem de_append (hK : c.K = X.K) (ho : DE c X W o f) (ha : DA c X W (e :: es) ga) (h : ∀ {to : TE} {t : TA}, PE X o to → PA X (e :: es) t → PE X (.Call (.Attribute o "append" apos) (e :: es) [] pos) (tBM X.K "list" rAppend to t)) :
    DE c X W (.Call (.Attribute o "append" apos) (e :: es) [] pos) (vMt mAppend f ga) := peImp (h ho ha) fun σ H Q h => by
  rw [← hK]
  exact vMt_ok ok_append σ H Q h
theorem de_pop0 (hK : c.K = X.K) (ho : DE c X W o f) (h : ∀ {to : TE}, PE X o to → PE X (.Call (.Attribute o "pop" apos) [] [] pos) (tBM0 X.K "list" rPop to)) :
    DE c X W (.Call (.Attribute o "pop" apos) [] [] pos) (vMt mPop f vNil) := de_mt0 (id := "list.pop") hK ok_pop (h ho)
/-! ### statements -/
theorem ds_return {e : Expr} {f : SemE} (he : DE c X W e f) : DS c X W (.Return (some e) pos) (vRet f) := ds_ret he (ps_ret he)
/-! ### what a loop walks: a list or a tuple -/
def kSrcA (r : Rv) (M : Store) : Res Src := match r with
  | .t (.tup xs) => .ok ⟨xs, none⟩ M
  | r => kSrc r M
def vSrcA (f : SemE) : ES Src := fun Γ M => (f Γ M).bind kSrcA
theorem pi_seq {tg l : Expr} {tl : TE} (hl : PE X l tl) : PI X tg l (fun σ H R => tl σ H fun x H1 => ∃ a, x = .ref a ∧ (((∃ xs, SqL X.K H1 a xs) ∧ R (Itl X.K a) H1) ∨ ((∃ xs, SqT X.K H1 a xs) ∧ R (Itt X.K a) H1))) := by
  refine ⟨fun pins s σ H R I h => thn (hl.run pins s σ H _ I h) fun v s1 ⟨x, H1, I1, r1, q1⟩ => ?_⟩
  obtain ⟨a, e, q⟩ := q1
  subst e
  obtain rfl : v = Value.ref a := r1
  have fp : ∀ b ∈ [s1.heap.objs.size], FpOk X pins H1 b := fun b hb => by
    have e : b = s1.heap.objs.size := by simpa using hb
    subst e
    exact I1.fpOk (Nat.le_refl _) (I1.hok.fresh (Nat.le_refl _))
  have kp : ∀ (o : Obj), Inv X pins σ H1 { s1 with heap := s1.heap.push o } := fun o => I1.kept (t' := s1.toks) fun b o e => Heap.get?_push_of_some _ e
  rcases q with ⟨⟨xs, hq⟩, q⟩ | ⟨⟨xs, hq⟩, q⟩
  · obtain ⟨its, rv, pl, hz⟩ := I1.list hq
    exact wpAny_pyIter_list pl.isList ⟨s1.heap.objs.size, [s1.heap.objs.size], _, _, H1, rfl, kp _, turn_list a _, ⟨_, Heap.get?_push_size _ rfl, rfl, rfl⟩, fp, q⟩
  · obtain ⟨its, rv, pl, hz⟩ := I1.tuple hq
    exact wpAny_pyIter_tuple (show s1.heap.IsTuple a its.toArray from pl) ⟨s1.heap.objs.size, [s1.heap.objs.size], _, _, H1, rfl, kp _, turn_tuple a _, ⟨_, Heap.get?_push_size _ rfl, rfl, rfl⟩, fp, q⟩
theorem di_seq {tg e : Expr} {f : SemE} (hK : c.K = X.K) (he : DE c X W e f) : DI c X W tg e (vSrcA f) :=
  piImp (pi_seq he) fun σ H Rr h => by
    refine lift_bindR (rr := rrI c) (g := fun r _ M1 => kSrcA r M1) h fun r x H1 μ G Γ M R q F => ?_
    have fin : ∀ {G2 : Hp} {a : Addr} {vs : List V} {ds : List D}, Same G G2 → Rel c μ G2 Γ M σ H1 → x = .ref a → SqL c.K G2 a vs → RFs c G2 ds vs → FinG c W σ Γ (rrI c) μ G M.length Rr (.ok ⟨ds, none⟩ M) → ∃ a, x = .ref a ∧ (((∃ xs, SqL X.K H1 a xs) ∧ Rr (Itl X.K a) H1) ∨ ((∃ xs, SqT X.K H1 a xs) ∧ Rr (Itt X.K a) H1)) :=
      fun {G2 a vs ds} s R2 ex q r F => ⟨a, ex, .inl ⟨⟨vs, by rw [← hK]; exact R2.gh.seq q⟩, F μ G2 _ H1 ⟨s, fun _ _ => rfl, Nat.le_refl _⟩ R2 ⟨itok_list (H := H1) (Γ := Γ) (σ := σ) hK q r, trivial⟩⟩⟩
    unfold kSrcA at F
    split at F
    · rename_i xs
      obtain ⟨a, vs, e1, q1, r1⟩ := rf_tup.mp (rr_t q)
      exact ⟨a, e1, .inr ⟨⟨vs, by rw [← hK]; exact seqT_mono R.gh q1⟩, F μ G _ H1 Ext.refl R ⟨itok_tup (H := H1) (Γ := Γ) (σ := σ) hK q1 r1, trivial⟩⟩⟩
    · unfold kSrc at F
      split at F
      · rename_i xs _
        obtain ⟨a, vs, e1, q1, r1⟩ := rf_lst.mp (rr_t q)
        exact fin (Same.refl _) R e1 (SqL.of q1) r1 F
      · rename_i xs _
        obtain ⟨a, vs, e1, q1, r1⟩ := rf_scr.mp (rr_t q)
        exact fin (Same.refl _) R e1 q1 r1 F
      · rename_i xs _
        obtain ⟨G2, s, R2, wr⟩ := RR.frz R q
        obtain ⟨a, vs, e1, q1, r1⟩ := rf_lst.mp (wr_t wr)
        exact fin s R2 e1 (SqL.of q1) r1 F
      · rename_i n _
        obtain ⟨hn, ex⟩ := (show n < M.length ∧ x = .ref (μ n) from q)
        split at F
        · rename_i xs em
          obtain ⟨vs, h1, h2⟩ := R.getL em
          exact ⟨μ n, ex, .inl ⟨⟨vs, SqL.of h1⟩, F μ G _ H1 Ext.refl R ⟨itok_cell (H := H1) (Γ := Γ) (σ := σ) hK hn, em⟩⟩⟩
        · exact F.elim
      · exact F.elim
end
end VL

set_option Elab.async false
set_option linter.all false
set_option maxRecDepth 100000
set_option maxHeartbeats 1000000
/-! VL20: small helps for the printed text. -/
namespace VL
open PySem PySem.Spec PyProof.Rows L2
theorem nm_inj {l : List Str} (h : l.Nodup) : ∀ i j, i < l.length → j < l.length → l.getD i Str.empty = l.getD j Str.empty → i = j := by
  intro i j hi hj e
  rw [List.getD_eq_getElem?_getD, List.getD_eq_getElem?_getD, List.getElem?_eq_getElem hi, List.getElem?_eq_getElem hj] at e
  exact (List.getElem_inj h).mp (by simpa using e)
theorem all_nil {α : Type} {p : α → Prop} : ∀ x ∈ ([] : List α), p x := fun _ h => by cases h
theorem all_cons {α : Type} {p : α → Prop} {a : α} {l : List α} (h : p a) (t : ∀ x ∈ l, p x) : ∀ x ∈ a :: l, p x := fun x hx => by
  rcases List.mem_cons.mp hx with e | m
  · rw [e]
    exact h
  · exact t x m
theorem ex_at {l : List Bool} (h : l.all id = true) (i : Nat) {b : Bool} (e : l[i]? = some b) : b = true := List.all_eq_true.mp h b (List.mem_of_getElem? e)
section
variable {c : Vc} {X : Cx} {W : WX} {pos : Pos} {a : Expr} {f : SemE}
theorem dt_isN {j pos'} (ha : DE c X W a f) : DT c X W (.Compare a [.Is] [.Constant .none j pos'] pos) (vTest (vIsN f)) := by
  refine ptImp (pt_cmp (pc_isN ha)) fun σ H Q h => ?_
  have h2 := vTest_ok h
  refine lift_bindR (g := fun r _ M1 => kIsN r M1) h2 fun r x H1 μ G Γ M R q F => ?_
  rw [rr_non q]
  exact F μ G _ H1 Ext.refl R mk_bl
theorem dt_notN {j pos'} (ha : DE c X W a f) : DT c X W (.Compare a [.IsNot] [.Constant .none j pos'] pos) (vTest (vNotN f)) := by
  refine ptImp (pt_cmp (pc_notN ha)) fun σ H Q h => ?_
  have h2 := vTest_ok h
  refine lift_bindR (g := fun r _ M1 => kNotN r M1) h2 fun r x H1 μ G Γ M R q F => ?_
  rw [rr_non q]
  exact F μ G _ H1 Ext.refl R mk_bl
theorem dt_eqO {b : Expr} {g : SemE} {k C j : Nat} {φ : FnSem} (hK : c.K = X.K) (F : CalO c X.prog X.w X.mg X.base .Eq C j φ) (hr : Room k X.A) (hj : j ≤ k) (ha : DE c X W a f) (hb : DE c X W b g) : DT c X W (.Compare a [.Eq] [b] pos) (vTest (vOp (oOwn C φ oEq) f g)) :=
  dt_cmp (op_calO (fun _ _ => rfl) hK F hr hj (op_eqD hr.units)) (ok_own hK (by rw [← hK]; exact ok_eq)) ha hb (nomark _)
theorem dt_neO {b : Expr} {g : SemE} {k C j : Nat} {φ : FnSem} (hK : c.K = X.K) (F : CalO c X.prog X.w X.mg X.base .NotEq C j φ) (hr : Room k X.A) (hj : j ≤ k) (ha : DE c X W a f) (hb : DE c X W b g) : DT c X W (.Compare a [.NotEq] [b] pos) (vTest (vOp (oOwn C φ oNe) f g)) :=
  dt_cmp (op_calO (fun _ _ => rfl) hK F hr hj (op_neD hr.units)) (ok_own hK (by rw [← hK]; exact ok_ne)) ha hb (nomark _)
end
end VL

set_option Elab.async false
set_option linter.all false
set_option maxRecDepth 100000
set_option maxHeartbeats 1000000
/-! VL21: the law's end. -/
namespace VL
open PySem PySem.Spec PyProof.Rows L2
theorem fnok_noX {P : Program} {w : World} {K : PySem.W.Frag} {mg : Str → Option Value} {base : Heap} {k : Nat} {f : Addr} {fd : FuncData} {ps : List Str} {sp : Sp} (F : FnOk P w K mg base (L2N.CX P w) k f fd ps sp) :
    FnOk P w K mg base CX0 k f fd ps (fun vs H Q _ => sp vs H Q (fun _ _ _ => False)) := by
  refine ⟨fun vs H Q E h => F.len vs H Q _ h, fun A outer s H args us vs Q E hr e0 hb r h => ?_⟩
  refine codeAny_mono (F.run A outer s H args us vs Q (fun _ _ _ => False) hr e0 hb r h) fun rs s' hq => ?_
  cases rs with
  | error e =>
    obtain ⟨_, _, _, _, _, _, _, _, _, _, _, _, z⟩ := hq
    exact z.elim
  | ok fl => cases fl <;> exact hq
theorem rfs_ints {c : Vc} {G : Hp} : ∀ ns : List Int, RFs c G (ns.map .int) (ns.map V.int)
  | [] => .nil
  | n :: r => .cons (rf_int.mpr rfl) (rfs_ints r)
/-- the law's promise at a script -/
theorem law_sp {c : Vc} {φ : FnSem} {H : Hp} {a : Addr} {ns : List Int} (q : SqL c.K H a (ns.map V.int)) {M' : Store} (h : φ [.t (.scr (ns.map .int))] [] = .ok (.t (.bl true)) M') :
    spV c 1 φ [.ref a] H (fun v _ => v = .bl true) (fun _ _ _ => False) := by
  refine ⟨fun _ => 0, H, [], [.t (.scr (ns.map .int))], rfl, rfl, ⟨Same.refl _, rfl, fun i w e => ?_, fun n x e => by simp at e, fun n m l => ?_⟩, ?_⟩
  · cases i with
    | zero =>
      cases e
      exact ⟨.ref a, rfl, rf_scr.mpr ⟨a, _, rfl, q, rfs_ints ns⟩⟩
    | succ i => simp at e
  · obtain ⟨x, hx, _⟩ := l
    simp at hx
  · rw [h]
    exact fun μ' G' v H' e R r => (rf_bl (c := c) (G := G')).mp r
end VL

set_option Elab.async false
set_option linter.all false
set_option maxRecDepth 100000
set_option maxHeartbeats 400000
/-! VL22: reckoning with mirrors. -/
namespace VL
open PySem PySem.Spec PyProof.Rows L2
section
variable {f g h : SemE} {t u : ES Bool} {a b : SemS} {Γ : VEnv} {M : Store} {tg : SemG}
/-! ### the combinators at an environment and a store -/
def kVar (M : Store) : Option (Option Wv) → Res Rv
  | some (some w) => .ok w.r M
  | _ => .bad
@[simp] theorem e_var (i : Nat) : vVar i Γ M = kVar M Γ[i]? := by
  unfold vVar kVar
  cases Γ[i]? with
  | none => rfl
  | some o => cases o with
    | none => rfl
    | some w => cases w <;> rfl
@[simp] theorem kVar_t (d : D) : kVar M (some (some (.t d))) = .ok (.t d) M := (rfl)
@[simp] theorem kVar_l (n : Nat) : kVar M (some (some (.l n))) = .ok (.l n) M := (rfl)
@[simp] theorem kVar_w (w : Wv) : kVar M (some (some w)) = .ok w.r M := (rfl)
@[simp] theorem Wv.r_w (w : Wv) : w.r.w = w := by cases w <;> rfl
def kTakeC (n : Nat) (M : Store) : Option Cel → Res Rv
  | some x => (match x.d with
    | some d => .ok (.f d) (M.set n .dead)
    | none => .bad)
  | none => .bad
def kTake (M : Store) : Option (Option Wv) → Res Rv
  | some (some (.l n)) => kTakeC n M M[n]?
  | _ => .bad
@[simp] theorem e_take (i : Nat) : vTake i Γ M = kTake M Γ[i]? := by
  unfold vTake kTake
  cases Γ[i]? with
  | none => rfl
  | some o => cases o with
    | none => rfl
    | some w => cases w with
      | t d => rfl
      | l n => dsimp only; cases M[n]? <;> rfl
@[simp] theorem kTake_l (n : Nat) : kTake M (some (some (.l n))) = kTakeC n M M[n]? := (rfl)
@[simp] theorem kTakeC_lst (n : Nat) (xs : List D) : kTakeC n M (some (.lst xs)) = .ok (.f (.lst xs)) (M.set n .dead) := (rfl)
@[simp] theorem e_c (d : D) : vC d Γ M = .ok (.t d) M := (rfl)
@[simp] theorem e_nil : vNil Γ M = .ok [] M := (rfl)
@[simp] theorem e_cons (g : ES (List Wv)) : vCons f g Γ M = (f Γ M).bind fun r M1 => (g Γ M1).bind fun ws M2 => .ok (r.w :: ws) M2 := (rfl)
@[simp] theorem e_op (op : Op2) : vOp op f g Γ M = (f Γ M).bind fun r1 M1 => (g Γ M1).bind fun r2 M2 => op r1.w r2.w M2 := (rfl)
def kTest (r : Rv) (M : Store) : Res Bool := match r with
  | .t (.bl b) => .ok b M
  | _ => .bad
@[simp] theorem e_test : vTest f Γ M = (f Γ M).bind kTest := (rfl)
@[simp] theorem kTest_bl (b : Bool) : kTest (.t (.bl b)) M = .ok b M := (rfl)
@[simp] theorem e_call (op : List Wv → Store → Res Rv) (g : ES (List Wv)) : vCall op g Γ M = (g Γ M).bind op := (rfl)
@[simp] theorem e_v1 (op : List Wv → Store → Res Rv) : v1 op f Γ M = (f Γ M).bind fun r M1 => op [r.w] M1 := (rfl)
def kDef (n : Nat) (φ : FnSem) (as : List Wv) (M : Store) : Res Rv := if as.length = n then φ as M else .bad
@[simp] theorem e_def (n : Nat) (φ : FnSem) (g : ES (List Wv)) : vDef n φ g Γ M = (g Γ M).bind (kDef n φ) := (rfl)
@[simp] theorem kDef_0 (φ : FnSem) : kDef 0 φ [] M = φ [] M := (rfl)
@[simp] theorem kDef_1 (φ : FnSem) (a : Wv) : kDef 1 φ [a] M = φ [a] M := (rfl)
@[simp] theorem kDef_2 (φ : FnSem) (a b : Wv) : kDef 2 φ [a, b] M = φ [a, b] M := (rfl)
@[simp] theorem kDef_3 (φ : FnSem) (a b c : Wv) : kDef 3 φ [a, b, c] M = φ [a, b, c] M := (rfl)
@[simp] theorem kDef_4 (φ : FnSem) (a b c d : Wv) : kDef 4 φ [a, b, c, d] M = φ [a, b, c, d] M := (rfl)
@[simp] theorem kDef_5 (φ : FnSem) (a b c d e : Wv) : kDef 5 φ [a, b, c, d, e] M = φ [a, b, c, d, e] M := (rfl)
@[simp] theorem kDef_6 (φ : FnSem) (a b c d e f : Wv) : kDef 6 φ [a, b, c, d, e, f] M = φ [a, b, c, d, e, f] M := (rfl)
@[simp] theorem e_neg : vNeg f Γ M = (f Γ M).bind kNeg := (rfl)
@[simp] theorem kNeg_int (i : Int) : kNeg (.t (.int i)) M = .ok (.t (.int (-i))) M := (rfl)
@[simp] theorem e_not : vNot t Γ M = (t Γ M).bind fun b M1 => .ok (!b) M1 := (rfl)
@[simp] theorem e_and : vAnd t u Γ M = (t Γ M).bind fun b M1 => kAnd u b Γ M1 := (rfl)
@[simp] theorem e_or : vOr t u Γ M = (t Γ M).bind fun b M1 => kOr u b Γ M1 := (rfl)
@[simp] theorem kAnd_t : kAnd u true Γ M = u Γ M := (rfl)
@[simp] theorem kAnd_f : kAnd u false Γ M = .ok false M := (rfl)
@[simp] theorem kOr_t : kOr u true Γ M = .ok true M := (rfl)
@[simp] theorem kOr_f : kOr u false Γ M = u Γ M := (rfl)
@[simp] theorem e_if : vIf t f g Γ M = (t Γ M).bind fun b M1 => kIf f g b Γ M1 := (rfl)
@[simp] theorem kIf_t : kIf f g true Γ M = f Γ M := (rfl)
@[simp] theorem kIf_f : kIf f g false Γ M = g Γ M := (rfl)
@[simp] theorem e_andV : vAndV f g Γ M = (f Γ M).bind fun r M1 => kAndV g r Γ M1 := (rfl)
@[simp] theorem e_orV : vOrV f g Γ M = (f Γ M).bind fun r M1 => kOrV g r Γ M1 := (rfl)
@[simp] theorem kAndV_t : kAndV g (.t (.bl true)) Γ M = g Γ M := (rfl)
@[simp] theorem kAndV_f : kAndV g (.t (.bl false)) Γ M = .ok (.t (.bl false)) M := (rfl)
@[simp] theorem kOrV_t : kOrV g (.t (.bl true)) Γ M = .ok (.t (.bl true)) M := (rfl)
@[simp] theorem kOrV_f : kOrV g (.t (.bl false)) Γ M = g Γ M := (rfl)
@[simp] theorem e_notV : vNotV f Γ M = (f Γ M).bind kNotV := (rfl)
@[simp] theorem kNotV_bl (b : Bool) : kNotV (.t (.bl b)) M = .ok (.t (.bl (!b))) M := (rfl)
@[simp] theorem e_isN : vIsN f Γ M = (f Γ M).bind kIsN := (rfl)
@[simp] theorem e_notN : vNotN f Γ M = (f Γ M).bind kNotN := (rfl)
@[simp] theorem kIsN_ap (r : Rv) : kIsN r M = .ok (.t (.bl (isNon r))) M := (rfl)
@[simp] theorem kNotN_ap (r : Rv) : kNotN r M = .ok (.t (.bl (!isNon r))) M := (rfl)
@[simp] theorem isNon_non : isNon (.t .non) = true := (rfl)
@[simp] theorem isNon_int (i : Int) : isNon (.t (.int i)) = false := (rfl)
@[simp] theorem e_tup (g : ES (List Wv)) : vTup g Γ M = (g Γ M).bind kTup := (rfl)
@[simp] theorem e_lst (g : ES (List Wv)) : vLst g Γ M = (g Γ M).bind kLst := (rfl)
@[simp] theorem tds_nil : tds [] = some [] := (rfl)
@[simp] theorem tds_cons (d : D) (ws : List Wv) : tds (.t d :: ws) = (tds ws).map (d :: ·) := (rfl)
theorem kTup_of {ws : List Wv} {ds : List D} (e : tds ws = some ds) (hl : ds.length ≤ 16777216) : kTup ws M = .ok (.t (.tup ds)) M := by unfold kTup; rw [e]; exact if_pos hl
theorem kLst_of {ws : List Wv} {ds : List D} (e : tds ws = some ds) (hl : ds.length ≤ 16777216) : kLst ws M = .ok (.f (.lst ds)) M := by unfold kLst; rw [e]; exact if_pos hl
def kTupO (M : Store) : Option (List D) → Res Rv
  | some ds => if ds.length ≤ 16777216 then .ok (.t (.tup ds)) M else .bad
  | none => .bad
def kLstO (M : Store) : Option (List D) → Res Rv
  | some ds => if ds.length ≤ 16777216 then .ok (.f (.lst ds)) M else .bad
  | none => .bad
@[simp] theorem kTup_ap (ws : List Wv) : kTup ws M = kTupO M (tds ws) := (rfl)
@[simp] theorem kLst_ap (ws : List Wv) : kLst ws M = kLstO M (tds ws) := (rfl)
theorem kTupO_s (ds : List D) : kTupO M (some ds) = if ds.length ≤ 16777216 then .ok (.t (.tup ds)) M else .bad := rfl
theorem kLstO_s (ds : List D) : kLstO M (some ds) = if ds.length ≤ 16777216 then .ok (.f (.lst ds)) M else .bad := rfl
theorem len_small {α : Type} {ds : List α} {k : Nat} (e : ds.length = k) (h : k ≤ 16777216) : ds.length ≤ 16777216 := e ▸ h
@[simp] theorem kTupO_0 : kTupO M (some []) = .ok (.t (.tup [])) M := (kTupO_s []).trans (if_pos (len_small (ds := []) (k := 0) rfl (by omega)))
@[simp] theorem kLstO_0 : kLstO M (some []) = .ok (.f (.lst [])) M := (kLstO_s []).trans (if_pos (len_small (ds := []) (k := 0) rfl (by omega)))
@[simp] theorem kTupO_1 (a : D) : kTupO M (some [a]) = .ok (.t (.tup [a])) M := (kTupO_s [a]).trans (if_pos (len_small (ds := [a]) (k := 1) rfl (by omega)))
@[simp] theorem kLstO_1 (a : D) : kLstO M (some [a]) = .ok (.f (.lst [a])) M := (kLstO_s [a]).trans (if_pos (len_small (ds := [a]) (k := 1) rfl (by omega)))
@[simp] theorem kTupO_2 (a b : D) : kTupO M (some [a, b]) = .ok (.t (.tup [a, b])) M := (kTupO_s [a, b]).trans (if_pos (len_small (ds := [a, b]) (k := 2) rfl (by omega)))
@[simp] theorem kLstO_2 (a b : D) : kLstO M (some [a, b]) = .ok (.f (.lst [a, b])) M := (kLstO_s [a, b]).trans (if_pos (len_small (ds := [a, b]) (k := 2) rfl (by omega)))
@[simp] theorem kTupO_3 (a b c : D) : kTupO M (some [a, b, c]) = .ok (.t (.tup [a, b, c])) M := (kTupO_s [a, b, c]).trans (if_pos (len_small (ds := [a, b, c]) (k := 3) rfl (by omega)))
@[simp] theorem kLstO_3 (a b c : D) : kLstO M (some [a, b, c]) = .ok (.f (.lst [a, b, c])) M := (kLstO_s [a, b, c]).trans (if_pos (len_small (ds := [a, b, c]) (k := 3) rfl (by omega)))
@[simp] theorem kTupO_4 (a b c d : D) : kTupO M (some [a, b, c, d]) = .ok (.t (.tup [a, b, c, d])) M := (kTupO_s [a, b, c, d]).trans (if_pos (len_small (ds := [a, b, c, d]) (k := 4) rfl (by omega)))
@[simp] theorem kLstO_4 (a b c d : D) : kLstO M (some [a, b, c, d]) = .ok (.f (.lst [a, b, c, d])) M := (kLstO_s [a, b, c, d]).trans (if_pos (len_small (ds := [a, b, c, d]) (k := 4) rfl (by omega)))
@[simp] theorem kTupO_5 (a b c d e : D) : kTupO M (some [a, b, c, d, e]) = .ok (.t (.tup [a, b, c, d, e])) M := (kTupO_s [a, b, c, d, e]).trans (if_pos (len_small (ds := [a, b, c, d, e]) (k := 5) rfl (by omega)))
@[simp] theorem kLstO_5 (a b c d e : D) : kLstO M (some [a, b, c, d, e]) = .ok (.f (.lst [a, b, c, d, e])) M := (kLstO_s [a, b, c, d, e]).trans (if_pos (len_small (ds := [a, b, c, d, e]) (k := 5) rfl (by omega)))
@[simp] theorem kTupO_6 (a b c d e f : D) : kTupO M (some [a, b, c, d, e, f]) = .ok (.t (.tup [a, b, c, d, e, f])) M := (kTupO_s [a, b, c, d, e, f]).trans (if_pos (len_small (ds := [a, b, c, d, e, f]) (k := 6) rfl (by omega)))
@[simp] theorem kLstO_6 (a b c d e f : D) : kLstO M (some [a, b, c, d, e, f]) = .ok (.f (.lst [a, b, c, d, e, f])) M := (kLstO_s [a, b, c, d, e, f]).trans (if_pos (len_small (ds := [a, b, c, d, e, f]) (k := 6) rfl (by omega)))
@[simp] theorem kTupO_7 (a b c d e f g : D) : kTupO M (some [a, b, c, d, e, f, g]) = .ok (.t (.tup [a, b, c, d, e, f, g])) M := (kTupO_s [a, b, c, d, e, f, g]).trans (if_pos (len_small (ds := [a, b, c, d, e, f, g]) (k := 7) rfl (by omega)))
@[simp] theorem kLstO_7 (a b c d e f g : D) : kLstO M (some [a, b, c, d, e, f, g]) = .ok (.f (.lst [a, b, c, d, e, f, g])) M := (kLstO_s [a, b, c, d, e, f, g]).trans (if_pos (len_small (ds := [a, b, c, d, e, f, g]) (k := 7) rfl (by omega)))
@[simp] theorem kTupO_8 (a b c d e f g h : D) : kTupO M (some [a, b, c, d, e, f, g, h]) = .ok (.t (.tup [a, b, c, d, e, f, g, h])) M := (kTupO_s [a, b, c, d, e, f, g, h]).trans (if_pos (len_small (ds := [a, b, c, d, e, f, g, h]) (k := 8) rfl (by omega)))
@[simp] theorem kLstO_8 (a b c d e f g h : D) : kLstO M (some [a, b, c, d, e, f, g, h]) = .ok (.f (.lst [a, b, c, d, e, f, g, h])) M := (kLstO_s [a, b, c, d, e, f, g, h]).trans (if_pos (len_small (ds := [a, b, c, d, e, f, g, h]) (k := 8) rfl (by omega)))
@[simp] theorem kTupO_9 (a b c d e f g h i : D) : kTupO M (some [a, b, c, d, e, f, g, h, i]) = .ok (.t (.tup [a, b, c, d, e, f, g, h, i])) M := (kTupO_s [a, b, c, d, e, f, g, h, i]).trans (if_pos (len_small (ds := [a, b, c, d, e, f, g, h, i]) (k := 9) rfl (by omega)))
@[simp] theorem kLstO_9 (a b c d e f g h i : D) : kLstO M (some [a, b, c, d, e, f, g, h, i]) = .ok (.f (.lst [a, b, c, d, e, f, g, h, i])) M := (kLstO_s [a, b, c, d, e, f, g, h, i]).trans (if_pos (len_small (ds := [a, b, c, d, e, f, g, h, i]) (k := 9) rfl (by omega)))
/-! ### operators -/
@[simp] theorem e_plus (i j : Int) : oPlus (.t (.int i)) (.t (.int j)) M = .ok (.t (.int (i + j))) M := (rfl)
theorem e_plusT {xs ys : List D} (hl : xs.length + ys.length ≤ 16777216) : oPlus (.t (.tup xs)) (.t (.tup ys)) M = .ok (.t (.tup (xs ++ ys))) M := if_pos hl
theorem e_plusL {w1 w2 : Wv} {xs ys : List D} (h1 : dr M w1 = some (.lst xs)) (h2 : dr M w2 = some (.lst ys)) (hl : xs.length + ys.length ≤ 16777216) : oPlus w1 w2 M = .ok (.f (.lst (xs ++ ys))) M := by
  have e : oCat w1 w2 M = .ok (.f (.lst (xs ++ ys))) M := by unfold oCat; rw [h1, h2]; exact if_pos hl
  have n1 : isII w1 w2 = false := by
    cases w1 with
    | l n => rfl
    | t d => cases h1; rfl
  have n2 : isTT w1 w2 = false := by
    cases w1 with
    | l n => rfl
    | t d => cases h1; rfl
  unfold oPlus oAlt
  rw [n1, n2]
  exact e
@[simp] theorem e_sub (i j : Int) : oSub (.t (.int i)) (.t (.int j)) M = .ok (.t (.int (i - j))) M := (rfl)
theorem e_times {i j : Int} (hh : i.natAbs.log2 + j.natAbs.log2 < 1000000) : oTimes (.t (.int i)) (.t (.int j)) M = .ok (.t (.int (i * j))) M := by
  show (if decide (i.natAbs.log2 + j.natAbs.log2 < 1000000) = true then _ else _) = _
  rw [if_pos (decide_eq_true hh)]
theorem e_timesL {w : Wv} {xs : List D} {k : Int} (h1 : dr M w = some (.lst xs)) (hk : k < 16777216 ∧ -16777216 < k ∧ xs.length * k.toNat ≤ 16777216) : oTimes w (.t (.int k)) M = .ok (.f (.lst (List.replicate k.toNat xs).flatten)) M := by
  have e : oRep w (.t (.int k)) M = .ok (.f (.lst (List.replicate k.toNat xs).flatten)) M := by unfold oRep; rw [h1]; exact if_pos hk
  have n1 : isII w (.t (.int k)) = false := by
    cases w with
    | l n => rfl
    | t d => cases h1; rfl
  unfold oTimes oAlt
  rw [n1]
  exact e
theorem e_mod {i j : Int} (hj : 0 < j) : oMod (.t (.int i)) (.t (.int j)) M = .ok (.t (.int (i % j))) M := by
  show (if decide (0 < j) = true then _ else _) = _
  rw [if_pos (decide_eq_true hj)]
theorem e_fdiv {i j : Int} (hj : 0 < j) (hl : j.natAbs.log2 < 9000) : oFdiv (.t (.int i)) (.t (.int j)) M = .ok (.t (.int (i / j))) M := by
  show (if (decide (0 < j) && decide (j.natAbs.log2 < 9000)) = true then _ else _) = _
  rw [if_pos (by rw [decide_eq_true hj, decide_eq_true hl]; rfl)]
theorem e_pow {i j : Int} (h0 : 0 ≤ j) (h1 : j ≤ 1000) (h2 : i.natAbs < 2 ^ 10000) : oPowW (.t (.int i)) (.t (.int j)) M = .ok (.t (.int (i ^ j.toNat))) M := by
  show (if (decide (0 ≤ j) && decide (j ≤ 1000) && decide (i.natAbs < 2 ^ 10000)) = true then _ else _) = _
  rw [if_pos (by rw [decide_eq_true h0, decide_eq_true h1, decide_eq_true h2]; rfl)]
theorem lt_pow10000 {k : Nat} (h : k < 1024) : k < 2 ^ 10000 := Nat.lt_of_lt_of_le h (show 2 ^ 10 ≤ 2 ^ 10000 from Nat.pow_le_pow_right (by omega) (by omega))
@[simp] theorem e_pow10 (j : Nat) (hj : j ≤ 1000) : oPowW (.t (.int 10)) (.t (.int (j : Int))) M = .ok (.t (.int (10 ^ j))) M := by
  rw [e_pow (by omega) (by omega) (lt_pow10000 (by decide))]
  simp
@[simp] theorem e_lt (i j : Int) : oLt (.t (.int i)) (.t (.int j)) M = .ok (.t (.bl (decide (i < j)))) M := (rfl)
@[simp] theorem e_le (i j : Int) : oLe (.t (.int i)) (.t (.int j)) M = .ok (.t (.bl (decide (i ≤ j)))) M := (rfl)
@[simp] theorem e_gt (i j : Int) : oGt (.t (.int i)) (.t (.int j)) M = .ok (.t (.bl (decide (j < i)))) M := (rfl)
@[simp] theorem e_ge (i j : Int) : oGe (.t (.int i)) (.t (.int j)) M = .ok (.t (.bl (decide (j ≤ i)))) M := (rfl)
theorem beq_dec (i j : Int) : (i == j) = decide (i = j) := by
  by_cases hh : i = j
  · subst hh; simp
  · simp [hh]
@[simp] theorem e_eq (i j : Int) : oEq (.t (.int i)) (.t (.int j)) M = .ok (.t (.bl (decide (i = j)))) M := by
  show Res.ok (Rv.t (.bl (PyData.eqv (.int i) (.int j)))) M = _
  rw [PyData.eqv, beq_dec]
@[simp] theorem e_ne (i j : Int) : oNe (.t (.int i)) (.t (.int j)) M = .ok (.t (.bl (!decide (i = j)))) M := by
  show Res.ok (Rv.t (.bl (!PyData.eqv (.int i) (.int j)))) M = _
  rw [PyData.eqv, beq_dec]
theorem e_eqD {w1 w2 : Wv} {d e : D} (h1 : dr M w1 = some d) (h2 : dr M w2 = some e) (s1 : SeqAt.shaped d.py = true) (s2 : SeqAt.shaped e.py = true) : oEq w1 w2 M = .ok (.t (.bl (d.py.eqv e.py))) M := by
  unfold oEq; rw [h1, h2]; exact if_pos (by rw [s1, s2]; rfl)
theorem e_neD {w1 w2 : Wv} {d e : D} (h1 : dr M w1 = some d) (h2 : dr M w2 = some e) (s1 : SeqAt.shaped d.py = true) (s2 : SeqAt.shaped e.py = true) : oNe w1 w2 M = .ok (.t (.bl (!d.py.eqv e.py))) M := by
  unfold oNe; rw [h1, h2]; exact if_pos (by rw [s1, s2]; rfl)
theorem dr_l {n : Nat} {x : Cel} (e : M[n]? = some x) : dr M (.l n) = x.d := by unfold dr; simp only [e]
theorem dr_lst {n : Nat} {xs : List D} (e : M[n]? = some (.lst xs)) : dr M (.l n) = some (.lst xs) := dr_l e
theorem drS_lst {n : Nat} {xs : List D} (e : M[n]? = some (.lst xs)) : drS M (.l n) = some xs := by unfold drS; rw [dr_lst e]; rfl
@[simp] theorem drS_tl (xs : List D) : drS M (.t (.lst xs)) = some xs := (rfl)
@[simp] theorem drS_tt (xs : List D) : drS M (.t (.tup xs)) = some xs := (rfl)
@[simp] theorem drS_ts (xs : List D) : drS M (.t (.scr xs)) = some xs := (rfl)
/-- an item -/
def kIx (M : Store) : Option D → Res Rv
  | some d => .ok (.t d) M
  | none => .bad
@[simp] theorem kIx_s (d : D) : kIx M (some d) = .ok (.t d) M := (rfl)
theorem e_ix {w : Wv} {xs : List D} {i : Int} (hx : drS M w = some xs) : oIx w (.t (.int i)) M = kIx M (L2.atI xs i) := by
  unfold oIx; rw [hx]; dsimp only; cases L2.atI xs i <;> rfl
@[simp] theorem e_ixL (xs : List D) (i : Int) : oIx (.t (.lst xs)) (.t (.int i)) M = kIx M (L2.atI xs i) := e_ix rfl
@[simp] theorem e_ixT (xs : List D) (i : Int) : oIx (.t (.tup xs)) (.t (.int i)) M = kIx M (L2.atI xs i) := e_ix rfl
@[simp] theorem e_ixC {n : Nat} {xs : List D} {i : Int} (e : M[n]? = some (.lst xs)) : oIx (.l n) (.t (.int i)) M = kIx M (L2.atI xs i) := e_ix (drS_lst e)
theorem atI_nat {α : Type} {xs : List α} {i : Int} {k : Nat} (e : i = (k : Int)) (hk : k < xs.length) : L2.atI xs i = xs[k]? := by
  unfold L2.atI ixN
  subst e
  rw [if_pos (by omega), if_pos (by omega)]
  simp
theorem atI_neg {α : Type} {xs : List α} {i : Int} {k : Nat} (e : i = -(k : Int)) (h0 : 0 < k) (hk : k ≤ xs.length) : L2.atI xs i = xs[xs.length - k]? := by
  unfold L2.atI ixN
  subst e
  rw [if_neg (by omega), if_pos (by omega)]
  show xs[(-(k : Int) + (xs.length : Int)).toNat]? = _
  congr 1
  omega
theorem atI_map {α β : Type} (f : α → β) (xs : List α) (i : Int) : L2.atI (xs.map f) i = (L2.atI xs i).map f := by
  unfold L2.atI
  rw [List.length_map]
  cases ixN xs.length i with
  | none => rfl
  | some j => simp
@[simp] theorem atI_c0 {α : Type} (x : α) (xs : List α) : L2.atI (x :: xs) 0 = some x := by rw [atI_nat (i := 0) (k := 0) rfl (by simp)]; rfl
@[simp] theorem atI_c1 {α : Type} (x y : α) (xs : List α) : L2.atI (x :: y :: xs) 1 = some y := by rw [atI_nat (i := 1) (k := 1) rfl (by simp)]; rfl
@[simp] theorem atI_c2 {α : Type} (x y z : α) (xs : List α) : L2.atI (x :: y :: z :: xs) 2 = some z := by rw [atI_nat (i := 2) (k := 2) rfl (by simp)]; rfl
@[simp] theorem atI_c3 {α : Type} (x y z v : α) (xs : List α) : L2.atI (x :: y :: z :: v :: xs) 3 = some v := by rw [atI_nat (i := 3) (k := 3) rfl (by simp)]; rfl
/-! ### built-in functions -/
theorem e_len {w : Wv} {xs : List D} (hx : drS M w = some xs) : fLen [w] M = .ok (.t (.int xs.length)) M := by
  unfold fLen
  cases w with
  | l n => simp only [hx]
  | t d =>
    cases d <;> first | (simp only [hx]; done) | cases hx
@[simp] theorem e_lenL (xs : List D) : fLen [.t (.lst xs)] M = .ok (.t (.int xs.length)) M := e_len rfl
@[simp] theorem e_lenT (xs : List D) : fLen [.t (.tup xs)] M = .ok (.t (.int xs.length)) M := e_len rfl
@[simp] theorem e_lenC {n : Nat} {xs : List D} (e : M[n]? = some (.lst xs)) : fLen [.l n] M = .ok (.t (.int xs.length)) M := e_len (drS_lst e)
@[simp] theorem e_int (i : Int) : fInt [.t (.int i)] M = .ok (.t (.int i)) M := (rfl)
@[simp] theorem e_abs (i : Int) : fAbs [.t (.int i)] M = .ok (.t (.int i.natAbs)) M := by
  show Res.ok (Rv.t (.int (if i < 0 then -i else i))) M = _
  congr 3
  split <;> omega
@[simp] theorem e_fII (f : Int → Int → Int) (i j : Int) : fII f [.t (.int i), .t (.int j)] M = .ok (.t (.int (f i j))) M := (rfl)
theorem e_listF {w : Wv} {xs : List D} (hx : drS M w = some xs) : fList [w] M = .ok (.f (.lst xs)) M := by
  unfold fList; simp only [hx]
@[simp] theorem e_listL (xs : List D) : fList [.t (.lst xs)] M = .ok (.f (.lst xs)) M := e_listF rfl
@[simp] theorem e_listT (xs : List D) : fList [.t (.tup xs)] M = .ok (.f (.lst xs)) M := e_listF rfl
@[simp] theorem e_listC {n : Nat} {xs : List D} (e : M[n]? = some (.lst xs)) : fList [.l n] M = .ok (.f (.lst xs)) M := e_listF (drS_lst e)
@[simp] theorem e_tupleL (xs : List D) : fTuple [.t (.lst xs)] M = .ok (.t (.tup xs)) M := (rfl)
@[simp] theorem e_tupleT (xs : List D) : fTuple [.t (.tup xs)] M = .ok (.t (.tup xs)) M := (rfl)
theorem ints_map (ns : List Int) : ints? (ns.map .int) = some ns := by
  induction ns with
  | nil => rfl
  | cons n ns ih => rw [List.map_cons, ints?, ih]; rfl
theorem e_sum (ns : List Int) : fSum [.t (.lst (ns.map .int))] M = .ok (.t (.int ns.sum)) M := by
  unfold fSum drN'
  simp only [dr_t, ints_map]
/-! ### cuts -/
@[simp] theorem e_noPart : vNoPart Γ M = .ok none M := (rfl)
@[simp] theorem e_part : vPart f Γ M = (f Γ M).bind kPart := (rfl)
@[simp] theorem kPart_int (i : Int) : kPart (.t (.int i)) M = .ok (some i) M := (rfl)
@[simp] theorem e_cut (l r : ES (Option Int)) : vCut f l r Γ M = (f Γ M).bind fun x M1 => (l Γ M1).bind fun lo M2 => (r Γ M2).bind fun hi M3 => kCut x.w lo hi M3 := (rfl)
@[simp] theorem kCut_l (xs : List D) (lo hi : Option Int) : kCut (.t (.lst xs)) lo hi M = .ok (.f (.lst (cutD xs lo hi))) M := (rfl)
@[simp] theorem kCut_s (xs : List D) (lo hi : Option Int) : kCut (.t (.scr xs)) lo hi M = .ok (.f (.lst (cutD xs lo hi))) M := (rfl)
@[simp] theorem kCut_t (xs : List D) (lo hi : Option Int) : kCut (.t (.tup xs)) lo hi M = .ok (.t (.tup (cutD xs lo hi))) M := (rfl)
theorem cutD_to {xs : List D} {i : Int} {k : Nat} (e : i = (k : Int)) : cutD xs none (some i) = xs.take k := by
  subst e
  unfold cutD
  rw [HT.sIx_none, HT.sIx_nat, List.drop_zero, Nat.sub_zero]
  by_cases hk : k ≤ xs.length
  · rw [Nat.min_eq_left hk]
  · rw [Nat.min_eq_right (by omega), List.take_of_length_le (by omega), List.take_of_length_le (by omega)]
theorem cutD_from {xs : List D} {i : Int} {k : Nat} (e : i = (k : Int)) : cutD xs (some i) none = xs.drop k := by
  subst e
  unfold cutD
  rw [HT.sIx_none, HT.sIx_nat]
  by_cases hk : k ≤ xs.length
  · rw [Nat.min_eq_left hk, List.take_of_length_le (by rw [List.length_drop]; exact Nat.le_refl _)]
  · rw [Nat.min_eq_right (by omega), List.drop_of_length_le (by omega), List.drop_of_length_le (by omega)]; simp
/-! ### statements -/
@[simp] theorem e_seq : vSeq a b Γ M = kSeq b (a Γ M) := (rfl)
@[simp] theorem kSeq_nx : kSeq b (.ok .nx Γ M) = b Γ M := (rfl)
@[simp] theorem kSeq_rt (r : Rv) : kSeq b (.ok (.rt r) Γ M) = .ok (.rt r) Γ M := (rfl)
@[simp] theorem kSeq_bk : kSeq b (.ok .bk Γ M) = .ok .bk Γ M := (rfl)
@[simp] theorem kSeq_ct : kSeq b (.ok .ct Γ M) = .ok .ct Γ M := (rfl)
@[simp] theorem kSeq_exc (C : Nat) (fs : List (Nat × D)) : kSeq b (.exc C fs Γ M) = .exc C fs Γ M := (rfl)
@[simp] theorem e_next : vNext Γ M = .ok .nx Γ M := (rfl)
@[simp] theorem e_brk : vBrk Γ M = .ok .bk Γ M := (rfl)
@[simp] theorem e_cont : vCont Γ M = .ok .ct Γ M := (rfl)
@[simp] theorem e_drop : vDrop f Γ M = (f Γ M).bindS Γ fun _ M1 => .ok .nx Γ M1 := (rfl)
@[simp] theorem e_ret : vRet f Γ M = (f Γ M).bindS Γ fun r M1 => .ok (.rt r) Γ M1 := (rfl)
@[simp] theorem e_retN : vRetN Γ M = .ok (.rt (.t .non)) Γ M := (rfl)
@[simp] theorem e_ifS : vIfS t a b Γ M = (t Γ M).bindS Γ fun c M1 => kIfS a b c Γ M1 := (rfl)
@[simp] theorem kIfS_t : kIfS a b true = a := (rfl)
@[simp] theorem kIfS_f : kIfS a b false = b := (rfl)
@[simp] theorem e_asg : vAsg f tg Γ M = (f Γ M).bindS Γ fun r M1 => tg r.w Γ M1 := (rfl)
@[simp] theorem e_new (i : Nat) : vNew i f Γ M = (f Γ M).bindS Γ fun r M1 => kNew i r Γ M1 := (rfl)
@[simp] theorem kNew_f (i : Nat) (xs : List D) : kNew i (.f (.lst xs)) Γ M = .ok .nx (Γ.set i (some (.l M.length))) (M ++ [.lst xs]) := (rfl)
@[simp] theorem kNew_l (i n : Nat) : kNew i (.l n) Γ M = .ok .nx (Γ.set i (some (.l n))) M := (rfl)
@[simp] theorem e_tgN (i : Nat) (w : Wv) : tgN i w Γ M = .ok .nx (Γ.set i (some w)) M := (rfl)
theorem e_tgTup (n : Nat) (v : SemGs) (ds : List D) : tgTup n v (.t (.tup ds)) Γ M = if ds.length = n then v (ds.map .t) Γ M else .bad := rfl
@[simp] theorem e_tgTup2 (v : SemGs) (a b : D) : tgTup 2 v (.t (.tup [a, b])) Γ M = v [.t a, .t b] Γ M := (rfl)
@[simp] theorem e_tgTup3 (v : SemGs) (a b c : D) : tgTup 3 v (.t (.tup [a, b, c])) Γ M = v [.t a, .t b, .t c] Γ M := (rfl)
@[simp] theorem e_tgTup4 (v : SemGs) (a b c d : D) : tgTup 4 v (.t (.tup [a, b, c, d])) Γ M = v [.t a, .t b, .t c, .t d] Γ M := (rfl)
@[simp] theorem e_tgsNil : tgsNil [] Γ M = .ok .nx Γ M := (rfl)
@[simp] theorem e_tgsCons (v : SemGs) (w : Wv) (ws : List Wv) : tgsCons tg v (w :: ws) Γ M = kSeq (v ws) (tg w Γ M) := (rfl)
@[simp] theorem e_tgI (w : Wv) : tgI f g w Γ M = (f Γ M).bindS Γ fun r M1 => (g Γ M1).bindS Γ fun r2 M2 => kOpt Γ (kSetI w r.w r2.w M2) := (rfl)
@[simp] theorem kOpt_s : kOpt Γ (some M) = .ok .nx Γ M := (rfl)
theorem kSetI_nat {n : Nat} {xs : List D} {d : D} {i : Int} {k : Nat} (e : M[n]? = some (.lst xs)) (ei : i = (k : Int)) (hk : k < xs.length) : kSetI (.t d) (.l n) (.t (.int i)) M = some (M.set n (.lst (xs.set k d))) := by
  subst ei
  unfold kSetI
  dsimp only
  rw [e]
  dsimp only
  unfold ixN
  rw [if_pos (by omega), if_pos (by omega)]
  simp
theorem kSetI_neg {n : Nat} {xs : List D} {d : D} {i : Int} {k : Nat} (e : M[n]? = some (.lst xs)) (ei : i = -(k : Int)) (h0 : 0 < k) (hk : k ≤ xs.length) : kSetI (.t d) (.l n) (.t (.int i)) M = some (M.set n (.lst (xs.set (xs.length - k) d))) := by
  subst ei
  unfold kSetI
  dsimp only
  rw [e]
  dsimp only
  unfold ixN
  rw [if_neg (by omega), if_pos (by omega)]
  have e2 : (-(k : Int) + (xs.length : Int)).toNat = xs.length - k := by omega
  rw [e2]
/-! ### methods of lists -/
def kMtC (op : Nat → List Wv → Store → Res Rv) (g : ES (List Wv)) (n : Nat) (Γ : VEnv) (M : Store) : Option Cel → Res Rv
  | some (.lst _) => (g Γ M).bind fun as M2 => op n as M2
  | _ => .bad
@[simp] theorem e_mt (op : Nat → List Wv → Store → Res Rv) (g : ES (List Wv)) : vMt op f g Γ M = (f Γ M).bind fun r M1 => kMt op g r Γ M1 := (rfl)
@[simp] theorem kMt_l (op : Nat → List Wv → Store → Res Rv) (g : ES (List Wv)) (n : Nat) : kMt op g (.l n) Γ M = kMtC op g n Γ M M[n]? := by
  unfold kMt kMtC
  dsimp only
  all_goals (cases M[n]? with
    | none => rfl
    | some x => cases x <;> rfl)
@[simp] theorem kMtC_s (op : Nat → List Wv → Store → Res Rv) (g : ES (List Wv)) (n : Nat) (xs : List D) : kMtC op g n Γ M (some (.lst xs)) = (g Γ M).bind fun as M2 => op n as M2 := (rfl)
theorem e_append {n : Nat} {xs : List D} {d : D} (e : M[n]? = some (.lst xs)) (hl : xs.length < 16777216) : mAppend n [.t d] M = .ok (.t .non) (M.set n (.lst (xs ++ [d]))) := by
  unfold mAppend; rw [e]; exact if_pos hl
theorem e_pop {n : Nat} {xs : List D} {d : D} (e : M[n]? = some (.lst xs)) (hl : xs[xs.length - 1]? = some d) : mPop n [] M = .ok (.t d) (M.set n (.lst xs.dropLast)) := by
  unfold mPop; rw [e]; dsimp only; rw [hl]
/-! ### calls -/
theorem okL_mono {m k : Nat} (hk : m ≤ k) {M : Store} (hh : okL m M = true) : okL k M = true := by
  unfold okL at hh ⊢
  rw [List.all_eq_true] at hh ⊢
  intro x hx
  have := hh x hx
  cases x with
  | obj C fs =>
    simp only [Cel.below, List.all_eq_true] at this ⊢
    intro p hp
    have q := this p hp
    obtain ⟨f, w⟩ := p
    cases w with
    | t d => rfl
    | l n => exact decide_eq_true (Nat.lt_of_lt_of_le (of_decide_eq_true q) hk)
  | opq t j as ds =>
    simp only [Cel.below, List.all_eq_true] at this ⊢
    exact fun n hn => decide_eq_true (Nat.lt_of_lt_of_le (of_decide_eq_true (this n hn)) hk)
  | _ => rfl
/-- no cell tells of a cell -/
def Pl (M : Store) : Prop := okL 0 M = true
theorem Pl.ok {M : Store} (hh : Pl M) (m : Nat) : okL m M = true := okL_mono (Nat.zero_le m) hh
theorem Pl.take {M : Store} (hh : Pl M) (m : Nat) : Pl (M.take m) := by
  unfold Pl okL at hh ⊢
  rw [List.all_eq_true] at hh ⊢
  exact fun x hx => hh x (List.mem_of_mem_take hx)
theorem Pl.append {M N : Store} (h1 : Pl M) (h2 : Pl N) : Pl (M ++ N) := by
  unfold Pl okL at h1 h2 ⊢
  rw [List.all_append, h1, h2]; rfl
theorem Pl.left {M N : Store} (hh : Pl (M ++ N)) : Pl M := by
  unfold Pl okL at hh ⊢
  rw [List.all_append, Bool.and_eq_true] at hh
  exact hh.1
theorem Pl.nil : Pl [] := rfl
theorem Pl.lst {xs : List D} {M : Store} (hh : Pl M) : Pl (.lst xs :: M) := by
  unfold Pl okL at hh ⊢
  rw [List.all_cons, hh]; rfl
theorem Pl.dead {M : Store} (hh : Pl M) : Pl (.dead :: M) := by
  unfold Pl okL at hh ⊢
  rw [List.all_cons, hh]; rfl
theorem Pl.set {M : Store} {n : Nat} {xs : List D} (hh : Pl M) : Pl (M.set n (.lst xs)) := by
  unfold Pl okL at hh ⊢
  rw [List.all_eq_true] at hh ⊢
  intro x hx
  rcases List.mem_or_eq_of_mem_set hx with q | q
  · exact hh x q
  · subst q; rfl
theorem cutM_same {m : Nat} {M : Store} (e : M.length = m) : cutM m M = M := by
  unfold cutM
  split
  · rw [← e, List.take_length]
  · rfl
theorem cutM_app {M N : Store} (hp : Pl M) {m : Nat} (e : M.length = m) : cutM m (M ++ N) = M := by
  unfold cutM
  subst e
  rw [List.take_append_of_le_length (Nat.le_refl _), List.take_length, if_pos]
  exact ⟨by rw [List.length_append]; omega, hp.ok _⟩
@[simp] theorem fnEnd_nx (m : Nat) : fnEnd m (.ok .nx Γ M) = .ok (.t .non) (cutM m M) := (rfl)
@[simp] theorem fnEnd_rt (m : Nat) (r : Rv) : fnEnd m (.ok (.rt r) Γ M) = .ok r (outM m r M) := (rfl)
@[simp] theorem fnEnd_exc (m C : Nat) (fs : List (Nat × D)) : fnEnd m (.exc C fs Γ M) = .exc C fs (cutM m M) := (rfl)
@[simp] theorem outM_t (m : Nat) (d : D) : outM m (.t d) M = cutM m M := (rfl)
@[simp] theorem outM_f (m : Nat) (d : D) : outM m (.f d) M = cutM m M := (rfl)
theorem fnSem_ap (n N : Nat) (m : SemS) (ws : List Wv) (M : Store) : fnSem n N m ws M = fnEnd M.length (m (ws.map some ++ List.replicate (N - n) none) M) := rfl
end
/-! ### loops -/
@[simp] theorem cIf_true {α : Type} {p : Prop} (a b : α) (hp : p) : cIf p a b = a := cIf_pos hp
@[simp] theorem chk_none (ds : List D) (M : Store) : Src.chk ⟨ds, none⟩ M := trivial
theorem trimS_same {k : Nat} {Γ : VEnv} {M : Store} {g : VEnv → Store → RS} (e : M.length = k) : trimS k Γ M g = g Γ M := if_pos e
/-- one turn of a for -/
def turnR (t : SemG) (body : SemS) (d : D) (Γ : VEnv) (M : Store) : RS := match t (.t d) Γ M with
  | .ok .nx Γ1 M1 => body Γ1 M1
  | _ => .bad
/-- THE RULE OF FOR: an invariant; a turn goes on, returns or raises -/
theorem for_rule {ds : List D} {t : SemG} {body : SemS} {m0 : Nat} (I : Nat → VEnv → Store → Prop) (Q : RS → Prop) (hm : ∀ i Γ M, I i Γ M → M.length = m0)
    (step : ∀ i d Γ M, ds[i]? = some d → I i Γ M → (∃ Γ' M', (turnR t body d Γ M = .ok .nx Γ' M' ∨ turnR t body d Γ M = .ok .ct Γ' M') ∧ I (i + 1) Γ' M') ∨
      (∃ r Γ' M', turnR t body d Γ M = .ok (.rt r) Γ' M' ∧ Q (.ok (.rt r) Γ' M')) ∨ ∃ C fs Γ' M', turnR t body d Γ M = .exc C fs Γ' M' ∧ Q (.exc C fs Γ' M')) :
    ∀ {Γ : VEnv} {M : Store}, I 0 Γ M → (∃ Γ' M', forL ⟨ds, none⟩ t body m0 ds Γ M = .ok .nx Γ' M' ∧ I ds.length Γ' M') ∨ Q (forL ⟨ds, none⟩ t body m0 ds Γ M) := by
  have key : ∀ (k i : Nat), i + k = ds.length → ∀ {Γ : VEnv} {M : Store}, I i Γ M → (∃ Γ' M', forL ⟨ds, none⟩ t body m0 (ds.drop i) Γ M = .ok .nx Γ' M' ∧ I ds.length Γ' M') ∨ Q (forL ⟨ds, none⟩ t body m0 (ds.drop i) Γ M) := by
    intro k
    induction k with
    | zero =>
      intro i hi Γ M hI
      have e : i = ds.length := by omega
      subst e
      rw [List.drop_length]
      unfold forL
      rw [cIf_pos (chk_none _ _)]
      exact .inl ⟨Γ, M, rfl, hI⟩
    | succ k ih =>
      intro i hi Γ M hI
      have hlt : i < ds.length := by omega
      rw [List.drop_eq_getElem_cons hlt]
      unfold forL
      rw [cIf_pos (chk_none _ _)]
      have st := step i ds[i] Γ M (List.getElem?_eq_getElem hlt) hI
      unfold turnR at st
      cases e1 : t (.t ds[i]) Γ M with
      | bad => rw [e1] at st; simp at st
      | exc C fs Γ1 M1 => rw [e1] at st; simp at st
      | ok fl Γ1 M1 =>
        rw [e1] at st
        cases fl with
        | bk => simp at st
        | ct => simp at st
        | rt r => simp at st
        | nx =>
          dsimp only at st ⊢
          rcases st with ⟨Γ', M', h1 | h1, h2⟩ | ⟨r, Γ', M', h1, h2⟩ | ⟨C, fs, Γ', M', h1, h2⟩
          · rw [h1]
            dsimp only
            rw [trimS_same (hm _ _ _ h2)]
            exact ih (i + 1) (by omega) h2
          · rw [h1]
            dsimp only
            rw [trimS_same (hm _ _ _ h2)]
            exact ih (i + 1) (by omega) h2
          · rw [h1]; exact .inr h2
          · rw [h1]; exact .inr h2
  intro Γ M hI
  exact key ds.length 0 (by omega) hI
/-- a for that only goes on -/
theorem for_all {ds : List D} {t : SemG} {body : SemS} {m0 : Nat} (I : Nat → VEnv → Store → Prop) (hm : ∀ i Γ M, I i Γ M → M.length = m0)
    (step : ∀ i d Γ M, ds[i]? = some d → I i Γ M → ∃ Γ' M', turnR t body d Γ M = .ok .nx Γ' M' ∧ I (i + 1) Γ' M') {Γ : VEnv} {M : Store} (h0 : I 0 Γ M) :
    ∃ Γ' M', forL ⟨ds, none⟩ t body m0 ds Γ M = .ok .nx Γ' M' ∧ I ds.length Γ' M' := by
  rcases for_rule I (fun _ => False) hm (fun i d Γ M hd hI => let ⟨Γ', M', a, b⟩ := step i d Γ M hd hI; .inl ⟨Γ', M', .inl a, b⟩) h0 with h | h
  · exact h
  · exact h.elim
@[simp] theorem e_for (src : ES Src) (t : SemG) (body : SemS) (Γ : VEnv) (M : Store) : vFor src t body Γ M = (src Γ M).bindS Γ fun s M1 => forL s t body M1.length s.ds Γ M1 := (rfl)
@[simp] theorem e_srcA (f : SemE) (Γ : VEnv) (M : Store) : vSrcA f Γ M = (f Γ M).bind kSrcA := (rfl)
@[simp] theorem kSrcA_tup (xs : List D) (M : Store) : kSrcA (.t (.tup xs)) M = .ok ⟨xs, none⟩ M := (rfl)
@[simp] theorem kSrcA_tl (xs : List D) (M : Store) : kSrcA (.t (.lst xs)) M = .ok ⟨xs, none⟩ M := (rfl)
@[simp] theorem kSrcA_f (xs : List D) (M : Store) : kSrcA (.f (.lst xs)) M = .ok ⟨xs, none⟩ M := (rfl)
@[simp] theorem e_range1 (g : ES (List Wv)) (Γ : VEnv) (M : Store) : vRange1 g Γ M = (g Γ M).bind kRange1 := (rfl)
@[simp] theorem e_range2 (g : ES (List Wv)) (Γ : VEnv) (M : Store) : vRange2 g Γ M = (g Γ M).bind kRange2 := (rfl)
theorem kRange1_of {j : Int} {M : Store} (h1 : -4611686018427387904 ≤ j) (h2 : j < 4611686018427387904) : kRange1 [.t (.int j)] M = .ok ⟨rangeD 0 j.toNat, none⟩ M := if_pos ⟨h1, h2⟩
theorem kRange2_of {i j : Int} {M : Store} (h1 : -4611686018427387904 ≤ i) (h2 : i < 4611686018427387904) (h3 : -4611686018427387904 ≤ j) (h4 : j < 4611686018427387904) : kRange2 [.t (.int i), .t (.int j)] M = .ok ⟨rangeD i (j - i).toNat, none⟩ M := if_pos ⟨⟨h1, h2⟩, h3, h4⟩
theorem rangeD_len (lo : Int) (n : Nat) : (rangeD lo n).length = n := by simp [rangeD]
theorem rangeD_get0 {n i : Nat} {d : D} (hd : (rangeD 0 n)[i]? = some d) : i < n ∧ d = .int (i : Int) := by
  have hl := (List.getElem?_eq_some_iff.mp hd).1
  rw [rangeD_len] at hl
  refine ⟨hl, ?_⟩
  unfold rangeD at hd
  rw [List.getElem?_map, List.getElem?_range hl] at hd
  cases hd
  simp
theorem rangeD_get {lo : Int} {n i : Nat} {d : D} (hd : (rangeD lo n)[i]? = some d) : i < n ∧ d = .int (lo + (i : Int)) := by
  have hl := (List.getElem?_eq_some_iff.mp hd).1
  rw [rangeD_len] at hl
  refine ⟨hl, ?_⟩
  unfold rangeD at hd
  rw [List.getElem?_map, List.getElem?_range hl] at hd
  cases hd
  rfl
/-! ### while -/
theorem while_rule {t : ES Bool} {body : SemS} (I : Nat → VEnv → Store → Prop) (Q : VEnv → Store → Prop) {m0 : Nat} (hm : ∀ n Γ M, I n Γ M → M.length = m0)
    (step : ∀ n Γ M, I n Γ M → (t Γ M = .ok false M ∧ Q Γ M) ∨ (t Γ M = .ok true M ∧ ∃ k Γ' M', k < n ∧ body Γ M = .ok .nx Γ' M' ∧ I k Γ' M')) :
    ∀ {n : Nat} {Γ : VEnv} {M : Store}, I n Γ M → ∃ Γ' M', vWhile t body Γ M = .ok .nx Γ' M' ∧ Q Γ' M' := by
  have key : ∀ (n : Nat) {Γ : VEnv} {M : Store}, I n Γ M → ∃ j Γ' M', whileN t body m0 j Γ M = some (.ok .nx Γ' M') ∧ Q Γ' M' := by
    intro n
    induction n using Nat.strongRecOn with
    | _ n ih =>
      intro Γ M hI
      rcases step n Γ M hI with ⟨h1, h2⟩ | ⟨h1, k, Γ', M', hk, h2, h3⟩
      · exact ⟨1, Γ, M, by unfold whileN; rw [h1], h2⟩
      · obtain ⟨j, Γ2, M2, e, q⟩ := ih k hk h3
        refine ⟨j + 1, Γ2, M2, ?_, q⟩
        unfold whileN
        rw [h1]
        dsimp only
        rw [h2]
        dsimp only
        rw [if_pos (hm _ _ _ h3)]
        exact e
  intro n Γ M hI
  obtain ⟨j, Γ', M', e, q⟩ := key n hI
  refine ⟨Γ', M', ?_, q⟩
  rw [← hm _ _ _ hI] at e
  exact vWhile_eq e
@[simp] theorem e_aug (i : Nat) (f : Int → Int → Int) (g : SemE) (Γ : VEnv) (M : Store) : vAug i f g Γ M = (match Γ[i]? with | some (some w) => (g Γ M).bindS Γ fun r M1 => kAug i f w r Γ M1 | _ => .bad) := (rfl)
@[simp] theorem kAug_ii (i : Nat) (f : Int → Int → Int) (a b : Int) (Γ : VEnv) (M : Store) : kAug i f (.t (.int a)) (.t (.int b)) Γ M = .ok .nx (Γ.set i (some (.t (.int (f a b))))) M := (rfl)
/-! ### chains of comparisons -/
@[simp] theorem e_chain2 (o o' : Op2) (f g h : SemE) (Γ : VEnv) (M : Store) : vChain2 o o' f g h Γ M = (f Γ M).bind fun r1 M1 => (g Γ M1).bind fun r2 M2 => (o r1.w r2.w M2).bind fun r M3 => kChain o' h r2.w r Γ M3 := (rfl)
def kCh (o' : Op2) (h : SemE) (w2 : Wv) (b : Bool) (Γ : VEnv) (M : Store) : Res Rv := if b = true then (h Γ M).bind fun r3 M3 => o' w2 r3.w M3 else .ok (.t (.bl false)) M
@[simp] theorem kChain_bl (o' : Op2) (h : SemE) (w2 : Wv) (b : Bool) (Γ : VEnv) (M : Store) : kChain o' h w2 (.t (.bl b)) Γ M = kCh o' h w2 b Γ M := by cases b <;> rfl
@[simp] theorem kCh_t (o' : Op2) (h : SemE) (w2 : Wv) (Γ : VEnv) (M : Store) : kCh o' h w2 true Γ M = (h Γ M).bind fun r3 M3 => o' w2 r3.w M3 := (rfl)
@[simp] theorem kCh_f (o' : Op2) (h : SemE) (w2 : Wv) (Γ : VEnv) (M : Store) : kCh o' h w2 false Γ M = .ok (.t (.bl false)) M := (rfl)
/-! ### the last item -/
@[simp] theorem atI_last {α : Type} (xs : List α) (y : α) : L2.atI (xs ++ [y]) (-1) = some y := by
  rw [atI_neg (i := -1) (k := 1) rfl (by omega) (by simp)]
  simp
theorem kSetI_last {M : Store} {n : Nat} {xs : List D} {y d : D} (e : M[n]? = some (.lst (xs ++ [y]))) : kSetI (.t d) (.l n) (.t (.int (-1))) M = some (M.set n (.lst (xs ++ [d]))) := by
  rw [kSetI_neg (i := -1) (k := 1) e rfl (by omega) (by simp)]
  congr 3
  simp
end VL

set_option Elab.async false
set_option linter.all false
set_option maxRecDepth 100000
set_option maxHeartbeats 400000
/-! VL23: comprehensions, pools, bounds. -/
namespace VL
open PySem PySem.Spec PyProof.Rows L2
@[simp] theorem e_comp (src : ES Src) (b : Bd) (own : List Nat) (cond : ES Bool) (elt : SemE) (Γ : VEnv) (M : Store) : vComp src b own cond elt Γ M = (src Γ M).bind fun s M1 => compL s b cond elt M1.length (wipeE Γ own) s.ds (M1 ++ [.lst []]) := (rfl)
@[simp] theorem e_yes (Γ : VEnv) (M : Store) : vYes Γ M = .ok true M := (rfl)
@[simp] theorem wipeE_nil (Γ : VEnv) : wipeE Γ [] = Γ := (rfl)
@[simp] theorem wipeE_cons (Γ : VEnv) (v : Nat) (vs : List Nat) : wipeE Γ (v :: vs) = (wipeE Γ vs).set v none := (rfl)
@[simp] theorem bind_nm (i : Nat) (d : D) (Γ : VEnv) : Bd.bind (.nm i) d Γ = some (Γ.set i (some (.t d))) := (rfl)
@[simp] theorem bind_tup2 (i j : Nat) (d e : D) (Γ : VEnv) : Bd.bind (.tup [i, j]) (.tup [d, e]) Γ = some ((Γ.set i (some (.t d))).set j (some (.t e))) := (rfl)
/-- THE RULE OF COMPREHENSIONS -/
theorem comp_rule {ds : List D} {b : Bd} {cond : ES Bool} {elt : SemE} {k : Nat} {Γ : VEnv} (J : Nat → List D → Store → Prop) (hm : ∀ i acc M, J i acc M → M.length = k ∧ Pl M ∧ acc.length ≤ i) (hl : ds.length ≤ 16777216)
    (step : ∀ i d acc M, ds[i]? = some d → J i acc M → ∃ Γ1, b.bind d Γ = some Γ1 ∧ ((∃ M1, cond Γ1 (M ++ [.lst acc]) = .ok false (M1 ++ [.lst acc]) ∧ J (i + 1) acc M1) ∨
      ∃ M1 r e M2, cond Γ1 (M ++ [.lst acc]) = .ok true M1 ∧ elt Γ1 M1 = .ok r (M2 ++ [.lst acc]) ∧ r.w = .t e ∧ J (i + 1) (acc ++ [e]) M2)) :
    ∀ {M : Store}, J 0 [] M → ∃ acc M', compL ⟨ds, none⟩ b cond elt k Γ ds (M ++ [.lst []]) = .ok (.f (.lst acc)) M' ∧ J ds.length acc M' := by
  have key : ∀ (n i : Nat), i + n = ds.length → ∀ {acc : List D} {M : Store}, J i acc M → ∃ acc' M', compL ⟨ds, none⟩ b cond elt k Γ (ds.drop i) (M ++ [.lst acc]) = .ok (.f (.lst acc')) M' ∧ J ds.length acc' M' := by
    intro n
    induction n with
    | zero =>
      intro i hi acc M hJ
      have e : i = ds.length := by omega
      subst e
      rw [List.drop_length]
      unfold compL
      rw [cIf_pos (chk_none _ _)]
      obtain ⟨h1, h2, h3⟩ := hm _ _ _ hJ
      have g1 : (M ++ [Cel.lst acc])[k]? = some (.lst acc) := by rw [← h1]; simp
      rw [g1]
      dsimp only
      have g2 : (M ++ [Cel.lst acc]).take k = M := by rw [← h1]; simp
      rw [if_pos ⟨by simp [h1], by rw [g2]; exact h2.ok _⟩, g2]
      exact ⟨acc, M, rfl, hJ⟩
    | succ n ih =>
      intro i hi acc M hJ
      have hlt : i < ds.length := by omega
      rw [List.drop_eq_getElem_cons hlt]
      unfold compL
      rw [cIf_pos (chk_none _ _)]
      obtain ⟨h1, h2, h3⟩ := hm _ _ _ hJ
      obtain ⟨Γ1, eb, ⟨M1, ec, hJ1⟩ | ⟨M1, r, e, M2, ec, ee, er, hJ2⟩⟩ := step i ds[i] acc M (List.getElem?_eq_getElem hlt) hJ
      · rw [eb]
        dsimp only
        rw [ec]
        dsimp only
        obtain ⟨q1, q2, q3⟩ := hm _ _ _ hJ1
        rw [if_pos (by simp [q1])]
        exact ih (i + 1) (by omega) hJ1
      · rw [eb]
        dsimp only
        rw [ec]
        dsimp only
        rw [ee]
        dsimp only
        obtain ⟨q1, q2, q3⟩ := hm _ _ _ hJ2
        unfold kElt
        have g1 : (M2 ++ [Cel.lst acc])[k]? = some (.lst acc) := by rw [← q1]; simp
        rw [er, g1]
        dsimp only
        rw [if_pos (by omega), if_pos (by simp [q1])]
        have g2 : (M2 ++ [Cel.lst acc]).set k (.lst (acc ++ [e])) = M2 ++ [.lst (acc ++ [e])] := by rw [← q1]; simp
        rw [g2]
        exact ih (i + 1) (by omega) hJ2
  intro M hJ
  exact key ds.length 0 (by omega) hJ
/-- a comprehension that changes nothing -/
theorem comp_pure {ds : List D} {b : Bd} {cond : ES Bool} {elt : SemE} {Γ : VEnv} {M : Store} (p : D → Bool) (F : D → D) (hM : Pl M) (hl : ds.length ≤ 16777216)
    (step : ∀ d acc, d ∈ ds → ∃ Γ1, b.bind d Γ = some Γ1 ∧ cond Γ1 (M ++ [.lst acc]) = .ok (p d) (M ++ [.lst acc]) ∧ (p d = true → ∃ r, elt Γ1 (M ++ [.lst acc]) = .ok r (M ++ [.lst acc]) ∧ r.w = .t (F d))) :
    compL ⟨ds, none⟩ b cond elt M.length Γ ds (M ++ [.lst []]) = .ok (.f (.lst ((ds.filter p).map F))) M := by
  obtain ⟨acc, M', h1, h2, h3⟩ := comp_rule (ds := ds) (b := b) (cond := cond) (elt := elt) (k := M.length) (Γ := Γ) (fun i acc M' => acc = ((ds.take i).filter p).map F ∧ M' = M)
    (fun i acc M' ⟨h1, h2⟩ => ⟨by rw [h2], by rw [h2]; exact hM, by
      rw [h1, List.length_map]
      exact Nat.le_trans (List.length_filter_le _ _) (by rw [List.length_take]; exact Nat.min_le_left _ _)⟩) hl
    (fun i d acc M' hd ⟨h1, h2⟩ => by
      subst h2
      obtain ⟨Γ1, e1, e2, e3⟩ := step d acc (List.mem_of_getElem? hd)
      refine ⟨Γ1, e1, ?_⟩
      have ht : ds.take (i + 1) = ds.take i ++ [d] := by rw [List.take_add_one, hd]; rfl
      cases hp : p d with
      | false =>
        refine .inl ⟨M', by rw [e2, hp], ?_, rfl⟩
        rw [ht, List.filter_append, h1]
        simp [hp]
      | true =>
        obtain ⟨r, q1, q2⟩ := e3 hp
        refine .inr ⟨_, r, F d, M', by rw [e2, hp], q1, q2, ?_, rfl⟩
        rw [ht, List.filter_append, h1]
        simp [hp])
    (M := M) ⟨by simp, rfl⟩
  rw [h1, h2, h3, List.take_length]
theorem comp_ints {xs : List Int} {j k : Nat} {elt : SemE} {Γ : VEnv} {M : Store} (f : Int → Int) (hM : Pl M) (hk : M.length = k) (hl : xs.length ≤ 16777216)
    (step : ∀ i acc, i ∈ xs → elt (Γ.set j (some (.t (.int i)))) (M ++ [.lst acc]) = .ok (.t (.int (f i))) (M ++ [.lst acc])) :
    compL ⟨xs.map .int, none⟩ (.nm j) vYes elt k Γ (xs.map .int) (M ++ [.lst []]) = .ok (.f (.lst ((xs.map f).map .int))) M := by
  subst hk
  have h := comp_pure (ds := xs.map D.int) (b := .nm j) (cond := vYes) (elt := elt) (Γ := Γ) (M := M) (fun _ => true) (fun d => match d with | .int i => .int (f i) | d => d) hM (by simpa using hl) (fun d acc hd => by
    obtain ⟨i, hi, rfl⟩ := List.mem_map.mp hd
    exact ⟨_, rfl, rfl, fun _ => ⟨_, step i acc hi, rfl⟩⟩)
  rw [h, List.filter_eq_self.mpr (fun _ _ => rfl), List.map_map, List.map_map]
  rfl
/-! ### pools -/
/-- a pool of draws stands at n -/
def Pool (M : Store) (n : Nat) : Prop := ∃ ps : List Int, ps ≠ [] ∧ (∀ x ∈ ps, 0 ≤ x) ∧ M[n]? = some (.lst (ps.map .int))
/-- from M to M' only the pool at n changed -/
def Pst (n : Nat) (M M' : Store) : Prop := Pool M' n ∧ ∃ ps : List Int, M' = M.set n (.lst (ps.map .int))
theorem Pool.lt {M : Store} {n : Nat} (h : Pool M n) : n < M.length := let ⟨_, _, _, e⟩ := h; (List.getElem?_eq_some_iff.mp e).1
theorem Pst.refl {M : Store} {n : Nat} (h : Pool M n) : Pst n M M := by
  refine ⟨h, ?_⟩
  obtain ⟨ps, _, _, e⟩ := h
  refine ⟨ps, ?_⟩
  refine (List.ext_getElem? fun j => ?_)
  by_cases hj : n = j
  · subst hj
    rw [List.getElem?_set_self (List.getElem?_eq_some_iff.mp e).1, e]
  · rw [List.getElem?_set_ne hj]
theorem Pst.trans {M M1 M2 : Store} {n : Nat} (a : Pst n M M1) (b : Pst n M1 M2) : Pst n M M2 := by
  obtain ⟨_, ps, e⟩ := a
  obtain ⟨h, qs, e'⟩ := b
  exact ⟨h, qs, by rw [e', e, List.set_set]⟩
theorem Pst.len {M M' : Store} {n : Nat} (a : Pst n M M') : M'.length = M.length := by
  obtain ⟨_, ps, e⟩ := a
  rw [e, List.length_set]
theorem Pst.pl {M M' : Store} {n : Nat} (a : Pst n M M') (h : Pl M) : Pl M' := by
  obtain ⟨_, ps, e⟩ := a
  rw [e]; exact h.set
theorem Pst.pool {M M' : Store} {n : Nat} (a : Pst n M M') : Pool M' n := a.1
theorem Pst.get {M M' : Store} {n k : Nat} (a : Pst n M M') (h : n ≠ k) : M'[k]? = M[k]? := by
  obtain ⟨_, ps, e⟩ := a
  rw [e, List.getElem?_set_ne h]
theorem Pool.app {M T : Store} {n : Nat} (h : Pool M n) : Pool (M ++ T) n := by
  obtain ⟨ps, h1, h2, e⟩ := h
  exact ⟨ps, h1, h2, by rw [List.getElem?_append_left (List.getElem?_eq_some_iff.mp e).1]; exact e⟩
/-- draws while cells stand behind -/
theorem Pst.app {M T M' : Store} {n : Nat} (hn : n < M.length) (a : Pst n (M ++ T) M') : ∃ M1, M' = M1 ++ T ∧ Pst n M M1 := by
  obtain ⟨⟨qs, h1, h2, h3⟩, ps, e⟩ := a
  have e2 : M' = M.set n (.lst (ps.map .int)) ++ T := by rw [e, List.set_append_left _ _ hn]
  refine ⟨_, e2, ⟨qs, h1, h2, ?_⟩, ps, rfl⟩
  rw [e2, List.getElem?_append_left (by rw [List.length_set]; exact hn)] at h3
  exact h3
/-! ### bounds -/
theorem log2_lt {n k : Nat} (h : n < 2 ^ k) (hk : 0 < k) : n.log2 < k := by
  by_cases h0 : n = 0
  · subst h0; exact hk
  · exact (Nat.log2_lt h0).mpr h
theorem log2_mono {n m : Nat} (h : n ≤ m) : n.log2 ≤ m.log2 := by
  by_cases h0 : n = 0
  · subst h0; exact Nat.zero_le _
  · have : n < 2 ^ (m.log2 + 1) := Nat.lt_of_le_of_lt h Nat.lt_log2_self
    have := (Nat.log2_lt h0).mpr this
    omega
theorem e_timesB {M : Store} {i j : Int} {k l : Nat} (hi : i.natAbs < 2 ^ k) (hj : j.natAbs < 2 ^ l) (hk : 0 < k) (hl : 0 < l) (hs : k + l ≤ 1000000) : oTimes (.t (.int i)) (.t (.int j)) M = .ok (.t (.int (i * j))) M :=
  e_times (by have := log2_lt hi hk; have := log2_lt hj hl; omega)
/-- .. of numbers below 2^62 -/
theorem e_times62 {M : Store} {i j : Int} (hi : i.natAbs < 4611686018427387904) (hj : j.natAbs < 4611686018427387904) : oTimes (.t (.int i)) (.t (.int j)) M = .ok (.t (.int (i * j))) M :=
  e_timesB (k := 62) (l := 62) hi hj (by omega) (by omega) (by omega)
theorem e_fdiv62 {M : Store} {i j : Int} (hj : 0 < j) (hl : j < 4611686018427387904) : oFdiv (.t (.int i)) (.t (.int j)) M = .ok (.t (.int (i / j))) M :=
  e_fdiv hj (by have := log2_lt (n := j.natAbs) (k := 62) (by omega) (by omega); omega)
/-! ### == of data -/
mutual
/-- no instance, strings of plain signs, at most n deep -/
def shp : Nat → D → Bool
  | _, .non => true
  | _, .bl _ => true
  | _, .int _ => true
  | _, .str x => PyData.strOk x
  | n + 1, .lst xs => shps n xs
  | n + 1, .scr xs => shps n xs
  | n + 1, .tup xs => shps n xs
  | _, _ => false
def shps : Nat → List D → Bool
  | _, [] => true
  | n, d :: ds => shp n d && shps n ds
end
mutual
theorem shp_ok : ∀ (n : Nat) (d : D), shp n d = true → PyData.canLay0 d.py = true ∧ d.py.depth ≤ n
  | _, .non, _ => ⟨by rw [D.py, PyData.canLay0], by rw [D.py, PyData.depth]; omega⟩
  | _, .bl _, _ => ⟨by rw [D.py, PyData.canLay0], by rw [D.py, PyData.depth]; omega⟩
  | _, .int _, _ => ⟨by rw [D.py, PyData.canLay0], by rw [D.py, PyData.depth]; omega⟩
  | _, .str x, h => ⟨by rw [D.py, PyData.canLay0]; simpa [shp] using h, by rw [D.py, PyData.depth]; omega⟩
  | n + 1, .lst xs, h => by
    obtain ⟨h1, h2⟩ := shps_ok n xs (by simpa [shp] using h)
    exact ⟨by rw [D.py, PyData.canLay0]; exact h1, by rw [D.py, PyData.depth]; omega⟩
  | n + 1, .scr xs, h => by
    obtain ⟨h1, h2⟩ := shps_ok n xs (by simpa [shp] using h)
    exact ⟨by rw [D.py, PyData.canLay0]; exact h1, by rw [D.py, PyData.depth]; omega⟩
  | n + 1, .tup xs, h => by
    obtain ⟨h1, h2⟩ := shps_ok n xs (by simpa [shp] using h)
    exact ⟨by rw [D.py, PyData.canLay0]; exact h1, by rw [D.py, PyData.depth]; omega⟩
  | 0, .lst _, h => by simp [shp] at h
  | 0, .scr _, h => by simp [shp] at h
  | 0, .tup _, h => by simp [shp] at h
  | n, .ins _ _ _, h => by cases n <;> simp [shp] at h
theorem shps_ok : ∀ (n : Nat) (ds : List D), shps n ds = true → PyData.canLayAll0 (pys ds) = true ∧ PyData.depthAll (pys ds) ≤ n
  | n, [], _ => ⟨by rw [pys, PyData.canLayAll0], by rw [pys, PyData.depthAll]; omega⟩
  | n, d :: ds, h => by
    rw [shps, Bool.and_eq_true] at h
    obtain ⟨h1, h2⟩ := shp_ok n d h.1
    obtain ⟨h3, h4⟩ := shps_ok n ds h.2
    exact ⟨by rw [pys, PyData.canLayAll0, h1, h3]; rfl, by rw [pys, PyData.depthAll]; omega⟩
end
theorem shaped_of {n : Nat} {d : D} (h : shp n d = true) (hn : n ≤ 64) : SeqAt.shaped d.py = true := by
  obtain ⟨h1, h2⟩ := shp_ok n d h
  unfold SeqAt.shaped
  rw [h1, decide_eq_true (Nat.le_trans h2 hn)]; rfl
theorem shps_ints (n : Nat) (ns : List Int) : shps n (ns.map .int) = true := by
  induction ns with
  | nil => rw [List.map_nil, shps]
  | cons i ns ih => rw [List.map_cons, shps, ih, shp]; rfl
mutual
theorem eqv_self : ∀ (n : Nat) (d : D), shp n d = true → d.py.eqv d.py = true
  | _, .non, _ => by rw [D.py, PyData.eqv]
  | _, .bl b, _ => by rw [D.py, PyData.eqv]; simp
  | _, .int i, _ => by rw [D.py, PyData.eqv]; simp
  | _, .str x, _ => by rw [D.py, PyData.eqv]; simp
  | n + 1, .lst xs, h => by rw [D.py, PyData.eqv]; exact eqvs_self n xs (by simpa [shp] using h)
  | n + 1, .scr xs, h => by rw [D.py, PyData.eqv]; exact eqvs_self n xs (by simpa [shp] using h)
  | n + 1, .tup xs, h => by rw [D.py, PyData.eqv]; exact eqvs_self n xs (by simpa [shp] using h)
  | 0, .lst _, h => by simp [shp] at h
  | 0, .scr _, h => by simp [shp] at h
  | 0, .tup _, h => by simp [shp] at h
  | n, .ins _ _ _, h => by cases n <;> simp [shp] at h
theorem eqvs_self : ∀ (n : Nat) (ds : List D), shps n ds = true → PyData.eqvAll (pys ds) (pys ds) = true
  | n, [], _ => by rw [pys, PyData.eqvAll]
  | n, d :: ds, h => by
    rw [shps, Bool.and_eq_true] at h
    rw [pys, PyData.eqvAll, eqv_self n d h.1, eqvs_self n ds h.2]; rfl
end
theorem eqvs_ints : ∀ (xs ys : List Int), PyData.eqvAll (pys (xs.map .int)) (pys (ys.map .int)) = decide (xs = ys)
  | [], [] => by rw [List.map_nil, pys, PyData.eqvAll]; rfl
  | [], y :: ys => by rw [List.map_nil, List.map_cons, pys, pys, PyData.eqvAll]; rfl
  | x :: xs, [] => by rw [List.map_nil, List.map_cons, pys, pys, PyData.eqvAll]; rfl
  | x :: xs, y :: ys => by
    rw [List.map_cons, List.map_cons, pys, pys, PyData.eqvAll, eqvs_ints xs ys, D.py, D.py, PyData.eqv]
    by_cases h : x = y
    · subst h; simp
    · simp [h]
end VL

set_option Elab.async false
set_option linter.all false
set_option maxRecDepth 100000
set_option maxHeartbeats 400000
/-! VL24: cells by what stands at them. -/
namespace VL
open PySem PySem.Spec PyProof.Rows L2
section
variable {M T : Store} {k : Nat}
theorem getT (h : M.length = k) (j : Nat) : (M ++ T)[k + j]? = T[j]? := by
  subst h; rw [List.getElem?_append_right (by omega)]; congr 1; omega
theorem getT0 (h : M.length = k) : (M ++ T)[k]? = T[0]? := getT h 0
theorem setT (h : M.length = k) (j : Nat) (c : Cel) : (M ++ T).set (k + j) c = M ++ T.set j c := by
  subst h; rw [List.set_append_right _ _ (by omega)]; congr 2; omega
theorem setT0 (h : M.length = k) (c : Cel) : (M ++ T).set k c = M ++ T.set 0 c := setT h 0 c
def kApp (n : Nat) (d : D) (M : Store) : Option Cel → Res Rv
  | some (.lst xs) => if xs.length < 16777216 then .ok (.t .non) (M.set n (.lst (xs ++ [d]))) else .bad
  | _ => .bad
@[simp] theorem e_app (n : Nat) (d : D) : mAppend n [.t d] M = kApp n d M M[n]? := by
  unfold mAppend kApp
  cases M[n]? with
  | none => rfl
  | some x => cases x <;> rfl
theorem kApp_s {n : Nat} {d : D} {xs : List D} (h : xs.length < 16777216) : kApp n d M (some (.lst xs)) = .ok (.t .non) (M.set n (.lst (xs ++ [d]))) := if_pos h
def kPlusC (M : Store) (ys : List D) : Option Cel → Res Rv
  | some (.lst xs) => if xs.length + ys.length ≤ 16777216 then .ok (.f (.lst (xs ++ ys))) M else .bad
  | _ => .bad
@[simp] theorem e_plusC (n : Nat) (ys : List D) : oPlus (.l n) (.t (.lst ys)) M = kPlusC M ys M[n]? := by
  show oCat (.l n) (.t (.lst ys)) M = _
  unfold oCat kPlusC dr
  dsimp only
  cases M[n]? with
  | none => rfl
  | some x =>
    cases x with
    | obj C fs =>
      dsimp only [Cel.d]
      split <;> rename_i h1 h2
      · rename_i h
        split at h1 <;> cases h1
      · rfl
    | _ => rfl
theorem kPlusC_s {ys xs : List D} (h : xs.length + ys.length ≤ 16777216) : kPlusC M ys (some (.lst xs)) = .ok (.f (.lst (xs ++ ys))) M := if_pos h
def kIxC (i : Int) (M : Store) : Option Cel → Res Rv
  | some (.lst xs) => kIx M (L2.atI xs i)
  | some x => (match x.d with
    | some d => oIx (.t d) (.t (.int i)) M
    | none => .bad)
  | none => .bad
theorem e_ixl (n : Nat) (i : Int) {xs : List D} (h : M[n]? = some (.lst xs)) : oIx (.l n) (.t (.int i)) M = kIx M (L2.atI xs i) := e_ixC h
end
end VL

set_option Elab.async false
set_option linter.all false
set_option maxRecDepth 100000
set_option maxHeartbeats 400000
/-! VL25: attributes, new instances, try; loops over cells. -/
namespace VL
open PySem PySem.Spec PyProof.Rows L2
/-- THE RULE OF FOR, over any source -/
theorem for_ruleS {s : Src} {t : SemG} {body : SemS} {m0 : Nat} (I : Nat → VEnv → Store → Prop) (Q : RS → Prop) (hm : ∀ i Γ M, I i Γ M → M.length = m0 ∧ s.chk M)
    (step : ∀ i d Γ M, s.ds[i]? = some d → I i Γ M → (∃ Γ' M', (turnR t body d Γ M = .ok .nx Γ' M' ∨ turnR t body d Γ M = .ok .ct Γ' M') ∧ I (i + 1) Γ' M') ∨
      (∃ r Γ' M', turnR t body d Γ M = .ok (.rt r) Γ' M' ∧ Q (.ok (.rt r) Γ' M')) ∨ ∃ C fs Γ' M', turnR t body d Γ M = .exc C fs Γ' M' ∧ Q (.exc C fs Γ' M')) :
    ∀ {Γ : VEnv} {M : Store}, I 0 Γ M → (∃ Γ' M', forL s t body m0 s.ds Γ M = .ok .nx Γ' M' ∧ I s.ds.length Γ' M') ∨ Q (forL s t body m0 s.ds Γ M) := by
  have key : ∀ (k i : Nat), i + k = s.ds.length → ∀ {Γ : VEnv} {M : Store}, I i Γ M → (∃ Γ' M', forL s t body m0 (s.ds.drop i) Γ M = .ok .nx Γ' M' ∧ I s.ds.length Γ' M') ∨ Q (forL s t body m0 (s.ds.drop i) Γ M) := by
    intro k
    induction k with
    | zero =>
      intro i hi Γ M hI
      have e : i = s.ds.length := by omega
      subst e
      rw [List.drop_length]
      unfold forL
      rw [cIf_pos (hm _ _ _ hI).2]
      exact .inl ⟨Γ, M, rfl, hI⟩
    | succ k ih =>
      intro i hi Γ M hI
      have hlt : i < s.ds.length := by omega
      rw [List.drop_eq_getElem_cons hlt]
      unfold forL
      rw [cIf_pos (hm _ _ _ hI).2]
      have st := step i s.ds[i] Γ M (List.getElem?_eq_getElem hlt) hI
      unfold turnR at st
      cases e1 : t (.t s.ds[i]) Γ M with
      | bad => rw [e1] at st; simp at st
      | exc C fs Γ1 M1 => rw [e1] at st; simp at st
      | ok fl Γ1 M1 =>
        rw [e1] at st
        cases fl with
        | bk => simp at st
        | ct => simp at st
        | rt r => simp at st
        | nx =>
          dsimp only at st ⊢
          rcases st with ⟨Γ', M', h1 | h1, h2⟩ | ⟨r, Γ', M', h1, h2⟩ | ⟨C, fs, Γ', M', h1, h2⟩
          · rw [h1]
            dsimp only
            rw [trimS_same (hm _ _ _ h2).1]
            exact ih (i + 1) (by omega) h2
          · rw [h1]
            dsimp only
            rw [trimS_same (hm _ _ _ h2).1]
            exact ih (i + 1) (by omega) h2
          · rw [h1]; exact .inr h2
          · rw [h1]; exact .inr h2
  intro Γ M hI
  exact key s.ds.length 0 (by omega) hI
section
variable {M : Store} {Γ : VEnv} {Cs : List Nat} {f : Nat}
/-! ### attributes -/
@[simp] theorem e_fld (g : SemE) : vFld Cs f g Γ M = (g Γ M).bind fun r M1 => fFld Cs f r.w M1 := (rfl)
def kFldC (Cs : List Nat) (f : Nat) (M : Store) : Option Cel → Res Rv
  | some (.obj C fs) => if C ∈ Cs then (match fs.lookup f with
      | some w => .ok w.r M
      | none => .bad) else .bad
  | _ => .bad
@[simp] theorem fFld_l (n : Nat) : fFld Cs f (.l n) M = kFldC Cs f M M[n]? := by
  unfold fFld kFldC
  dsimp only
  all_goals (cases M[n]? with
    | none => rfl
    | some x => cases x <;> rfl)
def kLk (M : Store) : Option Wv → Res Rv
  | some w => .ok w.r M
  | none => .bad
@[simp] theorem kLk_s (w : Wv) : kLk M (some w) = .ok w.r M := (rfl)
@[simp] theorem kFldC_o (C : Nat) (fs : List (Nat × Wv)) : kFldC Cs f M (some (.obj C fs)) = if C ∈ Cs then kLk M (fs.lookup f) else .bad := by
  unfold kFldC kLk
  dsimp only
@[simp] theorem fFld_ins (C : Nat) (ns : List Nat) (xs : List D) : fFld Cs f (.t (.ins C ns xs)) M = if C ∈ Cs then kIx M ((ns.zip xs).lookup f) else .bad := by
  unfold fFld kIx
  dsimp only
  all_goals (by_cases h : C ∈ Cs <;> simp only [h, if_true, if_false] <;> cases (ns.zip xs).lookup f <;> rfl)
theorem kFldC_s {C : Nat} {fs : List (Nat × Wv)} {w : Wv} (hC : C ∈ Cs) (h : fs.lookup f = some w) : kFldC Cs f M (some (.obj C fs)) = .ok w.r M := by
  unfold kFldC
  dsimp only
  rw [if_pos hC, h]
theorem fFld_i {C : Nat} {ns : List Nat} {xs : List D} {d : D} (hC : C ∈ Cs) (h : (ns.zip xs).lookup f = some d) : fFld Cs f (.t (.ins C ns xs)) M = .ok (.t d) M := by
  unfold fFld
  dsimp only
  rw [if_pos hC, h]
def kPutC (Cs : List Nat) (f n : Nat) (w : Wv) (Γ : VEnv) (M : Store) : Option Cel → RS
  | some (.obj C fs) => if C ∈ Cs ∧ fs.length < 1000 then .ok .nx Γ (M.set n (.obj C (putW f w fs))) else .bad
  | _ => .bad
def kPut (Cs : List Nat) (f : Nat) (w : Wv) (Γ : VEnv) (r : Rv) (M : Store) : RS := match kSetF Cs f w r M with
  | some M2 => .ok .nx Γ M2
  | none => .bad
@[simp] theorem e_tgF (g : SemE) (w : Wv) : tgF Cs f g w Γ M = (g Γ M).bindS Γ fun r M1 => kPut Cs f w Γ r M1 := (rfl)
@[simp] theorem kPut_l (n : Nat) (w : Wv) : kPut Cs f w Γ (.l n) M = kPutC Cs f n w Γ M M[n]? := by
  unfold kPut kSetF kPutC
  dsimp only
  cases M[n]? with
  | none => rfl
  | some x =>
    cases x with
    | obj C fs =>
      dsimp only
      by_cases h : C ∈ Cs ∧ fs.length < 1000
      · rw [if_pos h, if_pos h]
      · rw [if_neg h, if_neg h]
    | _ => rfl
@[simp] theorem kPutC_o (C n : Nat) (fs : List (Nat × Wv)) (w : Wv) : kPutC Cs f n w Γ M (some (.obj C fs)) = if C ∈ Cs ∧ fs.length < 1000 then .ok .nx Γ (M.set n (.obj C (putW f w fs))) else .bad := (rfl)
theorem kPutC_s {C n : Nat} {fs : List (Nat × Wv)} {w : Wv} (hC : C ∈ Cs) (h : fs.length < 1000) : kPutC Cs f n w Γ M (some (.obj C fs)) = .ok .nx Γ (M.set n (.obj C (putW f w fs))) := by
  unfold kPutC
  dsimp only
  rw [if_pos ⟨hC, h⟩]
/-! ### new instances, errors -/
@[simp] theorem e_make (fz : Bool) (C n : Nat) (φ : FnSem) (g : ES (List Wv)) : vMake fz C n φ g Γ M = (g Γ M).bind fun as M1 => vMakeK fz C n φ as M1 := (rfl)
@[simp] theorem e_raise (C n : Nat) (l : List (Nat × Nat)) (g : ES (List Wv)) : vRaise C n l g Γ M = (g Γ M).bindS Γ fun as M1 => kRaise C n l as Γ M1 := (rfl)
theorem kRaise_of {C n : Nat} {l : List (Nat × Nat)} {as : List Wv} {fs : List (Nat × D)} (h1 : as.length + 1 = n) (h2 : excD l as = some fs) : kRaise C n l as Γ M = .exc C fs Γ M := by
  unfold kRaise
  rw [if_pos h1, h2]
@[simp] theorem bindE (α β : Type) (C : Nat) (fs : List (Nat × D)) (k : α → Store → Res β) : (Res.exc C fs M : Res α).bind k = .exc C fs M := (rfl)
@[simp] theorem bindSE (α : Type) (C : Nat) (fs : List (Nat × D)) (k : α → Store → RS) : (Res.exc C fs M : Res α).bindS Γ k = .exc C fs Γ M := (rfl)
/-! ### try -/
@[simp] theorem e_try (fb : SemS) (hs : List HdD) : vTry fb hs Γ M = kTry hs (fb Γ M) := (rfl)
@[simp] theorem kTry_ok (hs : List HdD) (fl : Fl) : kTry hs (.ok fl Γ M) = .ok fl Γ M := (rfl)
@[simp] theorem kTry_exc (hs : List HdD) (C : Nat) (fs : List (Nat × D)) : kTry hs (.exc C fs Γ M) = tryHds hs C fs Γ M := (rfl)
theorem tryHds_f {hd : HdD} {r : List HdD} {C : Nat} {fs : List (Nat × D)} (h : hd.sub.lookup C = some false) : tryHds (hd :: r) C fs Γ M = tryHds r C fs Γ M := by
  rw [tryHds, h]
theorem tryHds_t {hd : HdD} {r : List HdD} {C : Nat} {fs : List (Nat × D)} {x : RS} (h : hd.sub.lookup C = some true) (hr : ∀ a cls d, hd.run a cls d C fs Γ M = x) : tryHds (hd :: r) C fs Γ M = x := by
  rw [tryHds, h]
  exact anyExc_eq hr
@[simp] theorem e_xf (a : Addr) (cls : Value) (d : Option Addr) (g : SemE) : vXf a cls d Cs f g Γ M = (g Γ M).bind fun r M1 => kXf a cls d Cs f r M1 := (rfl)
@[simp] theorem e_isE (a : Addr) (cls : Value) (d : Option Addr) (g : SemE) : vIsE a cls d Cs g Γ M = (g Γ M).bind fun r M1 => kIsE a cls d Cs r M1 := (rfl)
theorem kXf_s {a : Addr} {cls : Value} {d : Option Addr} {n C : Nat} {fs : List (Nat × D)} {x : D} (h : M[n]? = some (.exn a cls d C fs)) (hC : C ∈ Cs) (hx : fs.lookup f = some x) : kXf a cls d Cs f (.l n) M = .ok (.t x) M := by
  unfold kXf
  dsimp only
  rw [h]
  dsimp only
  rw [cIf_pos ⟨rfl, rfl, rfl⟩, if_pos hC, hx]
theorem kIsE_s {a : Addr} {cls : Value} {d : Option Addr} {n C : Nat} {fs : List (Nat × D)} (h : M[n]? = some (.exn a cls d C fs)) (hC : C ∈ Cs) : kIsE a cls d Cs (.l n) M = .ok (.t (.bl true)) M := by
  unfold kIsE
  dsimp only
  rw [h]
  dsimp only
  rw [cIf_pos ⟨rfl, rfl, rfl⟩, if_pos hC]
theorem asEnd_rt {i : Nat} {N : Store} {d : D} (hM : Pl M) : asEnd i M.length (.ok (.rt (.t d)) Γ (M ++ N)) = .ok (.rt (.t d)) ((Γ.set i none).map (Wv.cut M.length)) M := by
  unfold asEnd
  have e : (M ++ N).take M.length = M := by simp
  dsimp only
  rw [e]
  exact if_pos ⟨by simp, hM.ok _, rfl⟩
theorem run_named {hd : HdD} {i : Nat} {a : Addr} {cls : Value} {d : Option Addr} {C : Nat} {fs : List (Nat × D)} {x : D} {Γ' : VEnv} (hM : Pl M) (hi : hd.i = some i)
    (h : hd.h a cls d (Γ.set i (some (.l M.length))) (M ++ [.exn a cls d C fs]) = .ok (.rt (.t x)) Γ' (M ++ [.exn a cls d C fs])) : hd.run a cls d C fs Γ M = .ok (.rt (.t x)) ((Γ'.set i none).map (Wv.cut M.length)) M := by
  unfold HdD.run
  rw [hi]
  dsimp only
  rw [h]
  exact asEnd_rt hM
end
end VL

set_option Elab.async false
set_option linter.all false
set_option maxRecDepth 100000
set_option maxHeartbeats 1000000
/-! VL26: lcm; slices that go back. -/
namespace VL
open PySem PySem.Spec PyProof.Rows L2
/-! ### lcm -/
section
variable {X : Cx}
def rLcm : List V → Hp → VK → Prop := fun vs H Q => ∃ a b : Int, vs = [.int a, .int b] ∧ a.natAbs < 2 ^ 64 ∧ b.natAbs < 2 ^ 64 ∧ Q (.int ((Nat.lcm a.natAbs b.natAbs : Nat) : Int)) H
theorem cr_lcm : CallR X (.builtin "math.lcm") rLcm := by
  intro pins s σ H vs us Q I r h
  obtain ⟨a, b, rfl, ha, hb, q⟩ := h
  obtain ⟨t, u, rfl⟩ := Vals.int2 r
  have e : (Nat.lcm 1 a.natAbs).lcm b.natAbs = Nat.lcm a.natAbs b.natAbs := by rw [Nat.lcm_one_left]
  have hl : Nat.lcm a.natAbs b.natAbs < 2 ^ 128 := by
    have h1 : Nat.lcm a.natAbs b.natAbs ≤ a.natAbs * b.natAbs := Nat.div_le_self _ _
    have h2 : a.natAbs * b.natAbs < 2 ^ 64 * 2 ^ 64 := Nat.mul_lt_mul'' ha hb
    have h3 : (2 : Nat) ^ 64 * 2 ^ 64 = 2 ^ 128 := by decide
    omega
  refine PySem.W.mg_lcm ha hb ?_ ?_
  · rw [e]
    have : (Nat.lcm a.natAbs b.natAbs).log2 < 128 := log2_lt hl (by omega)
    exact Nat.lt_of_lt_of_le this (by decide)
  · rw [e]
    exact ⟨.int _, H, I.tok _, ⟨_, rfl⟩, q⟩
end
def fLcm : List Wv → Store → Res Rv
  | [.t (.int i), .t (.int j)], M => if i.natAbs < 18446744073709551616 ∧ j.natAbs < 18446744073709551616 then .ok (.t (.int ((Nat.lcm i.natAbs j.natAbs : Nat) : Int))) M else .bad
  | _, _ => .bad
section
variable {c : Vc} {X : Cx} {W : WX} {p pos : Pos} {e : Expr} {es : List Expr} {ga : ES (List Wv)}
theorem ok_lcm : CallOk c W rLcm fLcm := by
  intro σ H Q as xs μ G Γ M R ha F
  unfold fLcm at F
  split at F
  · rename_i i j
    split at F
    · rename_i hh
      obtain ⟨v, y, e, hw, hu⟩ := held2 ha
      rw [wr_int hw, wr_int hu] at e
      exact ⟨i, j, e, hh.1, hh.2, F μ G _ H Ext.refl R mk_int⟩
    · exact F.elim
  · exact F.elim
theorem de_lcm (hg : Gl X "lcm") (hm : X.mg "lcm" = some (.builtin "math.lcm")) (ha : DA c X W (e :: es) ga) (he : starEach (e :: es) X.env = (false, eval e X.env) :: starEach es X.env := by rfl) (hpl : (backTo pos (starEach es X.env)).any (·.1) = false := by rfl) :
    DE c X W (.Call (.Name "lcm" p) (e :: es) [] pos) (vCall fLcm ga) := de_callM cr_lcm ok_lcm hg hm ha (by decide) he hpl
end
theorem e_lcm {M : Store} {i j : Int} (hi : i.natAbs < 18446744073709551616) (hj : j.natAbs < 18446744073709551616) : fLcm [.t (.int i), .t (.int j)] M = .ok (.t (.int ((Nat.lcm i.natAbs j.natAbs : Nat) : Int))) M := if_pos ⟨hi, hj⟩
/-! ### xs[lo::-1] -/
def revA {α : Type} (xs : List α) : Option Int → Option (List α)
  | none => some xs.reverse
  | some i => if 0 ≤ i ∧ i < xs.length then some (xs.take (i.toNat + 1)).reverse else none
theorem pick_back {its : List Value} {lo : Option Int} {ys : List Value} (h : revA its lo = some ys) : slicePick its.toArray lo none (some (-1)) = ys.toArray := by
  cases lo with
  | none =>
    cases h
    rw [PySem.W.krv_pick]
  | some i =>
    unfold revA at h
    dsimp only at h
    split at h
    · rename_i hh
      cases h
      obtain ⟨k, rfl⟩ : ∃ k : Nat, i = k := ⟨i.toNat, by omega⟩
      have hk : k < its.length := by omega
      have eb : sliceBounds (some (k : Int)) none (some (-1)) its.toArray.size = ((k : Int), -1, -1) := by
        rw [List.size_toArray]
        unfold sliceBounds
        have h1 : ¬ ((-1 : Int) > 0) := by decide
        have h2 : ¬ ((k : Int) < 0) := by omega
        simp only [Option.getD_some, h1, if_false, h2]
        rw [show max (-1 : Int) (min (k : Int) ((its.length : Int) - 1)) = (k : Int) by omega]
      have er : sliceRange (k : Int) (-1) (-1) = (List.range (k + 1)).reverse := by
        have := PySem.W.krv_sliceRange (k + 1)
        rw [show ((k + 1 : Nat) : Int) - 1 = (k : Int) by omega] at this
        rw [this, PySem.W.krv_range]
      unfold slicePick
      rw [eb]
      show ((sliceRange (k : Int) (-1) (-1)).filterMap (its.toArray[·]?)).toArray = _
      rw [er, List.filterMap_reverse]
      have pr := pick_run its.toArray 0 (k + 1)
      have e0 : (List.range (k + 1)).map (0 + ·) = List.range (k + 1) := by
        rw [show ((0 + ·) : Nat → Nat) = id from funext fun k => Nat.zero_add k, List.map_id]
      rw [e0, List.drop_zero] at pr
      rw [pr, Int.toNat_natCast]
    · cases h
theorem revA_vals {xs : List V} {us : List Value} (r : Vals xs us) : ∀ {lo : Option Int} {ys : List V}, revA xs lo = some ys → ∃ ws, revA us lo = some ws ∧ Vals ys ws
  | none, ys, h => by
    cases h
    exact ⟨_, rfl, r.reverse⟩
  | some i, ys, h => by
    unfold revA at h
    dsimp only at h
    split at h
    · rename_i hh
      cases h
      refine ⟨(us.take (i.toNat + 1)).reverse, ?_, ?_⟩
      · unfold revA
        exact if_pos (by rw [← r.length]; exact hh)
      · exact Vals.reverse (r.take _)
    · cases h
def tRevA (K : PySem.W.Frag) (te : TE) (tl : TO) : TE := fun σ H Q => te σ H fun x H1 => tl σ H1 fun lo H2 => ∃ a xs ys, x = .ref a ∧ SqL K H2 a xs ∧ revA xs lo = some ys ∧ ∀ p, H2 p = none → Q (.ref p) (upd H2 p (.lst ys))
theorem pe_revA {X : Cx} {e : Expr} {te : TE} {lo : Option Expr} {tl : TO} {k : Nat} {p1 p2 p3 pos : Pos} (he : PE X e te) (hl : PO X lo tl) : PE X (.Subscript e (.Slice lo none (some (.UnaryOp .USub (.Constant (.int 1) k p1) p2)) p3) pos) (tRevA X.K te tl) := by
  refine ⟨fun pins s σ H Q I h => ?_⟩
  refine Subscript_ (thn (he.run pins s σ H _ I h) fun v s1 ⟨x, H1, I1, r1, q1⟩ => ?_)
  have hst : PO X (some (.UnaryOp .USub (.Constant (.int 1) k p1) p2)) (tPart (tUn (rU fun i => .int (-i)) (tC (.int 1)))) := po_some (pe_un un_neg pe_int)
  refine wpAny_Slice (thn (hl.run pins s1 σ H1 _ I1 q1) fun vl s2 ⟨l, H2, I2, pl, q2⟩ => ?_)
  obtain ⟨a, xs, ys, ex, hx, hy, q⟩ := q2
  subst ex
  cases r1
  refine thn (po_none.run pins s2 σ H2 (fun o H3 => o = none ∧ H3 = H2) I2 ⟨rfl, rfl⟩) fun vu s3 ⟨u, H3, I3, pu, eu, e3⟩ => ?_
  subst eu e3
  refine thn (hst.run pins s3 σ H3 (fun o H4 => o = some (-1) ∧ H4 = H3) I3 ⟨1, rfl, -1, rfl, rfl, rfl⟩) fun vs s4 ⟨o, H4, I4, ps, eo, e4⟩ => ?_
  subst eo e4
  have I5 : Inv X pins σ H4 { s4 with heap := s4.heap.push { cls := .type "slice", data := .fields #[vl, vu, vs] } } := I4.kept (t' := s4.toks) fun b ob q => Heap.get?_push_of_some _ q
  obtain ⟨its, r, ht, hz⟩ := I5.list hx
  have hlen := r.length
  obtain ⟨ws, hw, rw'⟩ := revA_vals r hy
  have hyl : ys.length ≤ xs.length := by
    cases l with
    | none => cases hy; rw [List.length_reverse]; exact Nat.le_refl _
    | some i =>
      unfold revA at hy
      dsimp only at hy
      split at hy
      · cases hy; rw [List.length_reverse, List.length_take]; exact Nat.min_le_right _ _
      · cases hy
  show wpAny (model X.prog X.w) X.A (subscriptTail e (.Slice lo none (some (.UnaryOp .USub (.Constant (.int 1) k p1) p2)) p3) (.ref a) (.ref s4.heap.objs.size)) (EP X pins σ Q) X.xe { s4 with heap := s4.heap.push { cls := .type "slice", data := .fields #[vl, vu, vs] } }
  refine tail_any (ops := [.ref a, .ref s4.heap.objs.size]) ht.isList.typeIs (PySem.slot_list_getitem.lookup) ?_ (by with_unfolding_all rfl)
  refine wpAny_getItem_list_slice ht.isList (Heap.IsSliceOf.new _ vl vu vs) pl pu ps (by decide) ?_ (by rw [List.size_toArray]; omega)
  rw [pick_back hw]
  refine ⟨.ref _, _, I5.laid (t' := s4.toks) (o := .lst ys) (fun b ob q => Heap.get?_push_of_some _ q) (Nat.le_refl _) ?_, rfl, q _ (I5.hok.fresh (Nat.le_refl _))⟩
  exact ⟨by omega, _, 0, rw', Heap.get?_push_size _ rfl⟩
def kRev (w : Wv) (lo : Option Int) (M : Store) : Res Rv := match dr M w with
  | some (.lst xs) => (match revA xs lo with
    | some ys => .ok (.f (.lst ys)) M
    | none => .bad)
  | _ => .bad
def vRev (f : SemE) (l : ES (Option Int)) : SemE := fun Γ M => (f Γ M).bind fun r M1 => (l Γ M1).bind fun lo M2 => kRev r.w lo M2
section
variable {c : Vc} {X : Cx} {W : WX}
theorem revA_rfs {G : Hp} {xs : List D} {vs : List V} (r : RFs c G xs vs) : ∀ {lo : Option Int} {ys : List D}, revA xs lo = some ys → ∃ us, revA vs lo = some us ∧ RFs c G ys us
  | none, ys, h => by
    cases h
    exact ⟨_, rfl, r.reverse⟩
  | some i, ys, h => by
    unfold revA at h
    dsimp only at h
    split at h
    · rename_i hh
      cases h
      refine ⟨(vs.take (i.toNat + 1)).reverse, ?_, ?_⟩
      · unfold revA
        exact if_pos (by rw [r.length]; exact hh)
      · exact (r.take _).reverse
    · cases h
theorem de_rev {e : Expr} {lo : Option Expr} {f : SemE} {l : ES (Option Int)} {k : Nat} {p1 p2 p3 pos : Pos} (hK : c.K = X.K) (he : DE c X W e f) (hl : DOp c X W lo l) : DE c X W (.Subscript e (.Slice lo none (some (.UnaryOp .USub (.Constant (.int 1) k p1) p2)) p3) pos) (vRev f l) := by
  refine peImp (pe_revA he hl) fun σ H Q h' => ?_
  refine lift_bind (g := fun w Γ M1 => (l Γ M1).bind fun lo M2 => kRev w lo M2) h' fun w x H1 h' => ?_
  refine lift_bindO (g := fun lo Γ M2 => kRev w lo M2) h' fun lo H2 ⟨μ, G, Γ, M, R, hd, F⟩ => ?_
  have hw := heldOne hd
  rw [← hK]
  dsimp only [kRev] at F
  split at F
  · rename_i xs e
    split at F
    · rename_i ys ey
      obtain ⟨a, vs, ev, q, r⟩ := R.drL hw e
      obtain ⟨us, e1, e2⟩ := revA_rfs r ey
      exact ⟨a, vs, us, ev, SqL.of q, e1, fun p hp => finL R F e2 hp⟩
    · exact F.elim
  · exact F.elim
variable {Γ : VEnv} {M : Store} {f : SemE}
@[simp] theorem e_rev (l : ES (Option Int)) : vRev f l Γ M = (f Γ M).bind fun r M1 => (l Γ M1).bind fun lo M2 => kRev r.w lo M2 := (rfl)
theorem kRev_s {xs ys : List D} {lo : Option Int} (h : revA xs lo = some ys) : kRev (.t (.lst xs)) lo M = .ok (.f (.lst ys)) M := by
  show (match revA xs lo with
    | some ys => Res.ok (Rv.f (.lst ys)) M
    | none => .bad) = _
  rw [h]
end
end VL

set_option Elab.async false
set_option linter.all false
set_option maxRecDepth 100000
set_option maxHeartbeats 1000000
/-! VL27: ranges that are held by a name. -/
namespace VL
open PySem PySem.Spec PyProof.Rows L2
def rRng : List V → Hp → VK → Prop := fun vs H Q => ∃ i j, vs = [V.int i, V.int j] ∧ ∀ p, H p = none → Q (.ref p) (upd H p (.rng i j))
def fRng : List Wv → Store → Res Rv
  | [.t (.int i), .t (.int j)], M => .ok (.l M.length) (M ++ [.rng i j])
  | _, _ => .bad
section
variable {c : Vc} {X : Cx} {W : WX} {p pos : Pos} {e : Expr} {es : List Expr} {ga : ES (List Wv)}
theorem ok_rng : CallOk c W rRng fRng := by
  intro σ H Q as xs μ G Γ M R ha F
  unfold fRng at F
  split at F
  · rename_i i j
    obtain ⟨v, y, e, hw, hu⟩ := held2 ha
    rw [wr_int hw, wr_int hu] at e
    refine ⟨i, j, e, fun p hp => ?_⟩
    obtain ⟨R1, gp, nl⟩ := R.layF (o := .rng i j) hp
    obtain ⟨μ', ex, ea, R3⟩ := R1.cell (a := p) (x := .rng i j) nl fun μ' _ => ⟨gp, upd_same⟩
    exact F μ' G _ _ ex R3 ⟨by simp, by rw [ea]⟩
  · exact F.elim
theorem de_rng (hg : Gl X "range") (hm : X.mg "range" = none) (ha : DA c X W (e :: es) ga) (he : starEach (e :: es) X.env = (false, eval e X.env) :: starEach es X.env := by rfl) (hpl : (backTo pos (starEach es X.env)).any (·.1) = false := by rfl) :
    DE c X W (.Call (.Name "range" p) (e :: es) [] pos) (vCall fRng ga) := de_callTy cr_range2 ok_rng hg hm (by decide +kernel) ha (by decide) (by decide) he hpl
theorem pi_rngV {tg l : Expr} {tl : TE} (hl : PE X l tl) : PI X tg l (fun σ H R => tl σ H fun x H1 => ∃ a lo hi, x = .ref a ∧ H1 a = some (.rng lo hi) ∧ (-(2 ^ 62) ≤ lo ∧ lo < 2 ^ 62 ∧ -(2 ^ 62) ≤ hi ∧ hi < 2 ^ 62) ∧ R (Itr lo (hi - lo).toNat) H1) := by
  refine ⟨fun pins s σ H R I h => thn (hl.run pins s σ H _ I h) fun v s1 ⟨x, H1, I1, r1, q1⟩ => ?_⟩
  obtain ⟨a, lo, hi, e, ha, ⟨b1, b2, b3, b4⟩, q⟩ := q1
  subst e
  obtain rfl : v = Value.ref a := r1
  obtain ⟨t, u, w', ho⟩ := I1.hok a _ ha
  refine wpAny_pyIter_range (c := 1) ho (small_one b1 b2 b3 b4) ?_
  refine ⟨s1.heap.objs.size, [s1.heap.objs.size], _, _, H1, rfl, I1.kept (t' := s1.toks) fun b o e => Heap.get?_push_of_some _ e, turn_range _ lo (hi - lo).toNat, ?_, fun b hb => ?_, q⟩
  · have e1 : lo + ((0 : Nat) : Int) * 1 = lo := by simp
    have e2 : (((hi - lo).toNat : Nat) : Int) - ((0 : Nat) : Int) = Builtin.Range.rangeSize lo hi 1 := by rw [rangeSize_one]; split <;> omega
    show IsRangeIter _ _ (lo + ((0 : Nat) : Int) * 1) ((((hi - lo).toNat : Nat) : Int) - ((0 : Nat) : Int)) 1
    rw [e1, e2]
    exact Heap.get?_push_size _ rfl
  · have e : b = s1.heap.objs.size := by simpa using hb
    subst e
    exact I1.fpOk (Nat.le_refl _) (I1.hok.fresh (Nat.le_refl _))
end
def kSrcR (r : Rv) (M : Store) : Res Src := match r with
  | .l n => (match M[n]? with
    | some (.rng lo hi) => if -4611686018427387904 ≤ lo ∧ lo < 4611686018427387904 ∧ -4611686018427387904 ≤ hi ∧ hi < 4611686018427387904 then .ok ⟨rangeD lo (hi - lo).toNat, none⟩ M else .bad
    | _ => .bad)
  | _ => .bad
def vSrcR (f : SemE) : ES Src := fun Γ M => (f Γ M).bind kSrcR
section
variable {c : Vc} {X : Cx} {W : WX}
theorem di_rng {tg e : Expr} {f : SemE} (he : DE c X W e f) : DI c X W tg e (vSrcR f) :=
  piImp (pi_rngV he) fun σ H Rr h => by
    refine lift_bindR (rr := rrI c) (g := fun r _ M1 => kSrcR r M1) h fun r x H1 μ G Γ M R q F => ?_
    unfold kSrcR at F
    split at F
    · rename_i n
      obtain ⟨hn, ex⟩ := (show n < M.length ∧ x = .ref (μ n) from q)
      split at F
      · rename_i lo hi em
        split at F
        · rename_i hb
          have hc : CelR c μ M.length G H1 (μ n) (.rng lo hi) := R.ce n _ em
          exact ⟨μ n, lo, hi, ex, hc.2, hb, F μ G _ H1 Ext.refl R ⟨itok_range, trivial⟩⟩
        · exact F.elim
      · exact F.elim
    · exact F.elim
end
@[simp] theorem e_rng (i j : Int) (M : Store) : fRng [.t (.int i), .t (.int j)] M = .ok (.l M.length) (M ++ [.rng i j]) := (rfl)
@[simp] theorem e_srcR (f : SemE) (Γ : VEnv) (M : Store) : vSrcR f Γ M = (f Γ M).bind kSrcR := (rfl)
theorem kSrcR_s {M : Store} {n : Nat} {lo hi : Int} (h : M[n]? = some (.rng lo hi)) (h1 : -4611686018427387904 ≤ lo) (h2 : lo < 4611686018427387904) (h3 : -4611686018427387904 ≤ hi) (h4 : hi < 4611686018427387904) : kSrcR (.l n) M = .ok ⟨rangeD lo (hi - lo).toNat, none⟩ M := by
  unfold kSrcR
  dsimp only
  rw [h]
  exact if_pos ⟨h1, h2, h3, h4⟩
end VL

set_option Elab.async false
set_option linter.all false
set_option maxRecDepth 100000
set_option maxHeartbeats 1000000
/-! VL28: zips that are held by a name. -/
namespace VL
open PySem PySem.Spec PyProof.Rows L2
abbrev fIt (a l : Addr) : Heap → Prop := fun h => h.IsListIter a l 0
abbrev fPr (a i j : Addr) : Heap → Prop := fun h => PySem.IsPair h a (.ref i) (.ref j)
abbrev fTo (a : Addr) : Heap → Prop := fun h => ∃ x y, PySem.IsPair h a x y
abbrev fZp (a t o : Addr) : Heap → Prop := fun h => PySem.IsZip h a t o .none
theorem st_it {a l : Addr} : ∀ h1 h2 : Heap, fIt a l h1 → (∀ o, h1.get? a = some o → h2.get? a = some o) → fIt a l h2 := fun _ _ p k => p.at k
theorem st_pr {a i j : Addr} : ∀ h1 h2 : Heap, fPr a i j h1 → (∀ o, h1.get? a = some o → h2.get? a = some o) → fPr a i j h2 := fun _ _ p k => k _ p
theorem st_to {a : Addr} : ∀ h1 h2 : Heap, fTo a h1 → (∀ o, h1.get? a = some o → h2.get? a = some o) → fTo a h2 := fun _ _ ⟨x, y, p⟩ k => ⟨x, y, k _ p⟩
theorem st_zp {a t o : Addr} : ∀ h1 h2 : Heap, fZp a t o h1 → (∀ o, h1.get? a = some o → h2.get? a = some o) → fZp a t o h2 := fun _ _ p k => k _ p
/-- the heap with a new zip at n + 4 -/
def zipH (H : Hp) (n a b : Addr) : Hp := upd (upd (upd (upd (upd H n (.ext (fIt n a))) (n + 1) (.ext (fIt (n + 1) b))) (n + 2) (.ext (fPr (n + 2) n (n + 1)))) (n + 3) (.ext (fTo (n + 3)))) (n + 4) (.ext (fZp (n + 4) (n + 2) (n + 3)))
theorem zipH_old {H : Hp} {n a b c : Addr} (h : c < n) : zipH H n a b c = H c := by
  unfold zipH
  rw [upd_ne (show c ≠ n + 4 from Nat.ne_of_lt (Nat.lt_add_right _ h)), upd_ne (show c ≠ n + 3 from Nat.ne_of_lt (Nat.lt_add_right _ h)), upd_ne (show c ≠ n + 2 from Nat.ne_of_lt (Nat.lt_add_right _ h)), upd_ne (show c ≠ n + 1 from Nat.ne_of_lt (Nat.lt_add_right _ h)), upd_ne (Nat.ne_of_lt h)]
theorem zipH_new {H : Hp} {n a b c : Addr} {o : HO} (h : zipH H n a b c = some o) : (c = n ∧ o = .ext (fIt n a)) ∨ (c = n + 1 ∧ o = .ext (fIt (n + 1) b)) ∨ (c = n + 2 ∧ o = .ext (fPr (n + 2) n (n + 1))) ∨ (c = n + 3 ∧ o = .ext (fTo (n + 3))) ∨ (c = n + 4 ∧ o = .ext (fZp (n + 4) (n + 2) (n + 3))) ∨ H c = some o := by
  unfold zipH at h
  by_cases h4 : c = n + 4
  · subst h4; rw [upd_same] at h; cases h; exact .inr (.inr (.inr (.inr (.inl ⟨rfl, rfl⟩))))
  rw [upd_ne h4] at h
  by_cases h3 : c = n + 3
  · subst h3; rw [upd_same] at h; cases h; exact .inr (.inr (.inr (.inl ⟨rfl, rfl⟩)))
  rw [upd_ne h3] at h
  by_cases h2 : c = n + 2
  · subst h2; rw [upd_same] at h; cases h; exact .inr (.inr (.inl ⟨rfl, rfl⟩))
  rw [upd_ne h2] at h
  by_cases h1 : c = n + 1
  · subst h1; rw [upd_same] at h; cases h; exact .inr (.inl ⟨rfl, rfl⟩)
  rw [upd_ne h1] at h
  by_cases h0 : c = n
  · subst h0; rw [upd_same] at h; cases h; exact .inl ⟨rfl, rfl⟩
  rw [upd_ne h0] at h
  exact .inr (.inr (.inr (.inr (.inr h))))
section
variable {X : Cx}
def rZipV (K : PySem.W.Frag) (k : Nat) : List V → Hp → VK → Prop := fun vs H Q => ∃ a b xs ys, vs = [.ref a, .ref b] ∧ SqL K H a xs ∧ SqL K H b ys ∧ ∀ n, k ≤ n → (∀ m, n ≤ m → H m = none) → Q (.ref (n + 4)) (zipH H n a b)
theorem cr_zipV : CallR X (.type "zip") (rZipV X.K X.s_0.heap.objs.size) := by
  intro pins s σ H vs us Q I r h
  obtain ⟨a, b, xs, ys, rfl, hx, hy, q⟩ := h
  cases r with
  | cons r1 rr =>
    cases rr with
    | cons r2 rr =>
      cases rr
      cases r1
      cases r2
      obtain ⟨its, rv, p1, _⟩ := I.list hx
      obtain ⟨its2, rv2, p2, _⟩ := I.list hy
      refine call_zip_2 p1.isList p2.isList fun h' hz hTI hTO h1 h2 hsz hk => ?_
      have old : ∀ c o, H c = some o → zipH H s.heap.objs.size a b c = some o := fun c o e => by rw [zipH_old (I.hok.lt e)]; exact e
      have hok : HOk X.prog X.w (zipH H s.heap.objs.size a b) h' := fun c o e => by
        rcases zipH_new e with ⟨rfl, rfl⟩ | ⟨rfl, rfl⟩ | ⟨rfl, rfl⟩ | ⟨rfl, rfl⟩ | ⟨rfl, rfl⟩ | e
        · exact ⟨h1, (let ⟨o, e, _⟩ := h1; ⟨o, e⟩), st_it⟩
        · exact ⟨h2, (let ⟨o, e, _⟩ := h2; ⟨o, e⟩), st_it⟩
        · exact ⟨hTI, ⟨_, hTI⟩, st_pr⟩
        · exact ⟨⟨_, _, hTO⟩, ⟨_, hTO⟩, st_to⟩
        · exact ⟨hz, ⟨_, hz⟩, st_zp⟩
        · exact (I.hok c o e).stay (fun b u _ q => hk b u q) (fun b q => old b _ q) fun b xs q => old b _ q
      refine ⟨.ref (s.heap.objs.size + 4), _, I.un (t' := s.toks) ⟨fun b u q _ _ _ => hk b u q, fun b u q _ _ _ => ⟨u.slots, hk b u q⟩, fun b u q n _ => by rw [zipH_old (Heap.lt_size q)]; exact n, fun b u q _ => ⟨u, hk b u q⟩, fun b xs e => old b _ e, fun b o u e => old b _ e, fun b ps e => ⟨#[], by rw [old b _ e]; simp⟩⟩ hok, rfl, q _ I.sz fun m hm => I.hok.fresh hm⟩
end
def fZipV (k : Nat) : List Wv → Store → Res Rv
  | [.t (.lst xs), .t (.lst ys)], M => .ok (.l (M.length + 4)) (M ++ [.opq 0 k [] xs, .opq 0 k [] ys, .opq 1 k [M.length, M.length + 1] [], .opq 2 k [] [], .opq 3 k [M.length + 2, M.length + 3] []])
  | _, _ => .bad
section
variable {c : Vc} {X : Cx} {W : WX} {p pos : Pos} {e : Expr} {es : List Expr} {ga : ES (List Wv)}
theorem ok_zipV {k : Nat} : CallOk c W (rZipV c.K k) (fZipV k) := by
  intro σ H Q as xs μ G Γ M R ha F
  unfold fZipV at F
  split at F
  · rename_i ds es
    obtain ⟨v, u, ev, hw1, hw2⟩ := held2 ha
    obtain ⟨a, vs, e1, q1, r1⟩ := rf_lst.mp (wr_t hw1)
    obtain ⟨b, us, e2, q2, r2⟩ := rf_lst.mp (wr_t hw2)
    rw [e1, e2] at ev
    refine ⟨a, b, vs, us, ev, R.gh.seq (SqL.of q1), R.gh.seq (SqL.of q2), fun n hk hn => ?_⟩
    have n0 : H n = none := hn n (Nat.le_refl _)
    obtain ⟨A1, g1, l1⟩ := R.layF (o := .ext (fIt n a)) n0
    obtain ⟨μ1, x1, y1, B1⟩ := A1.cell (a := n) (x := .opq 0 k [] ds) l1 fun μ' _ => ⟨g1, hk, a, vs, upd_same, q1, r1⟩
    have n1 : upd H n (.ext (fIt n a)) (n + 1) = none := by rw [upd_ne (Nat.succ_ne_self n)]; exact hn _ (Nat.le_succ n)
    obtain ⟨A2, g2, l2⟩ := B1.layF (o := .ext (fIt (n + 1) b)) n1
    obtain ⟨μ2, x2, y2, B2⟩ := A2.cell (a := n + 1) (x := .opq 0 k [] es) l2 fun μ' _ => ⟨g2, Nat.le_add_right_of_le hk, b, us, upd_same, q2, r2⟩
    have n2 : upd (upd H n (.ext (fIt n a))) (n + 1) (.ext (fIt (n + 1) b)) (n + 2) = none := by rw [upd_ne (show n + 2 ≠ n + 1 from Nat.succ_ne_self _), upd_ne (show n + 2 ≠ n from Nat.ne_of_gt (Nat.lt_add_of_pos_right (by decide)))]; exact hn _ (Nat.le_add_right _ _)
    obtain ⟨A3, g3, l3⟩ := B2.layF (o := .ext (fPr (n + 2) n (n + 1))) n2
    have m1 : (M ++ [Cel.opq 0 k [] ds]).length = M.length + 1 := by simp
    have m2 : (M ++ [Cel.opq 0 k [] ds] ++ [Cel.opq 0 k [] es]).length = M.length + 2 := by simp
    rw [m1] at y2
    have z0 : μ2 M.length = n := by rw [x2.u M.length (by rw [m1]; exact Nat.lt_succ_self _)]; exact y1
    obtain ⟨μ3, x3, y3, B3⟩ := A3.cell (a := n + 2) (x := .opq 1 k [M.length, M.length + 1] []) l3 fun μ' hμ => ⟨g3, Nat.le_add_right_of_le hk, by rw [m2]; omega, by rw [m2]; omega, by
      rw [hμ M.length (by rw [m2]; omega), hμ (M.length + 1) (by rw [m2]; omega), z0, y2]; exact upd_same⟩
    have n3 : upd (upd (upd H n (.ext (fIt n a))) (n + 1) (.ext (fIt (n + 1) b))) (n + 2) (.ext (fPr (n + 2) n (n + 1))) (n + 3) = none := by
      rw [upd_ne (show n + 3 ≠ n + 2 from Nat.succ_ne_self _), upd_ne (show n + 3 ≠ n + 1 from fun e => absurd (Nat.add_left_cancel e) (by decide)), upd_ne (show n + 3 ≠ n from Nat.ne_of_gt (Nat.lt_add_of_pos_right (by decide)))]; exact hn _ (Nat.le_add_right _ _)
    obtain ⟨A4, g4, l4⟩ := B3.layF (o := .ext (fTo (n + 3))) n3
    obtain ⟨μ4, x4, y4, B4⟩ := A4.cell (a := n + 3) (x := .opq 2 k [] []) l4 fun μ' _ => ⟨g4, Nat.le_add_right_of_le hk, upd_same⟩
    have n4 : upd (upd (upd (upd H n (.ext (fIt n a))) (n + 1) (.ext (fIt (n + 1) b))) (n + 2) (.ext (fPr (n + 2) n (n + 1)))) (n + 3) (.ext (fTo (n + 3))) (n + 4) = none := by
      rw [upd_ne (show n + 4 ≠ n + 3 from Nat.succ_ne_self _), upd_ne (show n + 4 ≠ n + 2 from fun e => absurd (Nat.add_left_cancel e) (by decide)), upd_ne (show n + 4 ≠ n + 1 from fun e => absurd (Nat.add_left_cancel e) (by decide)), upd_ne (show n + 4 ≠ n from Nat.ne_of_gt (Nat.lt_add_of_pos_right (by decide)))]; exact hn _ (Nat.le_add_right _ _)
    obtain ⟨A5, g5, l5⟩ := B4.layF (o := .ext (fZp (n + 4) (n + 2) (n + 3))) n4
    have m3 : (M ++ [Cel.opq 0 k [] ds] ++ [Cel.opq 0 k [] es] ++ [Cel.opq 1 k [M.length, M.length + 1] []]).length = M.length + 3 := by simp
    have m4 : (M ++ [Cel.opq 0 k [] ds] ++ [Cel.opq 0 k [] es] ++ [Cel.opq 1 k [M.length, M.length + 1] []] ++ [Cel.opq 2 k [] []]).length = M.length + 4 := by simp
    rw [m2] at y3
    rw [m3] at y4
    have z2 : μ4 (M.length + 2) = n + 2 := by rw [x4.u _ (by rw [m3]; omega)]; exact y3
    obtain ⟨μ5, x5, y5, B5⟩ := A5.cell (a := n + 4) (x := .opq 3 k [M.length + 2, M.length + 3] []) l5 fun μ' hμ => ⟨g5, Nat.le_add_right_of_le hk, by rw [m4]; omega, by rw [m4]; omega, by
      rw [hμ (M.length + 2) (by rw [m4]; omega), hμ (M.length + 3) (by rw [m4]; omega), z2, y4]; exact upd_same⟩
    rw [m4] at y5
    have ex := (((x1.trans x2).trans x3).trans x4).trans x5
    have eM : M ++ [Cel.opq 0 k [] ds] ++ [Cel.opq 0 k [] es] ++ [Cel.opq 1 k [M.length, M.length + 1] []] ++ [Cel.opq 2 k [] []] ++ [Cel.opq 3 k [M.length + 2, M.length + 3] []] = M ++ [.opq 0 k [] ds, .opq 0 k [] es, .opq 1 k [M.length, M.length + 1] [], .opq 2 k [] [], .opq 3 k [M.length + 2, M.length + 3] []] := by simp
    rw [eM] at ex B5
    exact F μ5 G _ _ ex B5 ⟨by simp, by rw [y5]⟩
  · exact F.elim
theorem de_zipV (hK : c.K = X.K) (hg : Gl X "zip") (hm : X.mg "zip" = none) (ha : DA c X W (e :: es) ga) (he : starEach (e :: es) X.env = (false, eval e X.env) :: starEach es X.env := by rfl) (hpl : (backTo pos (starEach es X.env)).any (·.1) = false := by rfl) :
    DE c X W (.Call (.Name "zip" p) (e :: es) [] pos) (vCall (fZipV X.s_0.heap.objs.size) ga) := de_callTy cr_zipV (by rw [← hK]; exact ok_zipV) hg hm (by decide +kernel) ha (by decide) (by decide) he hpl
end
end VL

set_option Elab.async false
set_option linter.all false
set_option maxRecDepth 100000
set_option maxHeartbeats 1000000
/-! VL29: zips that are held by a name, walked. -/
namespace VL
open PySem PySem.Spec PyProof.Rows L2
def drop1 (H : Hp) (a : Addr) : Hp := fun b => if b = a then none else H b
theorem drop1_self {H : Hp} {a : Addr} : drop1 H a a = none := if_pos rfl
theorem drop1_ne {H : Hp} {a b : Addr} (h : b ≠ a) : drop1 H a b = H b := if_neg h
theorem drop1_some {H : Hp} {a b : Addr} {o : HO} (h : drop1 H a b = some o) : b ≠ a ∧ H b = some o := by
  by_cases e : b = a
  · subst e; rw [drop1_self] at h; cases h
  · rw [drop1_ne e] at h; exact ⟨e, h⟩
theorem drop1_none {H : Hp} {a b : Addr} (h : H b = none) : drop1 H a b = none := by
  by_cases e : b = a
  · subst e; exact drop1_self
  · rw [drop1_ne e]; exact h
section
variable {X : Cx} {pins : List (Addr × Obj)} {σ : L2.St} {H : Hp} {s : Shared}
theorem inv_drop {a : Addr} {φ : Heap → Prop} (I : Inv X pins σ H s) (ha : H a = some (.ext φ)) : Inv X pins σ (drop1 H a) s := by
  have keep : ∀ b o, H b = some o → (∀ φ, o ≠ .ext φ) → drop1 H a b = some o := fun b o e n => by
    rw [drop1_ne (fun z => by subst z; rw [ha] at e; cases e; exact n φ rfl)]; exact e
  exact I.un (t' := s.toks) ⟨fun b o q _ _ _ => q, fun b o q _ _ _ => ⟨o.slots, q⟩, fun b o _ n _ => drop1_none n, fun b o q _ => ⟨o, q⟩, fun b xs e => keep b _ e (by intro φ z; cases z), fun b o u e => keep b _ e (by intro φ z; cases z),
    fun b ps e => ⟨#[], by rw [keep b _ e (by intro φ z; cases z)]; simp⟩⟩ fun b o e => (I.hok b o (drop1_some e).2).stay (fun c u _ q => q) (fun c q => keep c _ q (by intro φ z; cases z)) fun c xs q => keep c _ q (by intro φ z; cases z)
theorem fp_drop {H' : Hp} {a : Addr} {o : HO} (I : Inv X pins σ H s) (ha : H a = some o) (hk : X.s_0.heap.objs.size ≤ a) (hn : H' a = none) : FpOk X pins H' a := by
  refine ⟨hn, fun e => ?_, fun hb => ?_, .inr hk, fun x c e z => ?_, fun p hp z => ?_⟩
  · rw [e, I.free] at ha; cases ha
  · obtain ⟨_, ob, ho, _⟩ := I.ok.funs.mem hb
    exact absurd (Nat.lt_of_lt_of_le (Heap.lt_size ho) hk) (Nat.lt_irrefl _)
  · rw [← z, I.freeC x c e] at ha; cases ha
  · rw [← z, (I.pin p hp).2.1] at ha; cases ha
def drop5 (H : Hp) (z t o i j : Addr) : Hp := drop1 (drop1 (drop1 (drop1 (drop1 H z) t) o) i) j
theorem pi_zipV {l : Expr} {tl : TE} {elts : List Expr} {kk : Nat} {tpos : Pos} (hl : PE X l tl) : PI X (.Tuple elts kk tpos) l (fun σ H R => tl σ H fun x H1 => ∃ z t o i j a b, x = .ref z ∧
    H1 z = some (.ext (fZp z t o)) ∧ H1 t = some (.ext (fPr t i j)) ∧ H1 o = some (.ext (fTo o)) ∧ H1 i = some (.ext (fIt i a)) ∧ H1 j = some (.ext (fIt j b)) ∧ ZipApart z t o i j a b ∧
    (X.s_0.heap.objs.size ≤ z ∧ X.s_0.heap.objs.size ≤ t ∧ X.s_0.heap.objs.size ≤ o ∧ X.s_0.heap.objs.size ≤ i ∧ X.s_0.heap.objs.size ≤ j) ∧ R (Itz X.K a b) (drop5 H1 z t o i j)) := by
  refine ⟨fun pins s σ H R I h => thn (hl.run pins s σ H _ I h) fun v s1 ⟨x, H1, I1, r1, q1⟩ => ?_⟩
  obtain ⟨z, t, o, i, j, a, b, e, hz, ht, ho, hi, hj, D, ⟨k1, k2, k3, k4, k5⟩, q⟩ := q1
  subst e
  obtain rfl : v = Value.ref z := r1
  have pz : fZp z t o s1.heap := (I1.hok z _ hz).1
  have pt : fPr t i j s1.heap := (I1.hok t _ ht).1
  have po : fTo o s1.heap := (I1.hok o _ ho).1
  have p1 : fIt i a s1.heap := (I1.hok i _ hi).1
  have p2 : fIt j b s1.heap := (I1.hok j _ hj).1
  have I2 := inv_drop I1 hz
  have ht' : drop1 H1 z t = some (.ext (fPr t i j)) := by rw [drop1_ne D.TIz]; exact ht
  have I3 := inv_drop I2 ht'
  have ho' : drop1 (drop1 H1 z) t o = some (.ext (fTo o)) := by rw [drop1_ne (Ne.symm D.TITO), drop1_ne D.TOz]; exact ho
  have I4 := inv_drop I3 ho'
  have hi' : drop1 (drop1 (drop1 H1 z) t) o i = some (.ext (fIt i a)) := by rw [drop1_ne (Ne.symm D.TOi1), drop1_ne (Ne.symm D.TIi1), drop1_ne D.i1z]; exact hi
  have I5 := inv_drop I4 hi'
  have hj' : drop1 (drop1 (drop1 (drop1 H1 z) t) o) i j = some (.ext (fIt j b)) := by rw [drop1_ne (Ne.symm D.i12), drop1_ne (Ne.symm D.TOi2), drop1_ne (Ne.symm D.TIi2), drop1_ne D.i2z]; exact hj
  have I6 : Inv X pins σ (drop5 H1 z t o i j) s1 := inv_drop I5 hj'
  have nz : drop5 H1 z t o i j z = none := drop1_none (drop1_none (drop1_none (drop1_none drop1_self)))
  have nt : drop5 H1 z t o i j t = none := drop1_none (drop1_none (drop1_none drop1_self))
  have no : drop5 H1 z t o i j o = none := drop1_none (drop1_none drop1_self)
  have ni : drop5 H1 z t o i j i = none := drop1_none drop1_self
  have nj : drop5 H1 z t o i j j = none := drop1_self
  refine wpAny_pyIter_zip pz ⟨z, [z, t, o, i, j], _, _, drop5 H1 z t o i j, rfl, I6, turn_zip D, ⟨pz, pt, po, p1, p2⟩, fun b hb => ?_, q⟩
  have e' : b = z ∨ b = t ∨ b = o ∨ b = i ∨ b = j := by simpa using hb
  rcases e' with rfl | rfl | rfl | rfl | rfl
  · exact fp_drop I1 hz k1 nz
  · exact fp_drop I1 ht k2 nt
  · exact fp_drop I1 ho k3 no
  · exact fp_drop I1 hi k4 ni
  · exact fp_drop I1 hj k5 nj
end
section
variable {c : Vc} {μ : Nat → Addr} {G H : Hp} {Γ : VEnv} {M : Store} {σ : L2.St}
theorem Rel.vanish (R : Rel c μ G Γ M σ H) {n : Nat} {x : Cel} (hx : M[n]? = some x) (nx : x.on) : Rel c μ G Γ (M.set n .dead) σ (drop1 H (μ n)) := by
  have lv : Live M n := ⟨x, hx, nx⟩
  have gn := (R.live lv).1
  refine ⟨fun b u e => by rw [drop1_ne (fun z => by subst z; rw [gn] at e; cases e)]; exact R.gh b u e, R.len, fun i w h => by rw [List.length_set]; exact R.sl i w h, fun m y hy => ?_, fun a b la lb e => ?_⟩
  · rw [List.length_set]
    by_cases hm : m = n
    · subst hm
      have hl : m < M.length := (List.getElem?_eq_some_iff.mp hx).1
      rw [List.getElem?_set_self hl] at hy
      cases hy
      exact trivial
    · rw [List.getElem?_set_ne (Ne.symm hm)] at hy
      exact (R.ce m y hy).ext Ext.refl (fun ny => (R.ce m y hy).none ny) fun ny => drop1_ne fun z => hm (R.inj m n ⟨y, hy, ny⟩ lv z)
  · rcases live_set la with ⟨_, z⟩ | ⟨_, la'⟩
    · exact z.elim
    · rcases live_set lb with ⟨_, z⟩ | ⟨_, lb'⟩
      · exact z.elim
      · exact R.inj a b la' lb' e
end
def kZipS (k : Nat) (r : Rv) (M : Store) : Res Src := match r with
  | .l n => (match M[n]? with
    | some (.opq 3 k3 [t, o] []) => (match M[t]?, M[o]? with
      | some (.opq 1 k1 [i, j] []), some (.opq 2 k2 [] []) => (match M[i]?, M[j]? with
        | some (.opq 0 k4 [] xs), some (.opq 0 k5 [] ys) => if i ≠ j ∧ k ≤ k1 ∧ k ≤ k2 ∧ k ≤ k3 ∧ k ≤ k4 ∧ k ≤ k5 then .ok ⟨zipD xs ys, none⟩ (((((M.set n .dead).set t .dead).set o .dead).set i .dead).set j .dead) else .bad
        | _, _ => .bad)
      | _, _ => .bad)
    | _ => .bad)
  | _ => .bad
def vZipS (k : Nat) (f : SemE) : ES Src := fun Γ M => (f Γ M).bind (kZipS k)
section
variable {c : Vc} {X : Cx} {W : WX}
theorem di_zipV {e : Expr} {f : SemE} {elts : List Expr} {kk : Nat} {tpos : Pos} (hK : c.K = X.K) (he : DE c X W e f) : DI c X W (.Tuple elts kk tpos) e (vZipS X.s_0.heap.objs.size f) :=
  piImp (pi_zipV he) fun σ H Rr h => by
    refine lift_bindR (rr := rrI c) (g := fun r _ M1 => kZipS X.s_0.heap.objs.size r M1) h fun r x H1 μ G Γ M R q F => ?_
    unfold kZipS at F
    split at F
    · rename_i n
      obtain ⟨hn, ex⟩ := (show n < M.length ∧ x = .ref (μ n) from q)
      split at F
      · rename_i k3 t o en
        split at F
        · rename_i k1 i j k2 et eo
          split at F
          · rename_i k4 xs k5 ys ei ej
            split at F
            · rename_i hb
              obtain ⟨nij, b1, b2, b3, b4, b5⟩ := hb
              have cn : CelR c μ M.length G H1 (μ n) (.opq 3 k3 [t, o] []) := R.ce n _ en
              have ct : CelR c μ M.length G H1 (μ t) (.opq 1 k1 [i, j] []) := R.ce t _ et
              have co : CelR c μ M.length G H1 (μ o) (.opq 2 k2 [] []) := R.ce o _ eo
              have ci : CelR c μ M.length G H1 (μ i) (.opq 0 k4 [] xs) := R.ce i _ ei
              have cj : CelR c μ M.length G H1 (μ j) (.opq 0 k5 [] ys) := R.ce j _ ej
              have ln : Live M n := ⟨_, en, trivial⟩
              have lt : Live M t := ⟨_, et, trivial⟩
              have lo : Live M o := ⟨_, eo, trivial⟩
              have li : Live M i := ⟨_, ei, trivial⟩
              have lj : Live M j := ⟨_, ej, trivial⟩
              have tn : t ≠ n := fun z => by subst z; rw [en] at et; cases et
              have on : o ≠ n := fun z => by subst z; rw [en] at eo; cases eo
              have in_ : i ≠ n := fun z => by subst z; rw [en] at ei; cases ei
              have jn : j ≠ n := fun z => by subst z; rw [en] at ej; cases ej
              have to : t ≠ o := fun z => by subst z; rw [et] at eo; cases eo
              have ti : t ≠ i := fun z => by subst z; rw [et] at ei; cases ei
              have tj : t ≠ j := fun z => by subst z; rw [et] at ej; cases ej
              have oi : o ≠ i := fun z => by subst z; rw [eo] at ei; cases ei
              have oj : o ≠ j := fun z => by subst z; rw [eo] at ej; cases ej
              obtain ⟨gi, ki, a, vs, ha, hga, hra⟩ := ci
              obtain ⟨gj, kj, b, us, hb, hgb, hrb⟩ := cj
              obtain ⟨gn, kn, _, _, hzn⟩ := cn
              obtain ⟨gt, kt, _, _, hzt⟩ := ct
              obtain ⟨go, ko, hzo⟩ := co
              have gl : ∀ {l m : Addr} {ws : List V}, G l = some (.lst ws) → G m = none → l ≠ m := fun e1 e2 z => by subst z; rw [e1] at e2; cases e2
              have D : ZipApart (μ n) (μ t) (μ o) (μ i) (μ j) a b := ⟨fun z => tn (R.inj _ _ lt ln z), fun z => on (R.inj _ _ lo ln z), fun z => in_ (R.inj _ _ li ln z), fun z => jn (R.inj _ _ lj ln z), fun z => to (R.inj _ _ lt lo z), fun z => ti (R.inj _ _ lt li z), fun z => tj (R.inj _ _ lt lj z), fun z => oi (R.inj _ _ lo li z), fun z => oj (R.inj _ _ lo lj z), fun z => nij (R.inj _ _ li lj z),
                gl hga gn, gl hga go, gl hga gi, gl hga gj, gl hgb gn, gl hgb go, gl hgb gi, gl hgb gj⟩
              have R1 := R.vanish en trivial
              have et1 : (M.set n Cel.dead)[t]? = some (.opq 1 k1 [i, j] []) := by rw [List.getElem?_set_ne (Ne.symm tn)]; exact et
              have R2 := R1.vanish et1 trivial
              have eo1 : ((M.set n Cel.dead).set t .dead)[o]? = some (.opq 2 k2 [] []) := by rw [List.getElem?_set_ne to, List.getElem?_set_ne (Ne.symm on)]; exact eo
              have R3 := R2.vanish eo1 trivial
              have ei1 : (((M.set n Cel.dead).set t .dead).set o .dead)[i]? = some (.opq 0 k4 [] xs) := by rw [List.getElem?_set_ne oi, List.getElem?_set_ne ti, List.getElem?_set_ne (Ne.symm in_)]; exact ei
              have R4 := R3.vanish ei1 trivial
              have ej1 : ((((M.set n Cel.dead).set t .dead).set o .dead).set i .dead)[j]? = some (.opq 0 k5 [] ys) := by rw [List.getElem?_set_ne nij, List.getElem?_set_ne oj, List.getElem?_set_ne tj, List.getElem?_set_ne (Ne.symm jn)]; exact ej
              have R5 : Rel c μ G Γ (((((M.set n Cel.dead).set t .dead).set o .dead).set i .dead).set j .dead) σ (drop5 H1 (μ n) (μ t) (μ o) (μ i) (μ j)) := R4.vanish ej1 trivial
              have hl : (((((M.set n Cel.dead).set t .dead).set o .dead).set i .dead).set j .dead).length = M.length := by simp
              refine ⟨μ n, μ t, μ o, μ i, μ j, a, b, ex, hzn, hzt, hzo, ha, hb, D, ⟨Nat.le_trans b3 kn, Nat.le_trans b1 kt, Nat.le_trans b2 ko, Nat.le_trans b4 ki, Nat.le_trans b5 kj⟩, ?_⟩
              have ex' : Ext μ G M.length μ G (((((M.set n Cel.dead).set t .dead).set o .dead).set i .dead).set j .dead).length := by rw [hl]; exact Ext.refl
              exact F μ G _ _ ex' R5 ⟨itok_zipL (H := drop5 H1 (μ n) (μ t) (μ o) (μ i) (μ j)) (Γ := Γ) (σ := σ) hK (SqL.of hga) hra (SqL.of hgb) hrb, trivial⟩
            · exact F.elim
          · exact F.elim
        · exact F.elim
      · exact F.elim
    · exact F.elim
end
/-! ### whatever the number -/
noncomputable def vAnyK (F : Nat → SemS) : SemS := fun Γ M => @dite RS (∃ r, ∀ k, F k Γ M = r) (Classical.propDecidable _) (fun h => h.choose) fun _ => .bad
theorem vAnyK_eq {F : Nat → SemS} {Γ : VEnv} {M : Store} {r : RS} (h : ∀ k, F k Γ M = r) : vAnyK F Γ M = r := by
  unfold vAnyK
  rw [dif_pos ⟨r, h⟩]
  have z := (show ∃ r, ∀ k, F k Γ M = r from ⟨r, h⟩).choose_spec 0
  rw [← z]
  exact h _
theorem vAnyK_of {F : Nat → SemS} {Γ : VEnv} {M : Store} (k : Nat) (h : vAnyK F Γ M ≠ .bad) : vAnyK F Γ M = F k Γ M := by
  unfold vAnyK at h ⊢
  by_cases q : ∃ r, ∀ k, F k Γ M = r
  · rw [dif_pos q]
    exact (q.choose_spec k).symm
  · rw [dif_neg q] at h
    exact absurd rfl h
theorem dss_anyK {c : Vc} {X : Cx} {W : WX} {st : List Stmt} {F : Nat → SemS} (k : Nat) (h : DSs c X W st (F k)) : DSs c X W st (vAnyK F) :=
  pssImp h fun D σ H q => by
    obtain ⟨μ, G, Γ, M, R, f⟩ := q
    refine ⟨μ, G, Γ, M, R, ?_⟩
    by_cases e : vAnyK F Γ M = .bad
    · rw [e] at f; exact f.elim
    · rw [vAnyK_of k e] at f; exact f
@[simp] theorem e_zipV (k : Nat) (xs ys : List D) (M : Store) : fZipV k [.t (.lst xs), .t (.lst ys)] M = .ok (.l (M.length + 4)) (M ++ [.opq 0 k [] xs, .opq 0 k [] ys, .opq 1 k [M.length, M.length + 1] [], .opq 2 k [] [], .opq 3 k [M.length + 2, M.length + 3] []]) := (rfl)
@[simp] theorem e_zipS (k : Nat) (f : SemE) (Γ : VEnv) (M : Store) : vZipS k f Γ M = (f Γ M).bind (kZipS k) := (rfl)
theorem kZipS_s {k m : Nat} {M : Store} {xs ys : List D} (e : M.length = m) : kZipS k (.l (m + 4)) (M ++ [.opq 0 k [] xs, .opq 0 k [] ys, .opq 1 k [m, m + 1] [], .opq 2 k [] [], .opq 3 k [m + 2, m + 3] []]) = .ok ⟨zipD xs ys, none⟩ (M ++ [.dead, .dead, .dead, .dead, .dead]) := by
  subst e
  have g : ∀ i, (M ++ [Cel.opq 0 k [] xs, .opq 0 k [] ys, .opq 1 k [M.length, M.length + 1] [], .opq 2 k [] [], .opq 3 k [M.length + 2, M.length + 3] []])[M.length + i]? = [Cel.opq 0 k [] xs, .opq 0 k [] ys, .opq 1 k [M.length, M.length + 1] [], .opq 2 k [] [], .opq 3 k [M.length + 2, M.length + 3] []][i]? := fun i => getT rfl i
  unfold kZipS
  dsimp only
  rw [g 4]
  show (match (M ++ _)[M.length + 2]?, (M ++ _)[M.length + 3]? with | some (.opq 1 k1 [i, j] []), some (.opq 2 k2 [] []) => _ | _, _ => _) = _
  rw [g 2, g 3]
  show (match (M ++ _)[M.length + 0]?, (M ++ _)[M.length + 1]? with | some (.opq 0 k4 [] xs), some (.opq 0 k5 [] ys) => _ | _, _ => _) = _
  rw [g 0, g 1]
  show (if _ then _ else _) = _
  rw [if_pos ⟨by omega, Nat.le_refl _, Nat.le_refl _, Nat.le_refl _, Nat.le_refl _, Nat.le_refl _⟩]
  rw [setT rfl 4, setT rfl 2, setT rfl 3, setT0 rfl, setT rfl 1]
  rfl
end VL

set_option Elab.async false
set_option linter.all false
set_option maxRecDepth 100000
set_option maxHeartbeats 1000000
/-! VL30: a, b = x, y. -/
namespace VL
open PySem PySem.Spec PyProof.Rows L2
def kPar (i j : Nat) (ws : List Wv) (Γ : VEnv) (M : Store) : RS := match ws with
  | [w, u] => .ok .nx ((Γ.set i (some w)).set j (some u)) M
  | _ => .bad
def vPar (i j : Nat) (g : ES (List Wv)) : SemS := fun Γ M => (g Γ M).bindS Γ fun ws M1 => kPar i j ws Γ M1
section
variable {c : Vc} {X : Cx} {W : WX}
theorem ds_par {i j : Nat} {x y : Str} {a b : Expr} {g : ES (List Wv)} {px py pt pos : Pos} {kt k2 pt2} (hc : X.calm = true) (hN : X.N.Nodup) (hi : X.N[i]? = some x) (hj : X.N[j]? = some y) (hij : i ≠ j)
    (hx : X.env.scope.names.lookup x = some .local) (hy : X.env.scope.names.lookup y = some .local) (ha : DA c X W [a, b] g)
    (hw : swappedStores [.Tuple [.Name x px, .Name y py] kt pt] (.Tuple [a, b] k2 pt2) X.env = pure (some [x, y]) := by rfl)
    (hs : swapsWithSole [.Tuple [.Name x px, .Name y py] kt pt] (.Tuple [a, b] k2 pt2) pos.line X.env = pure false := by rfl) :
    DS c X W (.Assign [.Tuple [.Name x px, .Name y py] kt pt] (.Tuple [a, b] k2 pt2) pos) (vPar i j g) :=
  psImp (ps_par hc hN hi hj hij hx hy ha hw hs) fun D σ H h => bindS_ok (rr := rrA c) (f := g) (k := fun (ws : List Wv) Γ M1 => kPar i j ws Γ M1) h fun ws vs H1 μ G Γ M R q F => by
    unfold kPar at F
    split at F
    · rename_i w u
      obtain ⟨v, y, e, hw, hu⟩ := held2 q
      exact ⟨v, y, e, F μ G _ H1 Ext.refl ((R.store hw).store hu)⟩
    · exact F.elim
variable {Γ : VEnv} {M : Store}
@[simp] theorem e_par (i j : Nat) (g : ES (List Wv)) : vPar i j g Γ M = (g Γ M).bindS Γ fun ws M1 => kPar i j ws Γ M1 := (rfl)
@[simp] theorem kPar_2 (i j : Nat) (w u : Wv) : kPar i j [w, u] Γ M = .ok .nx ((Γ.set i (some w)).set j (some u)) M := (rfl)
end
theorem turn_nm (j : Nat) (body : SemS) (d : D) (Γ : VEnv) (M : Store) : turnR (tgN j) body d Γ M = body (Γ.set j (some (.t d))) M := rfl
theorem turn_tup2 (i j : Nat) (body : SemS) (a b : D) (Γ : VEnv) (M : Store) : turnR (tgTup 2 (tgsCons (tgN i) (tgsCons (tgN j) tgsNil))) body (.tup [a, b]) Γ M = body ((Γ.set i (some (.t a))).set j (some (.t b))) M := rfl
end VL

set_option Elab.async false
set_option linter.all false
set_option maxRecDepth 100000
set_option maxHeartbeats 0
namespace K04
open PySem PySem.Spec PyProof.Rows L2 VL
abbrev Pg : Program := PySem.Challenge.pw_promisedflows_k04_deconvolution_residual
def top (i : Nat) : Stmt := Pg.main.body.getD i (.Pass ⟨0, 0, 0, 0⟩)
def clsN : List Str := ["FlowError", "OutOfRange", "TooMany", "TooLong", "BadValue", "Curve", "NotRising", "Unbounded"]
def nmsN : List Str := ["what", "value", "many", "ticks", "at", "numbers", "period", "rise", "head", "rate", "rising", "value_at", "tick"]
def vc (K : PySem.W.Frag) : Vc := ⟨K, fun n => He.ga K (clsN.getD n Str.empty), fun i => nmsN.getD i Str.empty, nmsN.length, nm_inj (by decide +kernel)⟩
theorem ltN {K : PySem.W.Frag} {i : Nat} (h : i < nmsN.length) : i < (vc K).N := h
def dd_law_mixed : He.DefD := ⟨("_law_mixed", none), "_law_mixed", "_law_mixed", defArgs (top 37), defBody (top 37), defScope (top 37), [], []⟩
def dd_law_pool : He.DefD := ⟨("_law_pool", none), "_law_pool", "_law_pool", defArgs (top 38), defBody (top 38), defScope (top 38), [], []⟩
def dd_law_draw : He.DefD := ⟨("_law_draw", none), "_law_draw", "_law_draw", defArgs (top 39), defBody (top 39), defScope (top 39), [], []⟩
def dd_law_base : He.DefD := ⟨("_law_base", none), "_law_base", "_law_base", defArgs (top 56), defBody (top 56), defScope (top 56), [], []⟩
def dd_law_long : He.DefD := ⟨("_law_long", none), "_law_long", "_law_long", defArgs (top 57), defBody (top 57), defScope (top 57), [], []⟩
def dd_law_two : He.DefD := ⟨("_law_two", none), "_law_two", "_law_two", defArgs (top 58), defBody (top 58), defScope (top 58), [], []⟩
def dd_bounds : He.DefD := ⟨("bounds", none), "bounds", "bounds", defArgs (top 10), defBody (top 10), defScope (top 10), [], []⟩
def dd_least_period : He.DefD := ⟨("_least_period", none), "_least_period", "_least_period", defArgs (top 16), defBody (top 16), defScope (top 16), [], []⟩
def dd_canonical : He.DefD := ⟨("_canonical", none), "_canonical", "_canonical", defArgs (top 17), defBody (top 17), defScope (top 17), [], []⟩
def dd_reduced : He.DefD := ⟨("reduced", none), "reduced", "reduced", defArgs (top 11), defBody (top 11), defScope (top 11), [], []⟩
def dd_first_fall : He.DefD := ⟨("_first_fall", none), "_first_fall", "_first_fall", defArgs (top 18), defBody (top 18), defScope (top 18), [], []⟩
def dd_Curve_init : He.DefD := ⟨("Curve", some "__init__"), "__init__", "Curve.__init__", defArgs (inClass (top 15) 0), defBody (inClass (top 15) 0), defScope (inClass (top 15) 0), [], []⟩
def dd_law_repeats : He.DefD := ⟨("_law_repeats", none), "_law_repeats", "_law_repeats", defArgs (top 41), defBody (top 41), defScope (top 41), [], []⟩
def dd_law_whole : He.DefD := ⟨("_law_whole", none), "_law_whole", "_law_whole", defArgs (top 42), defBody (top 42), defScope (top 42), [], []⟩
def dd_law_due : He.DefD := ⟨("_law_due", none), "_law_due", "_law_due", defArgs (top 45), defBody (top 45), defScope (top 45), [], []⟩
def dd_law_common : He.DefD := ⟨("_law_common", none), "_law_common", "_law_common", defArgs (top 47), defBody (top 47), defScope (top 47), [], []⟩
def dd_law_row : He.DefD := ⟨("_law_row", none), "_law_row", "_law_row", defArgs (top 44), defBody (top 44), defScope (top 44), [], []⟩
def dd_law_rest : He.DefD := ⟨("_law_rest", none), "_law_rest", "_law_rest", defArgs (top 51), defBody (top 51), defScope (top 51), [], []⟩
def dd_law_number : He.DefD := ⟨("_law_number", none), "_law_number", "_law_number", defArgs (top 40), defBody (top 40), defScope (top 40), [], []⟩
def dd_law_shown : He.DefD := ⟨("_law_shown", none), "_law_shown", "_law_shown", defArgs (top 43), defBody (top 43), defScope (top 43), [], []⟩
def dd_common_period : He.DefD := ⟨("common_period", none), "common_period", "common_period", defArgs (top 23), defBody (top 23), defScope (top 23), [], []⟩
def dd_first_numbers : He.DefD := ⟨("first_numbers", none), "first_numbers", "first_numbers", defArgs (top 21), defBody (top 21), defScope (top 21), [], []⟩
def dd_loose : He.DefD := ⟨("loose", none), "loose", "loose", defArgs (top 19), defBody (top 19), defScope (top 19), [], []⟩
def dd_made : He.DefD := ⟨("made", none), "made", "made", defArgs (top 20), defBody (top 20), defScope (top 20), [], []⟩
def dd_gain_in : He.DefD := ⟨("gain_in", none), "gain_in", "gain_in", defArgs (top 22), defBody (top 22), defScope (top 22), [], []⟩
def dd_deconvolved : He.DefD := ⟨("deconvolved", none), "deconvolved", "deconvolved", defArgs (top 25), defBody (top 25), defScope (top 25), [], []⟩
def dd_law_asked : He.DefD := ⟨("_law_asked", none), "_law_asked", "_law_asked", defArgs (top 52), defBody (top 52), defScope (top 52), [], []⟩
def dd_law_far : He.DefD := ⟨("_law_far", none), "_law_far", "_law_far", defArgs (top 61), defBody (top 61), defScope (top 61), [], []⟩
def dd_law_beside : He.DefD := ⟨("_law_beside", none), "_law_beside", "_law_beside", defArgs (top 59), defBody (top 59), defScope (top 59), [], []⟩
def dd_law_below : He.DefD := ⟨("_law_below", none), "_law_below", "_law_below", defArgs (top 55), defBody (top 55), defScope (top 55), [], []⟩
def dd_law_family : He.DefD := ⟨("_law_family", none), "_law_family", "_law_family", defArgs (top 48), defBody (top 48), defScope (top 48), [], []⟩
def dd_law_limit : He.DefD := ⟨("_law_limit", none), "_law_limit", "_law_limit", defArgs (top 46), defBody (top 46), defScope (top 46), [], []⟩
def dd_law_met : He.DefD := ⟨("_law_met", none), "_law_met", "_law_met", defArgs (top 50), defBody (top 50), defScope (top 50), [], []⟩
def dd_law_folded : He.DefD := ⟨("_law_folded", none), "_law_folded", "_law_folded", defArgs (top 49), defBody (top 49), defScope (top 49), [], []⟩
def dd_first_above : He.DefD := ⟨("first_above", none), "first_above", "first_above", defArgs (top 27), defBody (top 27), defScope (top 27), [], []⟩
def dd_nowhere_above : He.DefD := ⟨("nowhere_above", none), "nowhere_above", "nowhere_above", defArgs (top 28), defBody (top 28), defScope (top 28), [], []⟩
def dd_law_said : He.DefD := ⟨("_law_said", none), "_law_said", "_law_said", defArgs (top 54), defBody (top 54), defScope (top 54), [], []⟩
def dd_best_shifted : He.DefD := ⟨("_best_shifted", none), "_best_shifted", "_best_shifted", defArgs (top 34), defBody (top 34), defScope (top 34), [], []⟩
def dd_told_ticks : He.DefD := ⟨("_told_ticks", none), "_told_ticks", "_told_ticks", defArgs (top 31), defBody (top 31), defScope (top 31), [], []⟩
def dd_last_below : He.DefD := ⟨("_last_below", none), "_last_below", "_last_below", defArgs (top 30), defBody (top 30), defScope (top 30), [], []⟩
def dd_least : He.DefD := ⟨("least", none), "least", "least", defArgs (top 32), defBody (top 32), defScope (top 32), [], []⟩
def dd_convolved : He.DefD := ⟨("convolved", none), "convolved", "convolved", defArgs (top 35), defBody (top 35), defScope (top 35), [], []⟩
def dd_law_both : He.DefD := ⟨("_law_both", none), "_law_both", "_law_both", defArgs (top 53), defBody (top 53), defScope (top 53), [], []⟩
def dd_law_residual : He.DefD := ⟨("_law_residual", none), "_law_residual", "_law_residual", defArgs (top 60), defBody (top 60), defScope (top 60), [], []⟩
def dd_law : He.DefD := ⟨("law", none), "law", "law", defArgs (top 62), defBody (top 62), defScope (top 62), [], []⟩
def dx_OutOfRange : ExD := ⟨"OutOfRange", "__init__", "OutOfRange.__init__", defArgs (inClass (top 4) 0), defBody (inClass (top 4) 0), defScope (inClass (top 4) 0)⟩
def dx_TooMany : ExD := ⟨"TooMany", "__init__", "TooMany.__init__", defArgs (inClass (top 5) 0), defBody (inClass (top 5) 0), defScope (inClass (top 5) 0)⟩
def dx_BadValue : ExD := ⟨"BadValue", "__init__", "BadValue.__init__", defArgs (inClass (top 7) 0), defBody (inClass (top 7) 0), defScope (inClass (top 7) 0)⟩
def dx_TooLong : ExD := ⟨"TooLong", "__init__", "TooLong.__init__", defArgs (inClass (top 6) 0), defBody (inClass (top 6) 0), defScope (inClass (top 6) 0)⟩
def dx_Unbounded : ExD := ⟨"Unbounded", "__init__", "Unbounded.__init__", defArgs (inClass (top 8) 0), defBody (inClass (top 8) 0), defScope (inClass (top 8) 0)⟩
def fa : List He.Fa := [.noat "OutOfRange" "what", .noat "OutOfRange" "value", .free "super", .glo "OutOfRange", .noat "TooMany" "what", .noat "TooMany" "many", .glo "TooMany", .noat "BadValue" "at", .glo "BadValue", .noat "TooLong" "ticks", .glo "TooLong", .glo "Unbounded", .cls "Curve", .free "int", .glo "_law_mixed", .free "len", .free "range", .free "sum", .free "abs", .glo "_law_pool", .glo "_law_draw", .glo "_law_base", .glo "_law_long", .free "min", .glo "_law_two", .glo "bounds", .glo "_least_period", .free "tuple", .glo "_canonical", .glo "reduced", .glo "_first_fall", .noat "Curve" "rise", .noat "Curve" "head", .noat "Curve" "numbers", .noat "Curve" "rising", .noat "Curve" "period", .noat "Curve" "rate", .free "list", .int "MOST" 1000000000, .free "enumerate", .int "LONG" 400, .mkr "Curve", .glo "Curve", .glo "_law_repeats", .glo "_law_whole", .glo "_law_due", .glo "_law_common", .glo "_law_row", .free "max", .glo "_law_rest", .free "isinstance", .free "bool", .glo "_law_number", .glo "_law_shown", .glo "common_period", .glo "first_numbers", .glo "loose", .glo "made", .glo "gain_in", .free "zip", .glo "deconvolved", .exm "OutOfRange" "TooLong" false, .exm "TooMany" "TooLong" false, .exm "TooLong" "TooLong" true, .exm "BadValue" "TooLong" false, .exm "Unbounded" "TooLong" false, .exm "OutOfRange" "Unbounded" false, .exm "TooMany" "Unbounded" false, .exm "TooLong" "Unbounded" false, .exm "BadValue" "Unbounded" false, .exm "Unbounded" "Unbounded" true, .glo "_law_asked", .glo "_law_far", .glo "_law_beside", .glo "_law_below", .glo "_law_family", .glo "_law_limit", .glo "_law_met", .glo "_law_folded", .glo "first_above", .glo "nowhere_above", .glo "_law_said", .glo "_best_shifted", .glo "_told_ticks", .glo "_last_below", .glo "least", .glo "convolved", .glo "_law_both", .glo "_law_residual", .glo "law"]
def fn : List He.DefD := [dd_law_mixed, dd_law_pool, dd_law_draw, dd_law_base, dd_law_long, dd_law_two, dd_bounds, dd_least_period, dd_canonical, dd_reduced, dd_first_fall, dd_Curve_init, dd_law_repeats, dd_law_whole, dd_law_due, dd_law_common, dd_law_row, dd_law_rest, dd_law_number, dd_law_shown, dd_common_period, dd_first_numbers, dd_loose, dd_made, dd_gain_in, dd_deconvolved, dd_law_asked, dd_law_far, dd_law_beside, dd_law_below, dd_law_family, dd_law_limit, dd_law_met, dd_law_folded, dd_first_above, dd_nowhere_above, dd_law_said, dd_best_shifted, dd_told_ticks, dd_last_below, dd_least, dd_convolved, dd_law_both, dd_law_residual, dd_law]
def fx : List ExD := [dx_OutOfRange, dx_TooMany, dx_BadValue, dx_TooLong, dx_Unbounded]
def exl (K : PySem.W.Frag) : List Bool := [decide (PySem.W.kitOne K (.type "NoneType") (.ref (He.ga K "Curve")) = some false),
  decide (PySem.W.kitOne K (.type "bool") (.ref (He.ga K "Curve")) = some false),
  decide (PySem.W.kitOne K (.type "int") (.ref (He.ga K "Curve")) = some false),
  decide (PySem.W.kitOne K (.type "str") (.ref (He.ga K "Curve")) = some false),
  decide (PySem.W.kitOne K (.type "list") (.ref (He.ga K "Curve")) = some false),
  decide (PySem.W.kitOne K (.type "tuple") (.ref (He.ga K "Curve")) = some false),
  He.eqO (PySem.W.findIn K (.ref (He.ga K "Curve")) "__class__") (some (some (.builtin "object.__class__"))),
  He.eqO (PySem.W.specialIn K (.builtin "object.__class__") "__get__") (some (some (.builtin "getset_descriptor.__get__"))),
  decide (PySem.W.takesIn K (.builtin "object.__class__") = some true),
  decide (PySem.W.mroIn K (He.ga K "Curve") (.type "object") = some true),
  decide (PySem.W.kitOne K (.ref (He.ga K "Curve")) (.ref (He.ga K "Curve")) = some true),
  He.eqO (PySem.W.nsIn K mainGlobals "gcd") (some (some (.builtin "math.gcd"))),
  He.eqO (PySem.W.nsIn K mainGlobals "lcm") (some (some (.builtin "math.lcm")))]
def file : Str := Pg.main.file
def ex (K : PySem.W.Frag) : Bool := (exl K).all id
structure Fx (K : PySem.W.Frag) (mg : Str → Option Value) (h : Heap) : Prop where
  X : K.In h
  G : h.Ns mainGlobals mg
  c : SaysV file fa fn fx ex K
section
variable {w : World} {K : PySem.W.Frag} {mg : Str → Option Value} {base h : Heap}
abbrev s_OutOfRange : Stmt := inClass (top 4) 0
theorem XC_OutOfRange (F : Fx K mg h) : XfC K (He.ga K "OutOfRange") := by
  obtain ⟨fd, T, XC⟩ := F.c.exc (P := Pg) rfl 0 (d := dx_OutOfRange) rfl
  exact XC
theorem cale_OutOfRange (F : Fx K mg h) : CalE (vc K) Pg w mg base "OutOfRange" 1 1 3 [(0, 1), (1, 2)] := by
  obtain ⟨fd, T, XC⟩ := F.c.exc (P := Pg) rfl 0 (d := dx_OutOfRange) rfl
  have nsc : NdefX.NScope ((["self", "what", "value"] : List Str) ++ [("__class__" : Str)]) ["self", "what", "value"] ["__class__"] (defScope s_OutOfRange) := NdefX.nscope_by (by decide +kernel)
  refine ⟨_, fd, ["self", "what", "value"], fn_exc (k := 0) (sp := spE (He.ga K "OutOfRange") [("what", 1), ("value", 2)] 3) rfl T nsc (by decide +kernel) (He.free_ok F.X F.G (F.c.d.fact 2 (f := .free "super") rfl)) (by decide +kernel) (x0 := "self") rfl rfl rfl (fun _ => rfl) (fun vs H Q E hh => by obtain ⟨_, _, _, hn, _⟩ := hh; exact hn)
    (fun cc cda A outer s H vs Q E hr hh => ⟨by obtain ⟨a, us, e1, _, e2, _⟩ := hh; exact ⟨a, us, e1, e2⟩, tOsts K [("what", 1), ("value", 2)], (pss_osts_cons (ps_ost (pv 0) (pv 1)) (pss_osts_cons (ps_ost (pv 0) (pv 2)) pss_osts_nil)), osts_ok (l := [("what", 1), ("value", 2)]) T.ox (all_cons ⟨(He.noat_ok (F.c.d.fact 0 (f := .noat "OutOfRange" "what") rfl)), by decide⟩ (all_cons ⟨(He.noat_ok (F.c.d.fact 1 (f := .noat "OutOfRange" "value") rfl)), by decide⟩ all_nil)) (by decide) (by decide) hh⟩), T.ox, T.iC, T.tI, (He.glo_ok F.X F.G (F.c.d.fact 3 (f := .glo "OutOfRange") rfl)), ?_⟩
  obtain ⟨oc, od, kV, doc, pm, an, cda, ct, osl, cc, ccl, cdd, vs, ccs, tf, cl, cld, csl, rfl, _⟩ := T.ex
  exact Binds.all fun us hl => match us, hl with | [_, _, _], _ => rfl

abbrev s_TooMany : Stmt := inClass (top 5) 0
theorem XC_TooMany (F : Fx K mg h) : XfC K (He.ga K "TooMany") := by
  obtain ⟨fd, T, XC⟩ := F.c.exc (P := Pg) rfl 1 (d := dx_TooMany) rfl
  exact XC
theorem cale_TooMany (F : Fx K mg h) : CalE (vc K) Pg w mg base "TooMany" 2 1 3 [(0, 1), (2, 2)] := by
  obtain ⟨fd, T, XC⟩ := F.c.exc (P := Pg) rfl 1 (d := dx_TooMany) rfl
  have nsc : NdefX.NScope ((["self", "what", "many"] : List Str) ++ [("__class__" : Str)]) ["self", "what", "many"] ["__class__"] (defScope s_TooMany) := NdefX.nscope_by (by decide +kernel)
  refine ⟨_, fd, ["self", "what", "many"], fn_exc (k := 0) (sp := spE (He.ga K "TooMany") [("what", 1), ("many", 2)] 3) rfl T nsc (by decide +kernel) (He.free_ok F.X F.G (F.c.d.fact 2 (f := .free "super") rfl)) (by decide +kernel) (x0 := "self") rfl rfl rfl (fun _ => rfl) (fun vs H Q E hh => by obtain ⟨_, _, _, hn, _⟩ := hh; exact hn)
    (fun cc cda A outer s H vs Q E hr hh => ⟨by obtain ⟨a, us, e1, _, e2, _⟩ := hh; exact ⟨a, us, e1, e2⟩, tOsts K [("what", 1), ("many", 2)], (pss_osts_cons (ps_ost (pv 0) (pv 1)) (pss_osts_cons (ps_ost (pv 0) (pv 2)) pss_osts_nil)), osts_ok (l := [("what", 1), ("many", 2)]) T.ox (all_cons ⟨(He.noat_ok (F.c.d.fact 4 (f := .noat "TooMany" "what") rfl)), by decide⟩ (all_cons ⟨(He.noat_ok (F.c.d.fact 5 (f := .noat "TooMany" "many") rfl)), by decide⟩ all_nil)) (by decide) (by decide) hh⟩), T.ox, T.iC, T.tI, (He.glo_ok F.X F.G (F.c.d.fact 6 (f := .glo "TooMany") rfl)), ?_⟩
  obtain ⟨oc, od, kV, doc, pm, an, cda, ct, osl, cc, ccl, cdd, vs, ccs, tf, cl, cld, csl, rfl, _⟩ := T.ex
  exact Binds.all fun us hl => match us, hl with | [_, _, _], _ => rfl

abbrev s_BadValue : Stmt := inClass (top 7) 0
theorem XC_BadValue (F : Fx K mg h) : XfC K (He.ga K "BadValue") := by
  obtain ⟨fd, T, XC⟩ := F.c.exc (P := Pg) rfl 2 (d := dx_BadValue) rfl
  exact XC
theorem cale_BadValue (F : Fx K mg h) : CalE (vc K) Pg w mg base "BadValue" 4 1 2 [(4, 1)] := by
  obtain ⟨fd, T, XC⟩ := F.c.exc (P := Pg) rfl 2 (d := dx_BadValue) rfl
  have nsc : NdefX.NScope ((["self", "at"] : List Str) ++ [("__class__" : Str)]) ["self", "at"] ["__class__"] (defScope s_BadValue) := NdefX.nscope_by (by decide +kernel)
  refine ⟨_, fd, ["self", "at"], fn_exc (k := 0) (sp := spE (He.ga K "BadValue") [("at", 1)] 2) rfl T nsc (by decide +kernel) (He.free_ok F.X F.G (F.c.d.fact 2 (f := .free "super") rfl)) (by decide +kernel) (x0 := "self") rfl rfl rfl (fun _ => rfl) (fun vs H Q E hh => by obtain ⟨_, _, _, hn, _⟩ := hh; exact hn)
    (fun cc cda A outer s H vs Q E hr hh => ⟨by obtain ⟨a, us, e1, _, e2, _⟩ := hh; exact ⟨a, us, e1, e2⟩, tOsts K [("at", 1)], (pss_osts_cons (ps_ost (pv 0) (pv 1)) pss_osts_nil), osts_ok (l := [("at", 1)]) T.ox (all_cons ⟨(He.noat_ok (F.c.d.fact 7 (f := .noat "BadValue" "at") rfl)), by decide⟩ all_nil) (by decide) (by decide) hh⟩), T.ox, T.iC, T.tI, (He.glo_ok F.X F.G (F.c.d.fact 8 (f := .glo "BadValue") rfl)), ?_⟩
  obtain ⟨oc, od, kV, doc, pm, an, cda, ct, osl, cc, ccl, cdd, vs, ccs, tf, cl, cld, csl, rfl, _⟩ := T.ex
  exact Binds.all fun us hl => match us, hl with | [_, _], _ => rfl

abbrev s_TooLong : Stmt := inClass (top 6) 0
theorem XC_TooLong (F : Fx K mg h) : XfC K (He.ga K "TooLong") := by
  obtain ⟨fd, T, XC⟩ := F.c.exc (P := Pg) rfl 3 (d := dx_TooLong) rfl
  exact XC
theorem cale_TooLong (F : Fx K mg h) : CalE (vc K) Pg w mg base "TooLong" 3 1 2 [(3, 1)] := by
  obtain ⟨fd, T, XC⟩ := F.c.exc (P := Pg) rfl 3 (d := dx_TooLong) rfl
  have nsc : NdefX.NScope ((["self", "ticks"] : List Str) ++ [("__class__" : Str)]) ["self", "ticks"] ["__class__"] (defScope s_TooLong) := NdefX.nscope_by (by decide +kernel)
  refine ⟨_, fd, ["self", "ticks"], fn_exc (k := 0) (sp := spE (He.ga K "TooLong") [("ticks", 1)] 2) rfl T nsc (by decide +kernel) (He.free_ok F.X F.G (F.c.d.fact 2 (f := .free "super") rfl)) (by decide +kernel) (x0 := "self") rfl rfl rfl (fun _ => rfl) (fun vs H Q E hh => by obtain ⟨_, _, _, hn, _⟩ := hh; exact hn)
    (fun cc cda A outer s H vs Q E hr hh => ⟨by obtain ⟨a, us, e1, _, e2, _⟩ := hh; exact ⟨a, us, e1, e2⟩, tOsts K [("ticks", 1)], (pss_osts_cons (ps_ost (pv 0) (pv 1)) pss_osts_nil), osts_ok (l := [("ticks", 1)]) T.ox (all_cons ⟨(He.noat_ok (F.c.d.fact 9 (f := .noat "TooLong" "ticks") rfl)), by decide⟩ all_nil) (by decide) (by decide) hh⟩), T.ox, T.iC, T.tI, (He.glo_ok F.X F.G (F.c.d.fact 10 (f := .glo "TooLong") rfl)), ?_⟩
  obtain ⟨oc, od, kV, doc, pm, an, cda, ct, osl, cc, ccl, cdd, vs, ccs, tf, cl, cld, csl, rfl, _⟩ := T.ex
  exact Binds.all fun us hl => match us, hl with | [_, _], _ => rfl

abbrev s_Unbounded : Stmt := inClass (top 8) 0
theorem XC_Unbounded (F : Fx K mg h) : XfC K (He.ga K "Unbounded") := by
  obtain ⟨fd, T, XC⟩ := F.c.exc (P := Pg) rfl 4 (d := dx_Unbounded) rfl
  exact XC
theorem cale_Unbounded (F : Fx K mg h) : CalE (vc K) Pg w mg base "Unbounded" 7 1 1 [] := by
  obtain ⟨fd, T, XC⟩ := F.c.exc (P := Pg) rfl 4 (d := dx_Unbounded) rfl
  have nsc : NdefX.NScope ((["self"] : List Str) ++ [("__class__" : Str)]) ["self"] ["__class__"] (defScope s_Unbounded) := NdefX.nscope_by (by decide +kernel)
  refine ⟨_, fd, ["self"], fn_exc (k := 0) (sp := spE (He.ga K "Unbounded") [] 1) rfl T nsc (by decide +kernel) (He.free_ok F.X F.G (F.c.d.fact 2 (f := .free "super") rfl)) (by decide +kernel) (x0 := "self") rfl rfl rfl (fun _ => rfl) (fun vs H Q E hh => by obtain ⟨_, _, _, hn, _⟩ := hh; exact hn)
    (fun cc cda A outer s H vs Q E hr hh => ⟨by obtain ⟨a, us, e1, _, e2, _⟩ := hh; exact ⟨a, us, e1, e2⟩, tOsts K [], pss_osts_nil, osts_ok (l := []) T.ox all_nil (by decide) (by decide) hh⟩), T.ox, T.iC, T.tI, (He.glo_ok F.X F.G (F.c.d.fact 11 (f := .glo "Unbounded") rfl)), ?_⟩
  obtain ⟨oc, od, kV, doc, pm, an, cda, ct, osl, cc, ccl, cdd, vs, ccs, tf, cl, cld, csl, rfl, _⟩ := T.ex
  exact Binds.all fun us hl => match us, hl with | [_], _ => rfl

theorem ISIC_Curve (F : Fx K mg h) : IsiC (vc K) 5 := ⟨(He.cls_ok (F.c.d.fact 12 (f := .cls "Curve") rfl)), He.eqO_ok (ex_at F.c.more 6 (b := He.eqO (PySem.W.findIn K (.ref (He.ga K "Curve")) "__class__") (some (some (.builtin "object.__class__")))) rfl), He.eqO_ok (ex_at F.c.more 7 (b := He.eqO (PySem.W.specialIn K (.builtin "object.__class__") "__get__") (some (some (.builtin "getset_descriptor.__get__")))) rfl), of_decide_eq_true (ex_at F.c.more 8 (b := decide (PySem.W.takesIn K (.builtin "object.__class__") = some true)) rfl), of_decide_eq_true (ex_at F.c.more 9 (b := decide (PySem.W.mroIn K (He.ga K "Curve") (.type "object") = some true)) rfl)⟩

def ok_Curve : List (Nat × Bool) := [(5, true)]
theorem isf_Curve (F : Fx K mg h) : IsiF (vc K) 5 ok_Curve := by
  refine ⟨(all_cons (of_decide_eq_true (ex_at F.c.more 0 (b := decide (PySem.W.kitOne K (.type "NoneType") (.ref (He.ga K "Curve")) = some false)) rfl)) (all_cons (of_decide_eq_true (ex_at F.c.more 1 (b := decide (PySem.W.kitOne K (.type "bool") (.ref (He.ga K "Curve")) = some false)) rfl)) (all_cons (of_decide_eq_true (ex_at F.c.more 2 (b := decide (PySem.W.kitOne K (.type "int") (.ref (He.ga K "Curve")) = some false)) rfl)) (all_cons (of_decide_eq_true (ex_at F.c.more 3 (b := decide (PySem.W.kitOne K (.type "str") (.ref (He.ga K "Curve")) = some false)) rfl)) (all_cons (of_decide_eq_true (ex_at F.c.more 4 (b := decide (PySem.W.kitOne K (.type "list") (.ref (He.ga K "Curve")) = some false)) rfl)) (all_cons (of_decide_eq_true (ex_at F.c.more 5 (b := decide (PySem.W.kitOne K (.type "tuple") (.ref (He.ga K "Curve")) = some false)) rfl)) all_nil)))))), fun C b e => ?_⟩
  unfold ok_Curve at e
  rw [List.lookup_cons] at e
  by_cases q : C = 5
  · subst q
    cases e
    exact ⟨ISIC_Curve F, of_decide_eq_true (ex_at F.c.more 10 (b := decide (PySem.W.kitOne K (.ref (He.ga K "Curve")) (.ref (He.ga K "Curve")) = some true)) rfl)⟩
  · rw [beq_eq_false_iff_ne.mpr q] at e
    cases e

/-! _law_mixed -/
abbrev s_law_mixed : Stmt := top 37
abbrev N_law_mixed : List Str := ["cell", "place", "first"]
theorem sc_law_mixed : FnScope N_law_mixed ["cell", "place"] (defScope s_law_mixed) := ⟨rfl, rfl, rfl, by decide +kernel, rfl, by decide +kernel, by decide +kernel⟩
noncomputable def m_law_mixed : SemS :=
    vSeq (vAsg (vOp oPlus (vOp oTimes (vCall fInt (vCons (vVar 0) (vNil))) (vC (.int 31415926535897932384626433832795028841971693993751))) (vOp oTimes (vVar 1) (vC (.int 6962179)))) (tgN 2))
    (vSeq (vAsg (vOp oMod (vOp oPlus (vVar 2) (vC (.int 57721566490153286060651209008240243104215933593992))) (vOp oPlus (vOp oPowW (vC (.int 10)) (vC (.int 60))) (vC (.int 7)))) (tgN 2))
    (vRet (vOp oMod (vOp oTimes (vOp oTimes (vVar 2) (vVar 2)) (vVar 2)) (vOp oPlus (vOp oPowW (vC (.int 10)) (vC (.int 60))) (vC (.int 7))))))
noncomputable def ph_law_mixed : FnSem := fnSem 2 3 m_law_mixed
theorem der_law_mixed (F : Fx K mg h) {f : Addr} {cdv : Value} {A : Around} {outer : List Env} {s : Shared} {H : Hp} {E : XK} (hr : Room 0 (A.deeper (envOfC "_law_mixed" (defScope s_law_mixed) s.heap.objs.size f cdv))) :
    DSs (vc K) (cxOf (L2N.CX Pg w) Pg w K mg base N_law_mixed "_law_mixed" (defScope s_law_mixed) f cdv A outer s H E) (fun cls d _ H => E cls d H) (defBody s_law_mixed) m_law_mixed :=
  have SC := sc_law_mixed
  (dss_cons (ds_set (ps_set SC.nd rfl (by first | exact Or.inl rfl | exact Or.inr rfl) (de_plus rfl (de_times (de_toint rfl (He.free_ok F.X F.G (F.c.d.fact 13 (f := .free "int") rfl)) (da_cons (de_var (pv 0)) da_nil)) de_int) (de_times (de_var (pv 1)) de_int))))
    (dss_cons (ds_set (ps_set SC.nd rfl (by first | exact Or.inl rfl | exact Or.inr rfl) (de_mod (de_plus rfl (de_var (pv 2)) de_int) (de_plus rfl (de_pow de_int de_int) de_int))))
    (dss_one (ds_return (de_mod (de_times (de_times (de_var (pv 2)) (de_var (pv 2))) (de_var (pv 2))) (de_plus rfl (de_pow de_int de_int) de_int))))))
theorem cal_law_mixed (F : Fx K mg h) : Cal (vc K) Pg w mg base "_law_mixed" 1 2 ph_law_mixed := by
  obtain ⟨fd, FD⟩ := F.c.d.def_ 0 (d := dd_law_mixed) rfl
  exact ⟨_, fd, ["cell", "place"], fn_ok FD sc_law_mixed rfl rfl (fun cdv A outer s H E hr => der_law_mixed F hr), (He.glo_ok F.X F.G (F.c.d.fact 14 (f := .glo "_law_mixed") rfl)), FD.kp, FunD.bindsN (ps := ["cell", "place"]) FD fun _ _ _ _ _ _ us hl => match us, hl with | [_, _], _ => rfl⟩

/-! _law_pool -/
abbrev s_law_pool : Stmt := top 38
abbrev N_law_pool : List Str := ["script", "cells", "cell", "total", "pool", "k", "at"]
theorem sc_law_pool : FnScope N_law_pool ["script"] (defScope s_law_pool) := ⟨rfl, rfl, rfl, by decide +kernel, rfl, by decide +kernel, by decide +kernel⟩
noncomputable def m_law_pool : SemS :=
    vSeq (vAsg (vComp (vSrcA (vCut (vVar 0) vNoPart (vPart (vC (.int 63))))) (.nm 2) [2] (vYes) (vCall fAbs (vCons (vCall fInt (vCons (vVar 2) (vNil))) (vNil)))) (tgN 1))
    (vSeq (vAsg (vOp oPlus (vCall fSum (vCons (vComp (vSrcA (vVar 1)) (.nm 2) [2] (vYes) (vOp oMod (vVar 2) (vC (.int 1000003)))) (vNil))) (vCall fLen (vCons (vVar 1) (vNil)))) (tgN 3))
    (vSeq (vNew 4 (vLst (vCons (vC (.int 0)) (vCons (vDef 2 ph_law_mixed (vCons (vVar 3) (vCons (vC (.int 65)) (vNil)))) (vCons (vDef 2 ph_law_mixed (vCons (vVar 3) (vCons (vC (.int 64)) (vNil)))) (vCons (vDef 2 ph_law_mixed (vCons (vVar 3) (vCons (vC (.int 63)) (vNil)))) (vNil)))))))
    (vSeq (vFor (vRange1 (vCons (vCall fLen (vCons (vVar 1) (vNil))) (vNil))) (tgN 5) (vSeq (vAsg (vOp oSub (vOp oSub (vCall fLen (vCons (vVar 1) (vNil))) (vC (.int 1))) (vVar 5)) (tgN 6))
    (vIfS (vTest (vOp oLt (vOp oIx (vVar 1) (vVar 6)) (vOp oPowW (vC (.int 10)) (vC (.int 18))))) (vDrop (vMt mAppend (vVar 4) (vCons (vDef 2 ph_law_mixed (vCons (vOp oIx (vVar 1) (vVar 6)) (vCons (vVar 6) (vNil)))) (vNil)))) (vDrop (vMt mAppend (vVar 4) (vCons (vOp oMod (vOp oIx (vVar 1) (vVar 6)) (vOp oPowW (vOp oPowW (vC (.int 10)) (vC (.int 60))) (vC (.int 5)))) (vNil)))))))
    (vRet (vTake 4)))))
noncomputable def ph_law_pool : FnSem := fnSem 1 7 m_law_pool
theorem der_law_pool (F : Fx K mg h) {f : Addr} {cdv : Value} {A : Around} {outer : List Env} {s : Shared} {H : Hp} {E : XK} (hr : Room 1 (A.deeper (envOfC "_law_pool" (defScope s_law_pool) s.heap.objs.size f cdv))) :
    DSs (vc K) (cxOf (L2N.CX Pg w) Pg w K mg base N_law_pool "_law_pool" (defScope s_law_pool) f cdv A outer s H E) (fun cls d _ H => E cls d H) (defBody s_law_pool) m_law_pool :=
  have SC := sc_law_pool
  (dss_cons (ds_set (ds_setComp rfl (by decide) (ps_setLc (own := [("cell", 2)]) rfl SC.nd rfl rfl rfl (di_seq rfl (de_cut rfl (de_var (pv 0)) do_none (do_some de_int))) (blkOk_by (by kernel_rfl)) (fun _ _ _ _ _ => pg_name SC.nd rfl (by first | exact Or.inl rfl | exact Or.inr rfl)) (fun _ _ _ _ _ => dts_nil) (fun _ _ _ _ _ => (de_abs rfl (He.free_ok F.X F.G (F.c.d.fact 18 (f := .free "abs") rfl)) (da_cons (de_toint rfl (He.free_ok F.X F.G (F.c.d.fact 13 (f := .free "int") rfl)) (da_cons (de_var (pv 2)) da_nil)) da_nil))))))
    (dss_cons (ds_set (ps_set SC.nd rfl (by first | exact Or.inl rfl | exact Or.inr rfl) (de_plus rfl (de_sum rfl rfl rfl (He.free_ok F.X F.G (F.c.d.fact 17 (f := .free "sum") rfl)) (da_cons (de_comp rfl (by decide) (pe_lc (own := [("cell", 2)]) rfl SC.nd (di_seq rfl (de_var (pv 1))) (blkOk_by (by kernel_rfl)) (fun _ _ _ _ _ => pg_name SC.nd rfl (by first | exact Or.inl rfl | exact Or.inr rfl)) (fun _ _ _ _ _ => dts_nil) (fun _ _ _ _ _ => (de_mod (de_var (pv 2)) de_int)))) da_nil)) (de_len rfl rfl (He.free_ok F.X F.G (F.c.d.fact 15 (f := .free "len") rfl)) (da_cons (de_var (pv 1)) da_nil)))))
    (dss_cons (ds_new (ps_set SC.nd rfl (by first | exact Or.inl rfl | exact Or.inr rfl) (de_lst (da_cons de_int (da_cons (de_cal rfl (cal_law_mixed F) hr tkc (by decide) rfl (da_cons (de_var (pv 3)) (da_cons de_int da_nil))) (da_cons (de_cal rfl (cal_law_mixed F) hr tkc (by decide) rfl (da_cons (de_var (pv 3)) (da_cons de_int da_nil))) (da_cons (de_cal rfl (cal_law_mixed F) hr tkc (by decide) rfl (da_cons (de_var (pv 3)) (da_cons de_int da_nil))) da_nil)))))))
    (dss_cons (ds_for hpc rfl (di_range1 rfl (He.free_ok F.X F.G (F.c.d.fact 16 (f := .free "range") rfl)) (da_cons (de_len rfl rfl (He.free_ok F.X F.G (F.c.d.fact 15 (f := .free "len") rfl)) (da_cons (de_var (pv 1)) da_nil)) da_nil)) (dg_name (pg_name SC.nd rfl (by first | exact Or.inl rfl | exact Or.inr rfl))) (dss_cons (ds_set (ps_set SC.nd rfl (by first | exact Or.inl rfl | exact Or.inr rfl) (de_minus (de_minus (de_len rfl rfl (He.free_ok F.X F.G (F.c.d.fact 15 (f := .free "len") rfl)) (da_cons (de_var (pv 1)) da_nil)) de_int) (de_var (pv 5)))))
    (dss_one (ds_if (dt_lt (de_ix rfl (de_var (pv 1)) (de_var (pv 6)) (fun _ _ => rfl)) (de_pow de_int de_int)) (dss_one (ds_expr (de_append rfl (de_var (pv 4)) (da_cons (de_cal rfl (cal_law_mixed F) hr tkc (by decide) rfl (da_cons (de_ix rfl (de_var (pv 1)) (de_var (pv 6)) (fun _ _ => rfl)) (da_cons (de_var (pv 6)) da_nil))) da_nil) (fun h1 h2 => pe_bm PySem.F.plainAttrs_list PySem.F.slot_list_append (by kernel_rfl) mt_append h1 h2)))) (dss_one (ds_expr (de_append rfl (de_var (pv 4)) (da_cons (de_mod (de_ix rfl (de_var (pv 1)) (de_var (pv 6)) (fun _ _ => rfl)) (de_pow (de_pow de_int de_int) de_int)) da_nil) (fun h1 h2 => pe_bm PySem.F.plainAttrs_list PySem.F.slot_list_append (by kernel_rfl) mt_append h1 h2))))))))
    (dss_one (ds_return (de_take (pv 4))))))))
theorem cal_law_pool (F : Fx K mg h) : Cal (vc K) Pg w mg base "_law_pool" 2 1 ph_law_pool := by
  obtain ⟨fd, FD⟩ := F.c.d.def_ 1 (d := dd_law_pool) rfl
  exact ⟨_, fd, ["script"], fn_ok FD sc_law_pool rfl rfl (fun cdv A outer s H E hr => der_law_pool F hr), (He.glo_ok F.X F.G (F.c.d.fact 19 (f := .glo "_law_pool") rfl)), FD.kp, FunD.bindsN (ps := ["script"]) FD fun _ _ _ _ _ _ us hl => match us, hl with | [_], _ => rfl⟩

/-! _law_draw -/
abbrev s_law_draw : Stmt := top 39
abbrev N_law_draw : List Str := ["pool", "many", "told"]
theorem sc_law_draw : FnScope N_law_draw ["pool", "many"] (defScope s_law_draw) := ⟨rfl, rfl, rfl, by decide +kernel, rfl, by decide +kernel, by decide +kernel⟩
noncomputable def m_law_draw : SemS :=
    vSeq (vAsg (vOp oMod (vCall fInt (vCons (vOp oIx (vVar 0) (vNeg (vC (.int 1)))) (vNil))) (vVar 1)) (tgN 2))
    (vSeq (vAsg (vOp oFdiv (vOp oIx (vVar 0) (vNeg (vC (.int 1)))) (vVar 1)) (tgI (vVar 0) (vNeg (vC (.int 1)))))
    (vSeq (vIfS (vAnd (vTest (vOp oEq (vOp oIx (vVar 0) (vNeg (vC (.int 1)))) (vC (.int 0)))) (vTest (vOp oGt (vCall fLen (vCons (vVar 0) (vNil))) (vC (.int 1))))) (vDrop (vMt mPop (vVar 0) vNil)) (vNext))
    (vRet (vVar 2))))
noncomputable def ph_law_draw : FnSem := fnSem 2 3 m_law_draw
theorem der_law_draw (F : Fx K mg h) {f : Addr} {cdv : Value} {A : Around} {outer : List Env} {s : Shared} {H : Hp} {E : XK} (hr : Room 0 (A.deeper (envOfC "_law_draw" (defScope s_law_draw) s.heap.objs.size f cdv))) :
    DSs (vc K) (cxOf (L2N.CX Pg w) Pg w K mg base N_law_draw "_law_draw" (defScope s_law_draw) f cdv A outer s H E) (fun cls d _ H => E cls d H) (defBody s_law_draw) m_law_draw :=
  have SC := sc_law_draw
  (dss_cons (ds_set (ps_set SC.nd rfl (by first | exact Or.inl rfl | exact Or.inr rfl) (de_mod (de_toint rfl (He.free_ok F.X F.G (F.c.d.fact 13 (f := .free "int") rfl)) (da_cons (de_ix rfl (de_var (pv 0)) (de_neg de_int) (fun _ _ => rfl)) da_nil)) (de_var (pv 1)))))
    (dss_cons (ds_asg (de_fdiv (de_ix rfl (de_var (pv 0)) (de_neg de_int) (fun _ _ => rfl)) (de_var (pv 1))) (dg_sub (de_var (pv 0)) (de_neg de_int) (fun h1 h2 => pg_sub h1 h2 set_list)) tgI_t)
    (dss_cons (ds_if (dt_w (dw_and (dt_eq rfl hr (de_ix rfl (de_var (pv 0)) (de_neg de_int) (fun _ _ => rfl)) de_int) (dw_and1 (dt_gt (de_len rfl rfl (He.free_ok F.X F.G (F.c.d.fact 15 (f := .free "len") rfl)) (da_cons (de_var (pv 0)) da_nil)) de_int)))) (dss_one (ds_expr (de_pop0 rfl (de_var (pv 0)) (fun h1 => pe_bm0 PySem.F.plainAttrs_list PySem.F.slot_list_pop (by kernel_rfl) mt_pop h1)))) dss_nil)
    (dss_one (ds_return (de_var (pv 2)))))))
theorem cal_law_draw (F : Fx K mg h) : Cal (vc K) Pg w mg base "_law_draw" 1 2 ph_law_draw := by
  obtain ⟨fd, FD⟩ := F.c.d.def_ 2 (d := dd_law_draw) rfl
  exact ⟨_, fd, ["pool", "many"], fn_ok FD sc_law_draw rfl rfl (fun cdv A outer s H E hr => der_law_draw F hr), (He.glo_ok F.X F.G (F.c.d.fact 20 (f := .glo "_law_draw") rfl)), FD.kp, FunD.bindsN (ps := ["pool", "many"]) FD fun _ _ _ _ _ _ us hl => match us, hl with | [_, _], _ => rfl⟩

/-! _law_base -/
abbrev s_law_base : Stmt := top 56
abbrev N_law_base : List Str := ["pool", "size", "period", "wide", "numbers", "k"]
theorem sc_law_base : FnScope N_law_base ["pool"] (defScope s_law_base) := ⟨rfl, rfl, rfl, by decide +kernel, rfl, by decide +kernel, by decide +kernel⟩
noncomputable def m_law_base : SemS :=
    vSeq (vAsg (vOp oPlus (vC (.int 1)) (vDef 2 ph_law_draw (vCons (vVar 0) (vCons (vC (.int 6)) (vNil))))) (tgN 1))
    (vSeq (vAsg (vOp oPlus (vC (.int 1)) (vDef 2 ph_law_draw (vCons (vVar 0) (vCons (vVar 1) (vNil))))) (tgN 2))
    (vSeq (vAsg (vOp oIx (vLst (vCons (vC (.int 19)) (vCons (vC (.int 3)) (vNil)))) (vDef 2 ph_law_draw (vCons (vVar 0) (vCons (vC (.int 2)) (vNil))))) (tgN 3))
    (vSeq (vAsg (vComp (vRange1 (vCons (vVar 1) (vNil))) (.nm 5) [5] (vYes) (vOp oSub (vDef 2 ph_law_draw (vCons (vVar 0) (vCons (vVar 3) (vNil)))) (vOp oFdiv (vVar 3) (vC (.int 2))))) (tgN 4))
    (vRet (vTup (vCons (vVar 4) (vCons (vVar 2) (vCons (vOp oSub (vDef 2 ph_law_draw (vCons (vVar 0) (vCons (vC (.int 7)) (vNil)))) (vC (.int 3))) (vNil)))))))))
noncomputable def ph_law_base : FnSem := fnSem 1 6 m_law_base
theorem der_law_base (F : Fx K mg h) {f : Addr} {cdv : Value} {A : Around} {outer : List Env} {s : Shared} {H : Hp} {E : XK} (hr : Room 1 (A.deeper (envOfC "_law_base" (defScope s_law_base) s.heap.objs.size f cdv))) :
    DSs (vc K) (cxOf (L2N.CX Pg w) Pg w K mg base N_law_base "_law_base" (defScope s_law_base) f cdv A outer s H E) (fun cls d _ H => E cls d H) (defBody s_law_base) m_law_base :=
  have SC := sc_law_base
  (dss_cons (ds_set (ps_set SC.nd rfl (by first | exact Or.inl rfl | exact Or.inr rfl) (de_plus rfl de_int (de_cal rfl (cal_law_draw F) hr tkc (by decide) rfl (da_cons (de_var (pv 0)) (da_cons de_int da_nil))))))
    (dss_cons (ds_set (ps_set SC.nd rfl (by first | exact Or.inl rfl | exact Or.inr rfl) (de_plus rfl de_int (de_cal rfl (cal_law_draw F) hr tkc (by decide) rfl (da_cons (de_var (pv 0)) (da_cons (de_var (pv 1)) da_nil))))))
    (dss_cons (ds_set (ps_set SC.nd rfl (by first | exact Or.inl rfl | exact Or.inr rfl) (de_ix rfl (de_lst (da_cons de_int (da_cons de_int da_nil))) (de_cal rfl (cal_law_draw F) hr tkc (by decide) rfl (da_cons (de_var (pv 0)) (da_cons de_int da_nil))) (fun _ _ => rfl))))
    (dss_cons (ds_set (ds_setComp rfl (by decide) (ps_setLc (own := [("k", 5)]) rfl SC.nd rfl rfl rfl (di_range1 rfl (He.free_ok F.X F.G (F.c.d.fact 16 (f := .free "range") rfl)) (da_cons (de_var (pv 1)) da_nil)) (blkOk_by (by kernel_rfl)) (fun _ _ _ _ _ => pg_name SC.nd rfl (by first | exact Or.inl rfl | exact Or.inr rfl)) (fun _ _ _ _ _ => dts_nil) (fun _ _ _ _ _ => (de_minus (de_cal rfl (cal_law_draw F) hr takesF (by decide) rfl (da_cons (de_var (pv 0)) (da_cons (de_var (pv 3)) da_nil))) (de_fdiv (de_var (pv 3)) de_int))))))
    (dss_one (ds_return (de_tup (da_cons (de_var (pv 4)) (da_cons (de_var (pv 2)) (da_cons (de_minus (de_cal rfl (cal_law_draw F) hr tkc (by decide) rfl (da_cons (de_var (pv 0)) (da_cons de_int da_nil))) de_int) da_nil))))))))))
theorem cal_law_base (F : Fx K mg h) : Cal (vc K) Pg w mg base "_law_base" 2 1 ph_law_base := by
  obtain ⟨fd, FD⟩ := F.c.d.def_ 3 (d := dd_law_base) rfl
  exact ⟨_, fd, ["pool"], fn_ok FD sc_law_base rfl rfl (fun cdv A outer s H E hr => der_law_base F hr), (He.glo_ok F.X F.G (F.c.d.fact 21 (f := .glo "_law_base") rfl)), FD.kp, FunD.bindsN (ps := ["pool"]) FD fun _ _ _ _ _ _ us hl => match us, hl with | [_], _ => rfl⟩

/-! _law_long -/
abbrev s_law_long : Stmt := top 57
abbrev N_law_long : List Str := ["pool", "period", "size", "numbers", "k"]
theorem sc_law_long : FnScope N_law_long ["pool", "period"] (defScope s_law_long) := ⟨rfl, rfl, rfl, by decide +kernel, rfl, by decide +kernel, by decide +kernel⟩
noncomputable def m_law_long : SemS :=
    vSeq (vAsg (vOp oPlus (vVar 1) (vDef 2 ph_law_draw (vCons (vVar 0) (vCons (vC (.int 3)) (vNil))))) (tgN 2))
    (vSeq (vNew 3 (vComp (vRange1 (vCons (vVar 2) (vNil))) (.nm 4) [4] (vYes) (vDef 2 ph_law_draw (vCons (vVar 0) (vCons (vC (.int 4)) (vNil))))))
    (vSeq (vAsg (vOp oPlus (vOp oIx (vVar 3) (vNeg (vC (.int 1)))) (vC (.int 9))) (tgI (vVar 3) (vNeg (vC (.int 1)))))
    (vRet (vTup (vCons (vTake 3) (vCons (vVar 1) (vCons (vOp oSub (vDef 2 ph_law_draw (vCons (vVar 0) (vCons (vC (.int 3)) (vNil)))) (vC (.int 1))) (vNil))))))))
noncomputable def ph_law_long : FnSem := fnSem 2 5 m_law_long
theorem der_law_long (F : Fx K mg h) {f : Addr} {cdv : Value} {A : Around} {outer : List Env} {s : Shared} {H : Hp} {E : XK} (hr : Room 1 (A.deeper (envOfC "_law_long" (defScope s_law_long) s.heap.objs.size f cdv))) :
    DSs (vc K) (cxOf (L2N.CX Pg w) Pg w K mg base N_law_long "_law_long" (defScope s_law_long) f cdv A outer s H E) (fun cls d _ H => E cls d H) (defBody s_law_long) m_law_long :=
  have SC := sc_law_long
  (dss_cons (ds_set (ps_set SC.nd rfl (by first | exact Or.inl rfl | exact Or.inr rfl) (de_plus rfl (de_var (pv 1)) (de_cal rfl (cal_law_draw F) hr tkc (by decide) rfl (da_cons (de_var (pv 0)) (da_cons de_int da_nil))))))
    (dss_cons (ds_new (ds_setComp rfl (by decide) (ps_setLc (own := [("k", 4)]) rfl SC.nd rfl rfl rfl (di_range1 rfl (He.free_ok F.X F.G (F.c.d.fact 16 (f := .free "range") rfl)) (da_cons (de_var (pv 2)) da_nil)) (blkOk_by (by kernel_rfl)) (fun _ _ _ _ _ => pg_name SC.nd rfl (by first | exact Or.inl rfl | exact Or.inr rfl)) (fun _ _ _ _ _ => dts_nil) (fun _ _ _ _ _ => (de_cal rfl (cal_law_draw F) hr takesF (by decide) rfl (da_cons (de_var (pv 0)) (da_cons de_int da_nil)))))))
    (dss_cons (ds_asg (de_plus rfl (de_ix rfl (de_var (pv 3)) (de_neg de_int) (fun _ _ => rfl)) de_int) (dg_sub (de_var (pv 3)) (de_neg de_int) (fun h1 h2 => pg_sub h1 h2 set_list)) tgI_t)
    (dss_one (ds_return (de_tup (da_cons (de_take (pv 3)) (da_cons (de_var (pv 1)) (da_cons (de_minus (de_cal rfl (cal_law_draw F) hr tkc (by decide) rfl (da_cons (de_var (pv 0)) (da_cons de_int da_nil))) de_int) da_nil)))))))))
theorem cal_law_long (F : Fx K mg h) : Cal (vc K) Pg w mg base "_law_long" 2 2 ph_law_long := by
  obtain ⟨fd, FD⟩ := F.c.d.def_ 4 (d := dd_law_long) rfl
  exact ⟨_, fd, ["pool", "period"], fn_ok FD sc_law_long rfl rfl (fun cdv A outer s H E hr => der_law_long F hr), (He.glo_ok F.X F.G (F.c.d.fact 22 (f := .glo "_law_long") rfl)), FD.kp, FunD.bindsN (ps := ["pool", "period"]) FD fun _ _ _ _ _ _ us hl => match us, hl with | [_, _], _ => rfl⟩

/-! _law_two -/
abbrev s_law_two : Stmt := top 58
abbrev N_law_two : List Str := ["pool", "mode", "sizes", "one", "two", "period"]
theorem sc_law_two : FnScope N_law_two ["pool"] (defScope s_law_two) := ⟨rfl, rfl, rfl, by decide +kernel, rfl, by decide +kernel, by decide +kernel⟩
noncomputable def m_law_two : SemS :=
    vSeq (vAsg (vDef 2 ph_law_draw (vCons (vVar 0) (vCons (vC (.int 8)) (vNil)))) (tgN 1))
    (vSeq (vIfS (vTest (vOp oEq (vVar 1) (vC (.int 0)))) (vSeq (vAsg (vOp oIx (vLst (vCons (vTup (vCons (vC (.int 7)) (vCons (vC (.int 9)) (vNil)))) (vCons (vTup (vCons (vC (.int 12)) (vCons (vC (.int 13)) (vNil)))) (vCons (vTup (vCons (vC (.int 16)) (vCons (vC (.int 25)) (vNil)))) (vCons (vTup (vCons (vC (.int 19)) (vCons (vC (.int 21)) (vNil)))) (vNil)))))) (vDef 2 ph_law_draw (vCons (vVar 0) (vCons (vC (.int 4)) (vNil))))) (tgN 2))
    (vRet (vLst (vCons (vDef 2 ph_law_long (vCons (vVar 0) (vCons (vOp oIx (vVar 2) (vC (.int 0))) (vNil)))) (vCons (vDef 2 ph_law_long (vCons (vVar 0) (vCons (vOp oIx (vVar 2) (vC (.int 1))) (vNil)))) (vNil)))))) (vNext))
    (vSeq (vAsg (vDef 1 ph_law_base (vCons (vVar 0) (vNil))) (tgN 3))
    (vSeq (vAsg (vDef 1 ph_law_base (vCons (vVar 0) (vNil))) (tgN 4))
    (vSeq (vIfS (vTest (vOp oLt (vVar 1) (vC (.int 3)))) (vSeq (vAsg (vCall fMin2 (vCons (vOp oIx (vVar 3) (vC (.int 1))) (vCons (vOp oIx (vVar 4) (vC (.int 1))) (vNil)))) (tgN 5))
    (vRet (vLst (vCons (vTup (vCons (vOp oIx (vVar 3) (vC (.int 0))) (vCons (vVar 5) (vCons (vOp oIx (vVar 3) (vC (.int 2))) (vNil))))) (vCons (vTup (vCons (vOp oIx (vVar 4) (vC (.int 0))) (vCons (vVar 5) (vCons (vOp oIx (vVar 3) (vC (.int 2))) (vNil))))) (vNil)))))) (vNext))
    (vRet (vLst (vCons (vVar 3) (vCons (vVar 4) (vNil)))))))))
noncomputable def ph_law_two : FnSem := fnSem 1 6 m_law_two
theorem der_law_two (F : Fx K mg h) {f : Addr} {cdv : Value} {A : Around} {outer : List Env} {s : Shared} {H : Hp} {E : XK} (hr : Room 2 (A.deeper (envOfC "_law_two" (defScope s_law_two) s.heap.objs.size f cdv))) :
    DSs (vc K) (cxOf (L2N.CX Pg w) Pg w K mg base N_law_two "_law_two" (defScope s_law_two) f cdv A outer s H E) (fun cls d _ H => E cls d H) (defBody s_law_two) m_law_two :=
  have SC := sc_law_two
  (dss_cons (ds_set (ps_set SC.nd rfl (by first | exact Or.inl rfl | exact Or.inr rfl) (de_cal rfl (cal_law_draw F) hr tkc (by decide) rfl (da_cons (de_var (pv 0)) (da_cons de_int da_nil)))))
    (dss_cons (ds_if (dt_eq rfl hr (de_var (pv 1)) de_int) (dss_cons (ds_set (ps_set SC.nd rfl (by first | exact Or.inl rfl | exact Or.inr rfl) (de_ix rfl (de_lst (da_cons (de_tup (da_cons de_int (da_cons de_int da_nil))) (da_cons (de_tup (da_cons de_int (da_cons de_int da_nil))) (da_cons (de_tup (da_cons de_int (da_cons de_int da_nil))) (da_cons (de_tup (da_cons de_int (da_cons de_int da_nil))) da_nil))))) (de_cal rfl (cal_law_draw F) hr tkc (by decide) rfl (da_cons (de_var (pv 0)) (da_cons de_int da_nil))) (fun _ _ => rfl))))
    (dss_one (ds_return (de_lst (da_cons (de_cal rfl (cal_law_long F) hr tkc (by decide) rfl (da_cons (de_var (pv 0)) (da_cons (de_ix rfl (de_var (pv 2)) de_int (fun _ _ => rfl)) da_nil))) (da_cons (de_cal rfl (cal_law_long F) hr tkc (by decide) rfl (da_cons (de_var (pv 0)) (da_cons (de_ix rfl (de_var (pv 2)) de_int (fun _ _ => rfl)) da_nil))) da_nil)))))) dss_nil)
    (dss_cons (ds_set (ps_set SC.nd rfl (by first | exact Or.inl rfl | exact Or.inr rfl) (de_cal rfl (cal_law_base F) hr tkc (by decide) rfl (da_cons (de_var (pv 0)) da_nil))))
    (dss_cons (ds_set (ps_set SC.nd rfl (by first | exact Or.inl rfl | exact Or.inr rfl) (de_cal rfl (cal_law_base F) hr tkc (by decide) rfl (da_cons (de_var (pv 0)) da_nil))))
    (dss_cons (ds_if (dt_lt (de_var (pv 1)) de_int) (dss_cons (ds_set (ps_set SC.nd rfl (by first | exact Or.inl rfl | exact Or.inr rfl) (de_min2 rfl rfl (He.free_ok F.X F.G (F.c.d.fact 23 (f := .free "min") rfl)) (da_cons (de_ix rfl (de_var (pv 3)) de_int (fun _ _ => rfl)) (da_cons (de_ix rfl (de_var (pv 4)) de_int (fun _ _ => rfl)) da_nil)))))
    (dss_one (ds_return (de_lst (da_cons (de_tup (da_cons (de_ix rfl (de_var (pv 3)) de_int (fun _ _ => rfl)) (da_cons (de_var (pv 5)) (da_cons (de_ix rfl (de_var (pv 3)) de_int (fun _ _ => rfl)) da_nil)))) (da_cons (de_tup (da_cons (de_ix rfl (de_var (pv 4)) de_int (fun _ _ => rfl)) (da_cons (de_var (pv 5)) (da_cons (de_ix rfl (de_var (pv 3)) de_int (fun _ _ => rfl)) da_nil)))) da_nil)))))) dss_nil)
    (dss_one (ds_return (de_lst (da_cons (de_var (pv 3)) (da_cons (de_var (pv 4)) da_nil))))))))))
theorem cal_law_two (F : Fx K mg h) : Cal (vc K) Pg w mg base "_law_two" 3 1 ph_law_two := by
  obtain ⟨fd, FD⟩ := F.c.d.def_ 5 (d := dd_law_two) rfl
  exact ⟨_, fd, ["pool"], fn_ok FD sc_law_two rfl rfl (fun cdv A outer s H E hr => der_law_two F hr), (He.glo_ok F.X F.G (F.c.d.fact 24 (f := .glo "_law_two") rfl)), FD.kp, FunD.bindsN (ps := ["pool"]) FD fun _ _ _ _ _ _ us hl => match us, hl with | [_], _ => rfl⟩

/-! bounds -/
abbrev s_bounds : Stmt := top 10
abbrev N_bounds : List Str := ["what", "value", "low", "high"]
theorem sc_bounds : FnScope N_bounds ["what", "value", "low", "high"] (defScope s_bounds) := ⟨rfl, rfl, rfl, by decide +kernel, rfl, by decide +kernel, by decide +kernel⟩
noncomputable def m_bounds : SemS :=
    vIfS (vNot (vTest (vChain2 oLe oLe (vVar 2) (vVar 1) (vVar 3)))) (vRaise 1 3 [(0, 1), (1, 2)] (vCons (vVar 0) (vCons (vVar 1) (vNil)))) (vNext)
noncomputable def ph_bounds : FnSem := fnSem 4 4 m_bounds
theorem der_bounds (F : Fx K mg h) {f : Addr} {cdv : Value} {A : Around} {outer : List Env} {s : Shared} {H : Hp} {E : XK} (hr : Room 2 (A.deeper (envOfC "bounds" (defScope s_bounds) s.heap.objs.size f cdv))) :
    DSs (vc K) (cxOf (L2N.CX Pg w) Pg w K mg base N_bounds "bounds" (defScope s_bounds) f cdv A outer s H E) (fun cls d _ H => E cls d H) (defBody s_bounds) m_bounds :=
  have SC := sc_bounds
  (dss_one (ds_if (dt_not (dt_between (de_var (pv 2)) (de_var (pv 1)) (de_var (pv 3)))) (dss_one (ds_calE rfl (cale_OutOfRange F) hr tkc rfl (by decide) rfl (da_cons (de_var (pv 0)) (da_cons (de_var (pv 1)) da_nil)))) dss_nil))
theorem cal_bounds (F : Fx K mg h) : Cal (vc K) Pg w mg base "bounds" 3 4 ph_bounds := by
  obtain ⟨fd, FD⟩ := F.c.d.def_ 6 (d := dd_bounds) rfl
  exact ⟨_, fd, ["what", "value", "low", "high"], fn_ok FD sc_bounds rfl rfl (fun cdv A outer s H E hr => der_bounds F hr), (He.glo_ok F.X F.G (F.c.d.fact 25 (f := .glo "bounds") rfl)), FD.kp, FunD.bindsN (ps := ["what", "value", "low", "high"]) FD fun _ _ _ _ _ _ us hl => match us, hl with | [_, _, _, _], _ => rfl⟩

/-! _least_period -/
abbrev s_least_period : Stmt := top 16
abbrev N_least_period : List Str := ["tail", "rise", "many", "part", "gain", "number"]
theorem sc_least_period : FnScope N_least_period ["tail", "rise"] (defScope s_least_period) := ⟨rfl, rfl, rfl, by decide +kernel, rfl, by decide +kernel, by decide +kernel⟩
noncomputable def m_least_period : SemS :=
    vSeq (vAsg (vCall fLen (vCons (vVar 0) (vNil))) (tgN 2))
    (vSeq (vFor (vRange2 (vCons (vC (.int 1)) (vCons (vVar 2) (vNil)))) (tgN 3) (vIfS (vAnd (vTest (vOp oEq (vOp oMod (vVar 2) (vVar 3)) (vC (.int 0)))) (vTest (vOp oEq (vOp oMod (vOp oTimes (vVar 1) (vVar 3)) (vVar 2)) (vC (.int 0))))) (vSeq (vAsg (vOp oFdiv (vOp oTimes (vVar 1) (vVar 3)) (vVar 2)) (tgN 4))
    (vIfS (vTest (vOp oEq (vCut (vVar 0) (vPart (vVar 3)) vNoPart) (vComp (vSrcA (vCut (vVar 0) vNoPart (vPart (vOp oSub (vVar 2) (vVar 3))))) (.nm 5) [5] (vYes) (vOp oPlus (vVar 5) (vVar 4))))) (vRet (vTup (vCons (vVar 3) (vCons (vVar 4) (vNil))))) (vNext))) (vNext)))
    (vRet (vTup (vCons (vVar 2) (vCons (vVar 1) (vNil))))))
noncomputable def ph_least_period : FnSem := fnSem 2 6 m_least_period
theorem der_least_period (F : Fx K mg h) {f : Addr} {cdv : Value} {A : Around} {outer : List Env} {s : Shared} {H : Hp} {E : XK} (hr : Room 0 (A.deeper (envOfC "_least_period" (defScope s_least_period) s.heap.objs.size f cdv))) :
    DSs (vc K) (cxOf (L2N.CX Pg w) Pg w K mg base N_least_period "_least_period" (defScope s_least_period) f cdv A outer s H E) (fun cls d _ H => E cls d H) (defBody s_least_period) m_least_period :=
  have SC := sc_least_period
  (dss_cons (ds_set (ps_set SC.nd rfl (by first | exact Or.inl rfl | exact Or.inr rfl) (de_len rfl rfl (He.free_ok F.X F.G (F.c.d.fact 15 (f := .free "len") rfl)) (da_cons (de_var (pv 0)) da_nil))))
    (dss_cons (ds_for hpc rfl (di_range2 rfl (He.free_ok F.X F.G (F.c.d.fact 16 (f := .free "range") rfl)) (da_cons de_int (da_cons (de_var (pv 2)) da_nil)) (fun h => pi_range2 rfl (He.free_ok F.X F.G (F.c.d.fact 16 (f := .free "range") rfl)) h)) (dg_name (pg_name SC.nd rfl (by first | exact Or.inl rfl | exact Or.inr rfl))) (dss_one (ds_if (dt_w (dw_and (dt_eq rfl hr (de_mod (de_var (pv 2)) (de_var (pv 3))) de_int) (dw_and1 (dt_eq rfl hr (de_mod (de_times (de_var (pv 1)) (de_var (pv 3))) (de_var (pv 2))) de_int)))) (dss_cons (ds_set (ps_set SC.nd rfl (by first | exact Or.inl rfl | exact Or.inr rfl) (de_fdiv (de_times (de_var (pv 1)) (de_var (pv 3))) (de_var (pv 2)))))
    (dss_one (ds_if (dt_eq rfl hr (de_cut rfl (de_var (pv 0)) (do_some (de_var (pv 3))) do_none) (de_comp rfl (by decide) (pe_lc (own := [("number", 5)]) rfl SC.nd (di_seq rfl (de_cut rfl (de_var (pv 0)) do_none (do_some (de_minus (de_var (pv 2)) (de_var (pv 3)))))) (blkOk_by (by kernel_rfl)) (fun _ _ _ _ _ => pg_name SC.nd rfl (by first | exact Or.inl rfl | exact Or.inr rfl)) (fun _ _ _ _ _ => dts_nil) (fun _ _ _ _ _ => (de_plus rfl (de_var (pv 5)) (de_var (pv 4))))))) (dss_one (ds_return (de_tup (da_cons (de_var (pv 3)) (da_cons (de_var (pv 4)) da_nil))))) dss_nil))) dss_nil)))
    (dss_one (ds_return (de_tup (da_cons (de_var (pv 2)) (da_cons (de_var (pv 1)) da_nil)))))))
theorem cal_least_period (F : Fx K mg h) : Cal (vc K) Pg w mg base "_least_period" 1 2 ph_least_period := by
  obtain ⟨fd, FD⟩ := F.c.d.def_ 7 (d := dd_least_period) rfl
  exact ⟨_, fd, ["tail", "rise"], fn_ok FD sc_least_period rfl rfl (fun cdv A outer s H E hr => der_least_period F hr), (He.glo_ok F.X F.G (F.c.d.fact 26 (f := .glo "_least_period") rfl)), FD.kp, FunD.bindsN (ps := ["tail", "rise"]) FD fun _ _ _ _ _ _ us hl => match us, hl with | [_, _], _ => rfl⟩

/-! _canonical -/
abbrev s_canonical : Stmt := top 17
abbrev N_canonical : List Str := ["numbers", "period", "rise", "start", "part", "gain", "head"]
theorem sc_canonical : FnScope N_canonical ["numbers", "period", "rise"] (defScope s_canonical) := ⟨rfl, rfl, rfl, by decide +kernel, rfl, by decide +kernel, by decide +kernel⟩
noncomputable def m_canonical : SemS :=
    vSeq (vAsg (vOp oSub (vCall fLen (vCons (vVar 0) (vNil))) (vVar 1)) (tgN 3))
    (vSeq (vAsg (vDef 2 ph_least_period (vCons (vCut (vVar 0) (vPart (vVar 3)) vNoPart) (vCons (vVar 2) (vNil)))) (tgTup 2 (tgsCons (tgN 4) (tgsCons (tgN 5) (tgsNil)))))
    (vSeq (vAsg (vVar 3) (tgN 6))
    (vSeq (vWhile (vAnd (vTest (vOp oGt (vVar 6) (vC (.int 0)))) (vTest (vOp oEq (vOp oIx (vVar 0) (vOp oPlus (vOp oSub (vVar 6) (vC (.int 1))) (vVar 4))) (vOp oPlus (vOp oIx (vVar 0) (vOp oSub (vVar 6) (vC (.int 1)))) (vVar 5))))) (vAug 6 (fun a b => a - b) (vC (.int 1))))
    (vRet (vTup (vCons (vCall fTuple (vCons (vCut (vVar 0) vNoPart (vPart (vOp oPlus (vVar 6) (vVar 4)))) (vNil))) (vCons (vVar 4) (vCons (vVar 5) (vNil)))))))))
noncomputable def ph_canonical : FnSem := fnSem 3 7 m_canonical
theorem der_canonical (F : Fx K mg h) {f : Addr} {cdv : Value} {A : Around} {outer : List Env} {s : Shared} {H : Hp} {E : XK} (hr : Room 1 (A.deeper (envOfC "_canonical" (defScope s_canonical) s.heap.objs.size f cdv))) :
    DSs (vc K) (cxOf (L2N.CX Pg w) Pg w K mg base N_canonical "_canonical" (defScope s_canonical) f cdv A outer s H E) (fun cls d _ H => E cls d H) (defBody s_canonical) m_canonical :=
  have SC := sc_canonical
  (dss_cons (ds_set (ps_set SC.nd rfl (by first | exact Or.inl rfl | exact Or.inr rfl) (de_minus (de_len rfl rfl (He.free_ok F.X F.G (F.c.d.fact 15 (f := .free "len") rfl)) (da_cons (de_var (pv 0)) da_nil)) (de_var (pv 1)))))
    (dss_cons (ds_asg (de_cal rfl (cal_least_period F) hr tkc (by decide) rfl (da_cons (de_cut rfl (de_var (pv 0)) (do_some (de_var (pv 3))) do_none) (da_cons (de_var (pv 2)) da_nil))) (dg_tup rfl rfl (dgs_cons (dg_name (pg_name SC.nd rfl (by first | exact Or.inl rfl | exact Or.inr rfl))) (dgs_cons (dg_name (pg_name SC.nd rfl (by first | exact Or.inl rfl | exact Or.inr rfl))) dgs_nil))) (tgTup_t (tgsCons_t tgN_t (tgsCons_t tgN_t tgsNil_t))))
    (dss_cons (ds_set (ps_set SC.nd rfl (by first | exact Or.inl rfl | exact Or.inr rfl) (de_var (pv 3))))
    (dss_cons (ds_while hpc (dt_w (dw_and (dt_gt (de_var (pv 6)) de_int) (dw_and1 (dt_eq rfl hr (de_ix rfl (de_var (pv 0)) (de_plus rfl (de_minus (de_var (pv 6)) de_int) (de_var (pv 4))) (fun _ _ => rfl)) (de_plus rfl (de_ix rfl (de_var (pv 0)) (de_minus (de_var (pv 6)) de_int) (fun _ _ => rfl)) (de_var (pv 5))))))) (dss_one (ds_augS SC.nd rfl (by first | exact Or.inl rfl | exact Or.inr rfl) de_int)))
    (dss_one (ds_return (de_tup (da_cons (de_tuple rfl rfl (He.free_ok F.X F.G (F.c.d.fact 27 (f := .free "tuple") rfl)) (da_cons (de_cut rfl (de_var (pv 0)) do_none (do_some (de_plus rfl (de_var (pv 6)) (de_var (pv 4))))) da_nil)) (da_cons (de_var (pv 4)) (da_cons (de_var (pv 5)) da_nil))))))))))
theorem cal_canonical (F : Fx K mg h) : Cal (vc K) Pg w mg base "_canonical" 2 3 ph_canonical := by
  obtain ⟨fd, FD⟩ := F.c.d.def_ 8 (d := dd_canonical) rfl
  exact ⟨_, fd, ["numbers", "period", "rise"], fn_ok FD sc_canonical rfl rfl (fun cdv A outer s H E hr => der_canonical F hr), (He.glo_ok F.X F.G (F.c.d.fact 28 (f := .glo "_canonical") rfl)), FD.kp, FunD.bindsN (ps := ["numbers", "period", "rise"]) FD fun _ _ _ _ _ _ us hl => match us, hl with | [_, _, _], _ => rfl⟩

/-! reduced -/
abbrev s_reduced : Stmt := top 11
abbrev N_reduced : List Str := ["a", "b", "divisor"]
theorem sc_reduced : FnScope N_reduced ["a", "b"] (defScope s_reduced) := ⟨rfl, rfl, rfl, by decide +kernel, rfl, by decide +kernel, by decide +kernel⟩
noncomputable def m_reduced : SemS :=
    vSeq (vAsg (vCall fGcd (vCons (vVar 0) (vCons (vVar 1) (vNil)))) (tgN 2))
    (vRet (vTup (vCons (vOp oFdiv (vVar 0) (vVar 2)) (vCons (vOp oFdiv (vVar 1) (vVar 2)) (vNil)))))
noncomputable def ph_reduced : FnSem := fnSem 2 3 m_reduced
theorem der_reduced (F : Fx K mg h) {f : Addr} {cdv : Value} {A : Around} {outer : List Env} {s : Shared} {H : Hp} {E : XK} (hr : Room 0 (A.deeper (envOfC "reduced" (defScope s_reduced) s.heap.objs.size f cdv))) :
    DSs (vc K) (cxOf (L2N.CX Pg w) Pg w K mg base N_reduced "reduced" (defScope s_reduced) f cdv A outer s H E) (fun cls d _ H => E cls d H) (defBody s_reduced) m_reduced :=
  have SC := sc_reduced
  (dss_cons (ds_set (ps_set SC.nd rfl (by first | exact Or.inl rfl | exact Or.inr rfl) (de_gcd rfl (PySem.W.mg_of F.X F.G (He.eqO_ok (ex_at F.c.more 11 (b := He.eqO (PySem.W.nsIn K mainGlobals "gcd") (some (some (.builtin "math.gcd")))) rfl))) (da_cons (de_var (pv 0)) (da_cons (de_var (pv 1)) da_nil)))))
    (dss_one (ds_return (de_tup (da_cons (de_fdiv (de_var (pv 0)) (de_var (pv 2))) (da_cons (de_fdiv (de_var (pv 1)) (de_var (pv 2))) da_nil))))))
theorem cal_reduced (F : Fx K mg h) : Cal (vc K) Pg w mg base "reduced" 1 2 ph_reduced := by
  obtain ⟨fd, FD⟩ := F.c.d.def_ 9 (d := dd_reduced) rfl
  exact ⟨_, fd, ["a", "b"], fn_ok FD sc_reduced rfl rfl (fun cdv A outer s H E hr => der_reduced F hr), (He.glo_ok F.X F.G (F.c.d.fact 29 (f := .glo "reduced") rfl)), FD.kp, FunD.bindsN (ps := ["a", "b"]) FD fun _ _ _ _ _ _ us hl => match us, hl with | [_, _], _ => rfl⟩

/-! _first_fall -/
abbrev s_first_fall : Stmt := top 18
abbrev N_first_fall : List Str := ["numbers", "head", "rise", "tick"]
theorem sc_first_fall : FnScope N_first_fall ["numbers", "head", "rise"] (defScope s_first_fall) := ⟨rfl, rfl, rfl, by decide +kernel, rfl, by decide +kernel, by decide +kernel⟩
noncomputable def m_first_fall : SemS :=
    vSeq (vIfS (vTest (vOp oLt (vOp oIx (vVar 0) (vC (.int 0))) (vC (.int 0)))) (vRet (vC (.int 0))) (vNext))
    (vSeq (vFor (vRange2 (vCons (vC (.int 1)) (vCons (vCall fLen (vCons (vVar 0) (vNil))) (vNil)))) (tgN 3) (vIfS (vTest (vOp oLt (vOp oIx (vVar 0) (vVar 3)) (vOp oIx (vVar 0) (vOp oSub (vVar 3) (vC (.int 1)))))) (vRet (vVar 3)) (vNext)))
    (vSeq (vIfS (vTest (vOp oLt (vOp oPlus (vOp oIx (vVar 0) (vVar 1)) (vVar 2)) (vOp oIx (vVar 0) (vNeg (vC (.int 1)))))) (vRet (vCall fLen (vCons (vVar 0) (vNil)))) (vNext))
    (vRet (vC .non))))
noncomputable def ph_first_fall : FnSem := fnSem 3 4 m_first_fall
theorem der_first_fall (F : Fx K mg h) {f : Addr} {cdv : Value} {A : Around} {outer : List Env} {s : Shared} {H : Hp} {E : XK} (hr : Room 0 (A.deeper (envOfC "_first_fall" (defScope s_first_fall) s.heap.objs.size f cdv))) :
    DSs (vc K) (cxOf (L2N.CX Pg w) Pg w K mg base N_first_fall "_first_fall" (defScope s_first_fall) f cdv A outer s H E) (fun cls d _ H => E cls d H) (defBody s_first_fall) m_first_fall :=
  have SC := sc_first_fall
  (dss_cons (ds_if (dt_lt (de_ix rfl (de_var (pv 0)) de_int (fun _ _ => rfl)) de_int) (dss_one (ds_return de_int)) dss_nil)
    (dss_cons (ds_for hpc rfl (di_range2 rfl (He.free_ok F.X F.G (F.c.d.fact 16 (f := .free "range") rfl)) (da_cons de_int (da_cons (de_len rfl rfl (He.free_ok F.X F.G (F.c.d.fact 15 (f := .free "len") rfl)) (da_cons (de_var (pv 0)) da_nil)) da_nil)) (fun h => pi_range2 rfl (He.free_ok F.X F.G (F.c.d.fact 16 (f := .free "range") rfl)) h)) (dg_name (pg_name SC.nd rfl (by first | exact Or.inl rfl | exact Or.inr rfl))) (dss_one (ds_if (dt_lt (de_ix rfl (de_var (pv 0)) (de_var (pv 3)) (fun _ _ => rfl)) (de_ix rfl (de_var (pv 0)) (de_minus (de_var (pv 3)) de_int) (fun _ _ => rfl))) (dss_one (ds_return (de_var (pv 3)))) dss_nil)))
    (dss_cons (ds_if (dt_lt (de_plus rfl (de_ix rfl (de_var (pv 0)) (de_var (pv 1)) (fun _ _ => rfl)) (de_var (pv 2))) (de_ix rfl (de_var (pv 0)) (de_neg de_int) (fun _ _ => rfl))) (dss_one (ds_return (de_len rfl rfl (He.free_ok F.X F.G (F.c.d.fact 15 (f := .free "len") rfl)) (da_cons (de_var (pv 0)) da_nil)))) dss_nil)
    (dss_one (ds_return de_non)))))
theorem cal_first_fall (F : Fx K mg h) : Cal (vc K) Pg w mg base "_first_fall" 1 3 ph_first_fall := by
  obtain ⟨fd, FD⟩ := F.c.d.def_ 10 (d := dd_first_fall) rfl
  exact ⟨_, fd, ["numbers", "head", "rise"], fn_ok FD sc_first_fall rfl rfl (fun cdv A outer s H E hr => der_first_fall F hr), (He.glo_ok F.X F.G (F.c.d.fact 30 (f := .glo "_first_fall") rfl)), FD.kp, FunD.bindsN (ps := ["numbers", "head", "rise"]) FD fun _ _ _ _ _ _ us hl => match us, hl with | [_, _, _], _ => rfl⟩

/-! Curve.__init__ -/
abbrev s_Curve_init : Stmt := inClass (top 15) 0
abbrev N_Curve_init : List Str := ["self", "numbers", "period", "rise", "at", "number"]
theorem sc_Curve_init : FnScope N_Curve_init ["self", "numbers", "period", "rise"] (defScope s_Curve_init) := ⟨rfl, rfl, rfl, by decide +kernel, rfl, by decide +kernel, by decide +kernel⟩
noncomputable def m_Curve_init : SemS :=
    vSeq (vIfS (vNot (vTest (vChain2 oLe oLe (vC (.int 1)) (vCall fLen (vCons (vVar 1) (vNil))) (vC (.int 400))))) (vRaise 2 3 [(0, 1), (2, 2)] (vCons (vC (.str "numbers")) (vCons (vCall fLen (vCons (vVar 1) (vNil))) (vNil)))) (vNext))
    (vSeq (vFor (vEnumA (vCons (vVar 1) (vNil))) (tgTup 2 (tgsCons (tgN 4) (tgsCons (tgN 5) (tgsNil)))) (vIfS (vNot (vTest (vChain2 oLe oLe (vNeg (vC (.int 1000000000))) (vVar 5) (vC (.int 1000000000))))) (vRaise 4 2 [(4, 1)] (vCons (vVar 4) (vNil))) (vNext)))
    (vSeq (vDrop (vDef 4 ph_bounds (vCons (vC (.str "period")) (vCons (vVar 2) (vCons (vC (.int 1)) (vCons (vCall fLen (vCons (vVar 1) (vNil))) (vNil)))))))
    (vSeq (vDrop (vDef 4 ph_bounds (vCons (vC (.str "rise")) (vCons (vVar 3) (vCons (vNeg (vC (.int 1000000000))) (vCons (vC (.int 1000000000)) (vNil)))))))
    (vSeq (vAsg (vDef 3 ph_canonical (vCons (vCall fList (vCons (vVar 1) (vNil))) (vCons (vVar 2) (vCons (vVar 3) (vNil))))) (tgTup 3 (tgsCons (tgF [5] 5 (vVar 0)) (tgsCons (tgF [5] 6 (vVar 0)) (tgsCons (tgF [5] 7 (vVar 0)) (tgsNil))))))
    (vSeq (vAsg (vOp oSub (vCall fLen (vCons (vFld [5] 5 (vVar 0)) (vNil))) (vFld [5] 6 (vVar 0))) (tgF [5] 8 (vVar 0)))
    (vSeq (vAsg (vDef 2 ph_reduced (vCons (vFld [5] 7 (vVar 0)) (vCons (vFld [5] 6 (vVar 0)) (vNil)))) (tgF [5] 9 (vVar 0)))
    (vAsg (vIsN (vDef 3 ph_first_fall (vCons (vFld [5] 5 (vVar 0)) (vCons (vFld [5] 8 (vVar 0)) (vCons (vFld [5] 7 (vVar 0)) (vNil)))))) (tgF [5] 10 (vVar 0)))))))))
noncomputable def ph_Curve_init : FnSem := fnSem 4 6 m_Curve_init
theorem der_Curve_init (F : Fx K mg h) {f : Addr} {cdv : Value} {A : Around} {outer : List Env} {s : Shared} {H : Hp} {E : XK} (hr : Room 3 (A.deeper (envOfC "Curve.__init__" (defScope s_Curve_init) s.heap.objs.size f cdv))) :
    DSs (vc K) (cxOf (L2N.CX Pg w) Pg w K mg base N_Curve_init "Curve.__init__" (defScope s_Curve_init) f cdv A outer s H E) (fun cls d _ H => E cls d H) (defBody s_Curve_init) m_Curve_init :=
  have SC := sc_Curve_init
  (dss_cons (ds_if (dt_not (dt_between de_int (de_len rfl rfl (He.free_ok F.X F.G (F.c.d.fact 15 (f := .free "len") rfl)) (da_cons (de_var (pv 1)) da_nil)) (de_gint rfl (He.int_ok F.X F.G (F.c.d.fact 40 (f := .int "LONG" 400) rfl))))) (dss_one (ds_calE rfl (cale_TooMany F) hr tkc rfl (by decide) rfl (da_cons de_str (da_cons (de_len rfl rfl (He.free_ok F.X F.G (F.c.d.fact 15 (f := .free "len") rfl)) (da_cons (de_var (pv 1)) da_nil)) da_nil)))) dss_nil)
    (dss_cons (ds_for hpc rfl (di_enumA rfl rfl (He.free_ok F.X F.G (F.c.d.fact 39 (f := .free "enumerate") rfl)) (da_cons (de_var (pv 1)) da_nil)) (dg_tup rfl rfl (dgs_cons (dg_name (pg_name SC.nd rfl (by first | exact Or.inl rfl | exact Or.inr rfl))) (dgs_cons (dg_name (pg_name SC.nd rfl (by first | exact Or.inl rfl | exact Or.inr rfl))) dgs_nil))) (dss_one (ds_if (dt_not (dt_between (de_neg (de_gint rfl (He.int_ok F.X F.G (F.c.d.fact 38 (f := .int "MOST" 1000000000) rfl)))) (de_var (pv 5)) (de_gint rfl (He.int_ok F.X F.G (F.c.d.fact 38 (f := .int "MOST" 1000000000) rfl))))) (dss_one (ds_calE rfl (cale_BadValue F) hr tkc rfl (by decide) rfl (da_cons (de_var (pv 4)) da_nil))) dss_nil)))
    (dss_cons (ds_expr (de_cal rfl (cal_bounds F) hr tkc (by decide) rfl (da_cons de_str (da_cons (de_var (pv 2)) (da_cons de_int (da_cons (de_len rfl rfl (He.free_ok F.X F.G (F.c.d.fact 15 (f := .free "len") rfl)) (da_cons (de_var (pv 1)) da_nil)) da_nil))))))
    (dss_cons (ds_expr (de_cal rfl (cal_bounds F) hr tkc (by decide) rfl (da_cons de_str (da_cons (de_var (pv 3)) (da_cons (de_neg (de_gint rfl (He.int_ok F.X F.G (F.c.d.fact 38 (f := .int "MOST" 1000000000) rfl)))) (da_cons (de_gint rfl (He.int_ok F.X F.G (F.c.d.fact 38 (f := .int "MOST" 1000000000) rfl))) da_nil))))))
    (dss_cons (ds_asg (de_cal rfl (cal_canonical F) hr tkc (by decide) rfl (da_cons (de_list rfl rfl (He.free_ok F.X F.G (F.c.d.fact 37 (f := .free "list") rfl)) (da_cons (de_var (pv 1)) da_nil)) (da_cons (de_var (pv 2)) (da_cons (de_var (pv 3)) da_nil)))) (dg_tup rfl rfl (dgs_cons (dg_fld (f := 5) rfl rfl (all_cons ⟨(He.cls_ok (F.c.d.fact 12 (f := .cls "Curve") rfl)), (He.noat_ok (F.c.d.fact 33 (f := .noat "Curve" "numbers") rfl)), ltN (by decide)⟩ all_nil) (de_var (pv 0))) (dgs_cons (dg_fld (f := 6) rfl rfl (all_cons ⟨(He.cls_ok (F.c.d.fact 12 (f := .cls "Curve") rfl)), (He.noat_ok (F.c.d.fact 35 (f := .noat "Curve" "period") rfl)), ltN (by decide)⟩ all_nil) (de_var (pv 0))) (dgs_cons (dg_fld (f := 7) rfl rfl (all_cons ⟨(He.cls_ok (F.c.d.fact 12 (f := .cls "Curve") rfl)), (He.noat_ok (F.c.d.fact 31 (f := .noat "Curve" "rise") rfl)), ltN (by decide)⟩ all_nil) (de_var (pv 0))) dgs_nil)))) (tgTup_t (tgsCons_t tgF_t (tgsCons_t tgF_t (tgsCons_t tgF_t tgsNil_t)))))
    (dss_cons (ds_asg (de_minus (de_len rfl rfl (He.free_ok F.X F.G (F.c.d.fact 15 (f := .free "len") rfl)) (da_cons (de_fld (f := 5) rfl rfl (all_cons ⟨(He.cls_ok (F.c.d.fact 12 (f := .cls "Curve") rfl)), (He.noat_ok (F.c.d.fact 33 (f := .noat "Curve" "numbers") rfl)), ltN (by decide)⟩ all_nil) (de_var (pv 0)) rfl) da_nil)) (de_fld (f := 6) rfl rfl (all_cons ⟨(He.cls_ok (F.c.d.fact 12 (f := .cls "Curve") rfl)), (He.noat_ok (F.c.d.fact 35 (f := .noat "Curve" "period") rfl)), ltN (by decide)⟩ all_nil) (de_var (pv 0)) rfl)) (dg_fld (f := 8) rfl rfl (all_cons ⟨(He.cls_ok (F.c.d.fact 12 (f := .cls "Curve") rfl)), (He.noat_ok (F.c.d.fact 32 (f := .noat "Curve" "head") rfl)), ltN (by decide)⟩ all_nil) (de_var (pv 0))) tgF_t)
    (dss_cons (ds_asg (de_cal rfl (cal_reduced F) hr tkc (by decide) rfl (da_cons (de_fld (f := 7) rfl rfl (all_cons ⟨(He.cls_ok (F.c.d.fact 12 (f := .cls "Curve") rfl)), (He.noat_ok (F.c.d.fact 31 (f := .noat "Curve" "rise") rfl)), ltN (by decide)⟩ all_nil) (de_var (pv 0)) rfl) (da_cons (de_fld (f := 6) rfl rfl (all_cons ⟨(He.cls_ok (F.c.d.fact 12 (f := .cls "Curve") rfl)), (He.noat_ok (F.c.d.fact 35 (f := .noat "Curve" "period") rfl)), ltN (by decide)⟩ all_nil) (de_var (pv 0)) rfl) da_nil))) (dg_fld (f := 9) rfl rfl (all_cons ⟨(He.cls_ok (F.c.d.fact 12 (f := .cls "Curve") rfl)), (He.noat_ok (F.c.d.fact 36 (f := .noat "Curve" "rate") rfl)), ltN (by decide)⟩ all_nil) (de_var (pv 0))) tgF_t)
    (dss_one (ds_asg (de_isN (de_cal rfl (cal_first_fall F) hr tkc (by decide) rfl (da_cons (de_fld (f := 5) rfl rfl (all_cons ⟨(He.cls_ok (F.c.d.fact 12 (f := .cls "Curve") rfl)), (He.noat_ok (F.c.d.fact 33 (f := .noat "Curve" "numbers") rfl)), ltN (by decide)⟩ all_nil) (de_var (pv 0)) rfl) (da_cons (de_fld (f := 8) rfl rfl (all_cons ⟨(He.cls_ok (F.c.d.fact 12 (f := .cls "Curve") rfl)), (He.noat_ok (F.c.d.fact 32 (f := .noat "Curve" "head") rfl)), ltN (by decide)⟩ all_nil) (de_var (pv 0)) rfl) (da_cons (de_fld (f := 7) rfl rfl (all_cons ⟨(He.cls_ok (F.c.d.fact 12 (f := .cls "Curve") rfl)), (He.noat_ok (F.c.d.fact 31 (f := .noat "Curve" "rise") rfl)), ltN (by decide)⟩ all_nil) (de_var (pv 0)) rfl) da_nil))))) (dg_fld (f := 10) rfl rfl (all_cons ⟨(He.cls_ok (F.c.d.fact 12 (f := .cls "Curve") rfl)), (He.noat_ok (F.c.d.fact 34 (f := .noat "Curve" "rising") rfl)), ltN (by decide)⟩ all_nil) (de_var (pv 0))) tgF_t)))))))))
theorem caln_Curve_init (F : Fx K mg h) : CalN (vc K) Pg w mg base "Curve" 5 4 4 ph_Curve_init := by
  obtain ⟨fd, FD⟩ := F.c.d.def_ 11 (d := dd_Curve_init) rfl
  exact ⟨_, fd, ["self", "numbers", "period", "rise"], fn_ok FD sc_Curve_init rfl rfl (fun cdv A outer s H E hr => der_Curve_init F hr), (He.mkr_ok (F.c.d.fact 41 (f := .mkr "Curve") rfl)), (He.glo_ok F.X F.G (F.c.d.fact 42 (f := .glo "Curve") rfl)), FunD.bindsN (ps := ["self", "numbers", "period", "rise"]) FD fun _ _ _ _ _ _ us hl => match us, hl with | [_, _, _, _], _ => rfl⟩

/-! _law_repeats -/
abbrev s_law_repeats : Stmt := top 41
abbrev N_law_repeats : List Str := ["row", "start", "size", "many", "step", "t"]
theorem sc_law_repeats : FnScope N_law_repeats ["row", "start", "size", "many"] (defScope s_law_repeats) := ⟨rfl, rfl, rfl, by decide +kernel, rfl, by decide +kernel, by decide +kernel⟩
noncomputable def m_law_repeats : SemS :=
    vSeq (vAsg (vOp oSub (vOp oIx (vVar 0) (vOp oPlus (vVar 1) (vVar 2))) (vOp oIx (vVar 0) (vVar 1))) (tgN 4))
    (vSeq (vFor (vRange2 (vCons (vVar 1) (vCons (vOp oPlus (vVar 1) (vVar 3)) (vNil)))) (tgN 5) (vIfS (vTest (vOp oNe (vOp oSub (vOp oIx (vVar 0) (vOp oPlus (vVar 5) (vVar 2))) (vOp oIx (vVar 0) (vVar 5))) (vVar 4))) (vRet (vC (.bl false))) (vNext)))
    (vRet (vC (.bl true))))
noncomputable def ph_law_repeats : FnSem := fnSem 4 6 m_law_repeats
theorem der_law_repeats (F : Fx K mg h) {f : Addr} {cdv : Value} {A : Around} {outer : List Env} {s : Shared} {H : Hp} {E : XK} (hr : Room 0 (A.deeper (envOfC "_law_repeats" (defScope s_law_repeats) s.heap.objs.size f cdv))) :
    DSs (vc K) (cxOf (L2N.CX Pg w) Pg w K mg base N_law_repeats "_law_repeats" (defScope s_law_repeats) f cdv A outer s H E) (fun cls d _ H => E cls d H) (defBody s_law_repeats) m_law_repeats :=
  have SC := sc_law_repeats
  (dss_cons (ds_set (ps_set SC.nd rfl (by first | exact Or.inl rfl | exact Or.inr rfl) (de_minus (de_ix rfl (de_var (pv 0)) (de_plus rfl (de_var (pv 1)) (de_var (pv 2))) (fun _ _ => rfl)) (de_ix rfl (de_var (pv 0)) (de_var (pv 1)) (fun _ _ => rfl)))))
    (dss_cons (ds_for hpc rfl (di_range2 rfl (He.free_ok F.X F.G (F.c.d.fact 16 (f := .free "range") rfl)) (da_cons (de_var (pv 1)) (da_cons (de_plus rfl (de_var (pv 1)) (de_var (pv 3))) da_nil)) (fun h => pi_range2 rfl (He.free_ok F.X F.G (F.c.d.fact 16 (f := .free "range") rfl)) h)) (dg_name (pg_name SC.nd rfl (by first | exact Or.inl rfl | exact Or.inr rfl))) (dss_one (ds_if (dt_ne rfl hr (de_minus (de_ix rfl (de_var (pv 0)) (de_plus rfl (de_var (pv 5)) (de_var (pv 2))) (fun _ _ => rfl)) (de_ix rfl (de_var (pv 0)) (de_var (pv 5)) (fun _ _ => rfl))) (de_var (pv 4))) (dss_one (ds_return de_bl)) dss_nil)))
    (dss_one (ds_return de_bl))))
theorem cal_law_repeats (F : Fx K mg h) : Cal (vc K) Pg w mg base "_law_repeats" 1 4 ph_law_repeats := by
  obtain ⟨fd, FD⟩ := F.c.d.def_ 12 (d := dd_law_repeats) rfl
  exact ⟨_, fd, ["row", "start", "size", "many"], fn_ok FD sc_law_repeats rfl rfl (fun cdv A outer s H E hr => der_law_repeats F hr), (He.glo_ok F.X F.G (F.c.d.fact 43 (f := .glo "_law_repeats") rfl)), FD.kp, FunD.bindsN (ps := ["row", "start", "size", "many"]) FD fun _ _ _ _ _ _ us hl => match us, hl with | [_, _, _, _], _ => rfl⟩

/-! _law_whole -/
abbrev s_law_whole : Stmt := top 42
abbrev N_law_whole : List Str := ["row", "head", "period", "size", "k", "part", "step", "rising", "best", "t", "rate"]
theorem sc_law_whole : FnScope N_law_whole ["row", "head", "period"] (defScope s_law_whole) := ⟨rfl, rfl, rfl, by decide +kernel, rfl, by decide +kernel, by decide +kernel⟩
noncomputable def m_law_whole : SemS :=
    vSeq (vAsg (vVar 2) (tgN 3))
    (vSeq (vFor (vSrcA (vComp (vRange2 (vCons (vC (.int 1)) (vCons (vVar 2) (vNil)))) (.nm 5) [5] (vTest (vOp oEq (vOp oMod (vCall fInt (vCons (vVar 2) (vNil))) (vVar 5)) (vC (.int 0)))) (vVar 5))) (tgN 4) (vIfS (vAnd (vTest (vOp oEq (vVar 3) (vVar 2))) (vTest (vDef 4 ph_law_repeats (vCons (vVar 0) (vCons (vVar 1) (vCons (vVar 4) (vCons (vVar 2) (vNil)))))))) (vAsg (vVar 4) (tgN 3)) (vNext)))
    (vSeq (vAsg (vOp oSub (vOp oIx (vVar 0) (vOp oPlus (vVar 1) (vVar 3))) (vOp oIx (vVar 0) (vVar 1))) (tgN 6))
    (vSeq (vWhile (vAnd (vTest (vOp oGt (vVar 1) (vC (.int 0)))) (vTest (vOp oEq (vOp oIx (vVar 0) (vOp oPlus (vOp oSub (vVar 1) (vC (.int 1))) (vVar 3))) (vOp oPlus (vOp oIx (vVar 0) (vOp oSub (vVar 1) (vC (.int 1)))) (vVar 6))))) (vAsg (vOp oSub (vVar 1) (vC (.int 1))) (tgN 1)))
    (vSeq (vAsg (vOp oGe (vOp oIx (vVar 0) (vC (.int 0))) (vC (.int 0))) (tgN 7))
    (vSeq (vAsg (vC (.int 1)) (tgN 8))
    (vSeq (vFor (vRange1 (vCons (vOp oPlus (vVar 1) (vVar 3)) (vNil))) (tgN 9) (vSeq (vIfS (vTest (vOp oLt (vOp oIx (vVar 0) (vOp oPlus (vVar 9) (vC (.int 1)))) (vOp oIx (vVar 0) (vVar 9)))) (vAsg (vC (.bl false)) (tgN 7)) (vNext))
    (vIfS (vAnd (vTest (vOp oLt (vVar 9) (vVar 3))) (vAnd (vTest (vOp oEq (vOp oMod (vCall fInt (vCons (vVar 3) (vNil))) (vOp oPlus (vVar 9) (vC (.int 1)))) (vC (.int 0)))) (vTest (vOp oEq (vOp oMod (vCall fInt (vCons (vVar 6) (vNil))) (vOp oPlus (vVar 9) (vC (.int 1)))) (vC (.int 0)))))) (vAsg (vOp oPlus (vVar 9) (vC (.int 1))) (tgN 8)) (vNext))))
    (vSeq (vAsg (vTup (vCons (vOp oFdiv (vVar 6) (vVar 8)) (vCons (vOp oFdiv (vVar 3) (vVar 8)) (vNil)))) (tgN 10))
    (vRet (vTup (vCons (vCall fTuple (vCons (vCut (vVar 0) vNoPart (vPart (vOp oPlus (vVar 1) (vVar 3)))) (vNil))) (vCons (vVar 1) (vCons (vVar 3) (vCons (vVar 6) (vCons (vVar 10) (vCons (vVar 7) (vNil))))))))))))))))
noncomputable def ph_law_whole : FnSem := fnSem 3 11 m_law_whole
theorem der_law_whole (F : Fx K mg h) {f : Addr} {cdv : Value} {A : Around} {outer : List Env} {s : Shared} {H : Hp} {E : XK} (hr : Room 1 (A.deeper (envOfC "_law_whole" (defScope s_law_whole) s.heap.objs.size f cdv))) :
    DSs (vc K) (cxOf (L2N.CX Pg w) Pg w K mg base N_law_whole "_law_whole" (defScope s_law_whole) f cdv A outer s H E) (fun cls d _ H => E cls d H) (defBody s_law_whole) m_law_whole :=
  have SC := sc_law_whole
  (dss_cons (ds_set (ps_set SC.nd rfl (by first | exact Or.inl rfl | exact Or.inr rfl) (de_var (pv 2))))
    (dss_cons (ds_for hpc rfl (di_seq rfl (de_comp rfl (by decide) (pe_lc (own := [("part", 5)]) rfl SC.nd (di_range2 rfl (He.free_ok F.X F.G (F.c.d.fact 16 (f := .free "range") rfl)) (da_cons de_int (da_cons (de_var (pv 2)) da_nil)) (fun h => pi_range2 rfl (He.free_ok F.X F.G (F.c.d.fact 16 (f := .free "range") rfl)) h)) (blkOk_by (by kernel_rfl)) (fun _ _ _ _ _ => pg_name SC.nd rfl (by first | exact Or.inl rfl | exact Or.inr rfl)) (fun _ _ _ _ _ => (dts_one (dt_eq rfl hr (de_mod (de_toint rfl (He.free_ok F.X F.G (F.c.d.fact 13 (f := .free "int") rfl)) (da_cons (de_var (pv 2)) da_nil)) (de_var (pv 5))) de_int))) (fun _ _ _ _ _ => (de_var (pv 5)))))) (dg_name (pg_name SC.nd rfl (by first | exact Or.inl rfl | exact Or.inr rfl))) (dss_one (ds_if (dt_w (dw_and (dt_eq rfl hr (de_var (pv 3)) (de_var (pv 2))) (dw_and1 (dt_val (de_cal rfl (cal_law_repeats F) hr tkc (by decide) rfl (da_cons (de_var (pv 0)) (da_cons (de_var (pv 1)) (da_cons (de_var (pv 4)) (da_cons (de_var (pv 2)) da_nil))))))))) (dss_one (ds_set (ps_set SC.nd rfl (by first | exact Or.inl rfl | exact Or.inr rfl) (de_var (pv 4))))) dss_nil)))
    (dss_cons (ds_set (ps_set SC.nd rfl (by first | exact Or.inl rfl | exact Or.inr rfl) (de_minus (de_ix rfl (de_var (pv 0)) (de_plus rfl (de_var (pv 1)) (de_var (pv 3))) (fun _ _ => rfl)) (de_ix rfl (de_var (pv 0)) (de_var (pv 1)) (fun _ _ => rfl)))))
    (dss_cons (ds_while hpc (dt_w (dw_and (dt_gt (de_var (pv 1)) de_int) (dw_and1 (dt_eq rfl hr (de_ix rfl (de_var (pv 0)) (de_plus rfl (de_minus (de_var (pv 1)) de_int) (de_var (pv 3))) (fun _ _ => rfl)) (de_plus rfl (de_ix rfl (de_var (pv 0)) (de_minus (de_var (pv 1)) de_int) (fun _ _ => rfl)) (de_var (pv 6))))))) (dss_one (ds_set (ps_set SC.nd rfl (by first | exact Or.inl rfl | exact Or.inr rfl) (de_minus (de_var (pv 1)) de_int)))))
    (dss_cons (ds_set (ps_set SC.nd rfl (by first | exact Or.inl rfl | exact Or.inr rfl) (de_ge (de_ix rfl (de_var (pv 0)) de_int (fun _ _ => rfl)) de_int)))
    (dss_cons (ds_set (ps_set SC.nd rfl (by first | exact Or.inl rfl | exact Or.inr rfl) de_int))
    (dss_cons (ds_for hpc rfl (di_range1 rfl (He.free_ok F.X F.G (F.c.d.fact 16 (f := .free "range") rfl)) (da_cons (de_plus rfl (de_var (pv 1)) (de_var (pv 3))) da_nil)) (dg_name (pg_name SC.nd rfl (by first | exact Or.inl rfl | exact Or.inr rfl))) (dss_cons (ds_if (dt_lt (de_ix rfl (de_var (pv 0)) (de_plus rfl (de_var (pv 9)) de_int) (fun _ _ => rfl)) (de_ix rfl (de_var (pv 0)) (de_var (pv 9)) (fun _ _ => rfl))) (dss_one (ds_set (ps_set SC.nd rfl (by first | exact Or.inl rfl | exact Or.inr rfl) de_bl))) dss_nil)
    (dss_one (ds_if (dt_w (dw_and (dt_lt (de_var (pv 9)) (de_var (pv 3))) (dw_and (dt_eq rfl hr (de_mod (de_toint rfl (He.free_ok F.X F.G (F.c.d.fact 13 (f := .free "int") rfl)) (da_cons (de_var (pv 3)) da_nil)) (de_plus rfl (de_var (pv 9)) de_int)) de_int) (dw_and1 (dt_eq rfl hr (de_mod (de_toint rfl (He.free_ok F.X F.G (F.c.d.fact 13 (f := .free "int") rfl)) (da_cons (de_var (pv 6)) da_nil)) (de_plus rfl (de_var (pv 9)) de_int)) de_int))))) (dss_one (ds_set (ps_set SC.nd rfl (by first | exact Or.inl rfl | exact Or.inr rfl) (de_plus rfl (de_var (pv 9)) de_int)))) dss_nil))))
    (dss_cons (ds_set (ps_set SC.nd rfl (by first | exact Or.inl rfl | exact Or.inr rfl) (de_tup (da_cons (de_fdiv (de_var (pv 6)) (de_var (pv 8))) (da_cons (de_fdiv (de_var (pv 3)) (de_var (pv 8))) da_nil)))))
    (dss_one (ds_return (de_tup (da_cons (de_tuple rfl rfl (He.free_ok F.X F.G (F.c.d.fact 27 (f := .free "tuple") rfl)) (da_cons (de_cut rfl (de_var (pv 0)) do_none (do_some (de_plus rfl (de_var (pv 1)) (de_var (pv 3))))) da_nil)) (da_cons (de_var (pv 1)) (da_cons (de_var (pv 3)) (da_cons (de_var (pv 6)) (da_cons (de_var (pv 10)) (da_cons (de_var (pv 7)) da_nil)))))))))))))))))
theorem cal_law_whole (F : Fx K mg h) : Cal (vc K) Pg w mg base "_law_whole" 2 3 ph_law_whole := by
  obtain ⟨fd, FD⟩ := F.c.d.def_ 13 (d := dd_law_whole) rfl
  exact ⟨_, fd, ["row", "head", "period"], fn_ok FD sc_law_whole rfl rfl (fun cdv A outer s H E hr => der_law_whole F hr), (He.glo_ok F.X F.G (F.c.d.fact 44 (f := .glo "_law_whole") rfl)), FD.kp, FunD.bindsN (ps := ["row", "head", "period"]) FD fun _ _ _ _ _ _ us hl => match us, hl with | [_, _, _], _ => rfl⟩

/-! _law_due -/
abbrev s_law_due : Stmt := top 45
abbrev N_law_due : List Str := ["told", "row", "head", "t"]
theorem sc_law_due : FnScope N_law_due ["told"] (defScope s_law_due) := ⟨rfl, rfl, rfl, by decide +kernel, rfl, by decide +kernel, by decide +kernel⟩
noncomputable def m_law_due : SemS :=
    vSeq (vNew 1 (vCall fList (vCons (vOp oIx (vVar 0) (vC (.int 0))) (vNil))))
    (vSeq (vAsg (vOp oSub (vCall fLen (vCons (vVar 1) (vNil))) (vOp oIx (vVar 0) (vC (.int 1)))) (tgN 2))
    (vSeq (vFor (vRange2 (vCons (vCall fLen (vCons (vVar 1) (vNil))) (vCons (vOp oPlus (vCall fLen (vCons (vVar 1) (vNil))) (vOp oIx (vVar 0) (vC (.int 1)))) (vNil)))) (tgN 3) (vDrop (vMt mAppend (vVar 1) (vCons (vOp oPlus (vOp oIx (vVar 1) (vOp oSub (vVar 3) (vOp oIx (vVar 0) (vC (.int 1))))) (vOp oIx (vVar 0) (vC (.int 2)))) (vNil)))))
    (vRet (vDef 3 ph_law_whole (vCons (vVar 1) (vCons (vVar 2) (vCons (vOp oIx (vVar 0) (vC (.int 1))) (vNil))))))))
noncomputable def ph_law_due : FnSem := fnSem 1 4 m_law_due
theorem der_law_due (F : Fx K mg h) {f : Addr} {cdv : Value} {A : Around} {outer : List Env} {s : Shared} {H : Hp} {E : XK} (hr : Room 2 (A.deeper (envOfC "_law_due" (defScope s_law_due) s.heap.objs.size f cdv))) :
    DSs (vc K) (cxOf (L2N.CX Pg w) Pg w K mg base N_law_due "_law_due" (defScope s_law_due) f cdv A outer s H E) (fun cls d _ H => E cls d H) (defBody s_law_due) m_law_due :=
  have SC := sc_law_due
  (dss_cons (ds_new (ps_set SC.nd rfl (by first | exact Or.inl rfl | exact Or.inr rfl) (de_list rfl rfl (He.free_ok F.X F.G (F.c.d.fact 37 (f := .free "list") rfl)) (da_cons (de_ix rfl (de_var (pv 0)) de_int (fun _ _ => rfl)) da_nil))))
    (dss_cons (ds_set (ps_set SC.nd rfl (by first | exact Or.inl rfl | exact Or.inr rfl) (de_minus (de_len rfl rfl (He.free_ok F.X F.G (F.c.d.fact 15 (f := .free "len") rfl)) (da_cons (de_var (pv 1)) da_nil)) (de_ix rfl (de_var (pv 0)) de_int (fun _ _ => rfl)))))
    (dss_cons (ds_for hpc rfl (di_range2 rfl (He.free_ok F.X F.G (F.c.d.fact 16 (f := .free "range") rfl)) (da_cons (de_len rfl rfl (He.free_ok F.X F.G (F.c.d.fact 15 (f := .free "len") rfl)) (da_cons (de_var (pv 1)) da_nil)) (da_cons (de_plus rfl (de_len rfl rfl (He.free_ok F.X F.G (F.c.d.fact 15 (f := .free "len") rfl)) (da_cons (de_var (pv 1)) da_nil)) (de_ix rfl (de_var (pv 0)) de_int (fun _ _ => rfl))) da_nil)) (fun h => pi_range2 rfl (He.free_ok F.X F.G (F.c.d.fact 16 (f := .free "range") rfl)) h)) (dg_name (pg_name SC.nd rfl (by first | exact Or.inl rfl | exact Or.inr rfl))) (dss_one (ds_expr (de_append rfl (de_var (pv 1)) (da_cons (de_plus rfl (de_ix rfl (de_var (pv 1)) (de_minus (de_var (pv 3)) (de_ix rfl (de_var (pv 0)) de_int (fun _ _ => rfl))) (fun _ _ => rfl)) (de_ix rfl (de_var (pv 0)) de_int (fun _ _ => rfl))) da_nil) (fun h1 h2 => pe_bm PySem.F.plainAttrs_list PySem.F.slot_list_append (by kernel_rfl) mt_append h1 h2)))))
    (dss_one (ds_return (de_cal rfl (cal_law_whole F) hr tkc (by decide) rfl (da_cons (de_var (pv 1)) (da_cons (de_var (pv 2)) (da_cons (de_ix rfl (de_var (pv 0)) de_int (fun _ _ => rfl)) da_nil)))))))))
theorem cal_law_due (F : Fx K mg h) : Cal (vc K) Pg w mg base "_law_due" 3 1 ph_law_due := by
  obtain ⟨fd, FD⟩ := F.c.d.def_ 14 (d := dd_law_due) rfl
  exact ⟨_, fd, ["told"], fn_ok FD sc_law_due rfl rfl (fun cdv A outer s H E hr => der_law_due F hr), (He.glo_ok F.X F.G (F.c.d.fact 45 (f := .glo "_law_due") rfl)), FD.kp, FunD.bindsN (ps := ["told"]) FD fun _ _ _ _ _ _ us hl => match us, hl with | [_], _ => rfl⟩

/-! _law_common -/
abbrev s_law_common : Stmt := top 47
abbrev N_law_common : List Str := ["one", "other", "k"]
theorem sc_law_common : FnScope N_law_common ["one", "other"] (defScope s_law_common) := ⟨rfl, rfl, rfl, by decide +kernel, rfl, by decide +kernel, by decide +kernel⟩
noncomputable def m_law_common : SemS :=
    vSeq (vFor (vRange2 (vCons (vC (.int 1)) (vCons (vVar 1) (vNil)))) (tgN 2) (vIfS (vTest (vOp oEq (vOp oMod (vCall fInt (vCons (vOp oTimes (vVar 0) (vVar 2)) (vNil))) (vVar 1)) (vC (.int 0)))) (vRet (vOp oTimes (vVar 0) (vVar 2))) (vNext)))
    (vRet (vOp oTimes (vVar 0) (vVar 1)))
noncomputable def ph_law_common : FnSem := fnSem 2 3 m_law_common
theorem der_law_common (F : Fx K mg h) {f : Addr} {cdv : Value} {A : Around} {outer : List Env} {s : Shared} {H : Hp} {E : XK} (hr : Room 0 (A.deeper (envOfC "_law_common" (defScope s_law_common) s.heap.objs.size f cdv))) :
    DSs (vc K) (cxOf (L2N.CX Pg w) Pg w K mg base N_law_common "_law_common" (defScope s_law_common) f cdv A outer s H E) (fun cls d _ H => E cls d H) (defBody s_law_common) m_law_common :=
  have SC := sc_law_common
  (dss_cons (ds_for hpc rfl (di_range2 rfl (He.free_ok F.X F.G (F.c.d.fact 16 (f := .free "range") rfl)) (da_cons de_int (da_cons (de_var (pv 1)) da_nil)) (fun h => pi_range2 rfl (He.free_ok F.X F.G (F.c.d.fact 16 (f := .free "range") rfl)) h)) (dg_name (pg_name SC.nd rfl (by first | exact Or.inl rfl | exact Or.inr rfl))) (dss_one (ds_if (dt_eq rfl hr (de_mod (de_toint rfl (He.free_ok F.X F.G (F.c.d.fact 13 (f := .free "int") rfl)) (da_cons (de_times (de_var (pv 0)) (de_var (pv 2))) da_nil)) (de_var (pv 1))) de_int) (dss_one (ds_return (de_times (de_var (pv 0)) (de_var (pv 2))))) dss_nil)))
    (dss_one (ds_return (de_times (de_var (pv 0)) (de_var (pv 1))))))
theorem cal_law_common (F : Fx K mg h) : Cal (vc K) Pg w mg base "_law_common" 1 2 ph_law_common := by
  obtain ⟨fd, FD⟩ := F.c.d.def_ 15 (d := dd_law_common) rfl
  exact ⟨_, fd, ["one", "other"], fn_ok FD sc_law_common rfl rfl (fun cdv A outer s H E hr => der_law_common F hr), (He.glo_ok F.X F.G (F.c.d.fact 46 (f := .glo "_law_common") rfl)), FD.kp, FunD.bindsN (ps := ["one", "other"]) FD fun _ _ _ _ _ _ us hl => match us, hl with | [_, _], _ => rfl⟩

/-! _law_row -/
abbrev s_law_row : Stmt := top 44
abbrev N_law_row : List Str := ["due", "size", "row", "t"]
theorem sc_law_row : FnScope N_law_row ["due", "size"] (defScope s_law_row) := ⟨rfl, rfl, rfl, by decide +kernel, rfl, by decide +kernel, by decide +kernel⟩
noncomputable def m_law_row : SemS :=
    vSeq (vNew 2 (vCall fList (vCons (vOp oIx (vVar 0) (vC (.int 0))) (vNil))))
    (vSeq (vFor (vRange2 (vCons (vCall fLen (vCons (vVar 2) (vNil))) (vCons (vVar 1) (vNil)))) (tgN 3) (vDrop (vMt mAppend (vVar 2) (vCons (vOp oPlus (vOp oIx (vVar 2) (vOp oSub (vVar 3) (vOp oIx (vVar 0) (vC (.int 2))))) (vOp oIx (vVar 0) (vC (.int 3)))) (vNil)))))
    (vRet (vTake 2)))
noncomputable def ph_law_row : FnSem := fnSem 2 4 m_law_row
theorem der_law_row (F : Fx K mg h) {f : Addr} {cdv : Value} {A : Around} {outer : List Env} {s : Shared} {H : Hp} {E : XK} (hr : Room 0 (A.deeper (envOfC "_law_row" (defScope s_law_row) s.heap.objs.size f cdv))) :
    DSs (vc K) (cxOf (L2N.CX Pg w) Pg w K mg base N_law_row "_law_row" (defScope s_law_row) f cdv A outer s H E) (fun cls d _ H => E cls d H) (defBody s_law_row) m_law_row :=
  have SC := sc_law_row
  (dss_cons (ds_new (ps_set SC.nd rfl (by first | exact Or.inl rfl | exact Or.inr rfl) (de_list rfl rfl (He.free_ok F.X F.G (F.c.d.fact 37 (f := .free "list") rfl)) (da_cons (de_ix rfl (de_var (pv 0)) de_int (fun _ _ => rfl)) da_nil))))
    (dss_cons (ds_for hpc rfl (di_range2 rfl (He.free_ok F.X F.G (F.c.d.fact 16 (f := .free "range") rfl)) (da_cons (de_len rfl rfl (He.free_ok F.X F.G (F.c.d.fact 15 (f := .free "len") rfl)) (da_cons (de_var (pv 2)) da_nil)) (da_cons (de_var (pv 1)) da_nil)) (fun h => pi_range2 rfl (He.free_ok F.X F.G (F.c.d.fact 16 (f := .free "range") rfl)) h)) (dg_name (pg_name SC.nd rfl (by first | exact Or.inl rfl | exact Or.inr rfl))) (dss_one (ds_expr (de_append rfl (de_var (pv 2)) (da_cons (de_plus rfl (de_ix rfl (de_var (pv 2)) (de_minus (de_var (pv 3)) (de_ix rfl (de_var (pv 0)) de_int (fun _ _ => rfl))) (fun _ _ => rfl)) (de_ix rfl (de_var (pv 0)) de_int (fun _ _ => rfl))) da_nil) (fun h1 h2 => pe_bm PySem.F.plainAttrs_list PySem.F.slot_list_append (by kernel_rfl) mt_append h1 h2)))))
    (dss_one (ds_return (de_take (pv 2))))))
theorem cal_law_row (F : Fx K mg h) : Cal (vc K) Pg w mg base "_law_row" 1 2 ph_law_row := by
  obtain ⟨fd, FD⟩ := F.c.d.def_ 16 (d := dd_law_row) rfl
  exact ⟨_, fd, ["due", "size"], fn_ok FD sc_law_row rfl rfl (fun cdv A outer s H E hr => der_law_row F hr), (He.glo_ok F.X F.G (F.c.d.fact 47 (f := .glo "_law_row") rfl)), FD.kp, FunD.bindsN (ps := ["due", "size"]) FD fun _ _ _ _ _ _ us hl => match us, hl with | [_, _], _ => rfl⟩

/-! _law_rest -/
abbrev s_law_rest : Stmt := top 51
abbrev N_law_rest : List Str := ["a", "b", "whole", "many", "size", "one", "two", "row", "t", "s"]
theorem sc_law_rest : FnScope N_law_rest ["a", "b"] (defScope s_law_rest) := ⟨rfl, rfl, rfl, by decide +kernel, rfl, by decide +kernel, by decide +kernel⟩
noncomputable def m_law_rest : SemS :=
    vSeq (vAsg (vDef 2 ph_law_common (vCons (vOp oIx (vVar 0) (vC (.int 2))) (vCons (vOp oIx (vVar 1) (vC (.int 2))) (vNil)))) (tgN 2))
    (vSeq (vIfS (vTest (vOp oGt (vVar 2) (vC (.int 400)))) (vRet (vTup (vCons (vC (.str "long")) (vCons (vVar 2) (vNil))))) (vNext))
    (vSeq (vIfS (vTest (vOp oGt (vOp oTimes (vOp oIx (vVar 0) (vC (.int 3))) (vOp oFdiv (vVar 2) (vOp oIx (vVar 0) (vC (.int 2))))) (vOp oTimes (vOp oIx (vVar 1) (vC (.int 3))) (vOp oFdiv (vVar 2) (vOp oIx (vVar 1) (vC (.int 2))))))) (vRet (vTup (vCons (vC (.str "unbounded")) (vNil)))) (vNext))
    (vSeq (vAsg (vOp oPlus (vCall fMax2 (vCons (vOp oIx (vVar 0) (vC (.int 1))) (vCons (vOp oIx (vVar 1) (vC (.int 1))) (vNil)))) (vVar 2)) (tgN 3))
    (vSeq (vAsg (vOp oPlus (vOp oIx (vVar 0) (vC (.int 1))) (vOp oTimes (vC (.int 2)) (vOp oIx (vVar 0) (vC (.int 2))))) (tgN 4))
    (vSeq (vAsg (vDef 2 ph_law_row (vCons (vVar 0) (vCons (vOp oPlus (vVar 3) (vVar 4)) (vNil)))) (tgN 5))
    (vSeq (vAsg (vDef 2 ph_law_row (vCons (vVar 1) (vCons (vVar 3) (vNil)))) (tgN 6))
    (vSeq (vNew 7 (vLst (vNil)))
    (vSeq (vFor (vRange1 (vCons (vVar 4) (vNil))) (tgN 8) (vDrop (vMt mAppend (vVar 7) (vCons (vCall fMaxL (vCons (vComp (vRange1 (vCons (vVar 3) (vNil))) (.nm 9) [9] (vYes) (vOp oSub (vOp oIx (vVar 5) (vOp oPlus (vVar 8) (vVar 9))) (vOp oIx (vVar 6) (vVar 9)))) (vNil))) (vNil)))))
    (vRet (vDef 3 ph_law_whole (vCons (vVar 7) (vCons (vOp oIx (vVar 0) (vC (.int 1))) (vCons (vOp oIx (vVar 0) (vC (.int 2))) (vNil))))))))))))))
noncomputable def ph_law_rest : FnSem := fnSem 2 10 m_law_rest
theorem der_law_rest (F : Fx K mg h) {f : Addr} {cdv : Value} {A : Around} {outer : List Env} {s : Shared} {H : Hp} {E : XK} (hr : Room 2 (A.deeper (envOfC "_law_rest" (defScope s_law_rest) s.heap.objs.size f cdv))) :
    DSs (vc K) (cxOf (L2N.CX Pg w) Pg w K mg base N_law_rest "_law_rest" (defScope s_law_rest) f cdv A outer s H E) (fun cls d _ H => E cls d H) (defBody s_law_rest) m_law_rest :=
  have SC := sc_law_rest
  (dss_cons (ds_set (ps_set SC.nd rfl (by first | exact Or.inl rfl | exact Or.inr rfl) (de_cal rfl (cal_law_common F) hr tkc (by decide) rfl (da_cons (de_ix rfl (de_var (pv 0)) de_int (fun _ _ => rfl)) (da_cons (de_ix rfl (de_var (pv 1)) de_int (fun _ _ => rfl)) da_nil)))))
    (dss_cons (ds_if (dt_gt (de_var (pv 2)) de_int) (dss_one (ds_return (de_tup (da_cons de_str (da_cons (de_var (pv 2)) da_nil))))) dss_nil)
    (dss_cons (ds_if (dt_gt (de_times (de_ix rfl (de_var (pv 0)) de_int (fun _ _ => rfl)) (de_fdiv (de_var (pv 2)) (de_ix rfl (de_var (pv 0)) de_int (fun _ _ => rfl)))) (de_times (de_ix rfl (de_var (pv 1)) de_int (fun _ _ => rfl)) (de_fdiv (de_var (pv 2)) (de_ix rfl (de_var (pv 1)) de_int (fun _ _ => rfl))))) (dss_one (ds_return (de_tup (da_cons de_str da_nil)))) dss_nil)
    (dss_cons (ds_set (ps_set SC.nd rfl (by first | exact Or.inl rfl | exact Or.inr rfl) (de_plus rfl (de_max2 rfl rfl (He.free_ok F.X F.G (F.c.d.fact 48 (f := .free "max") rfl)) (da_cons (de_ix rfl (de_var (pv 0)) de_int (fun _ _ => rfl)) (da_cons (de_ix rfl (de_var (pv 1)) de_int (fun _ _ => rfl)) da_nil))) (de_var (pv 2)))))
    (dss_cons (ds_set (ps_set SC.nd rfl (by first | exact Or.inl rfl | exact Or.inr rfl) (de_plus rfl (de_ix rfl (de_var (pv 0)) de_int (fun _ _ => rfl)) (de_times de_int (de_ix rfl (de_var (pv 0)) de_int (fun _ _ => rfl))))))
    (dss_cons (ds_set (ps_set SC.nd rfl (by first | exact Or.inl rfl | exact Or.inr rfl) (de_cal rfl (cal_law_row F) hr tkc (by decide) rfl (da_cons (de_var (pv 0)) (da_cons (de_plus rfl (de_var (pv 3)) (de_var (pv 4))) da_nil)))))
    (dss_cons (ds_set (ps_set SC.nd rfl (by first | exact Or.inl rfl | exact Or.inr rfl) (de_cal rfl (cal_law_row F) hr tkc (by decide) rfl (da_cons (de_var (pv 1)) (da_cons (de_var (pv 3)) da_nil)))))
    (dss_cons (ds_new (ps_set SC.nd rfl (by first | exact Or.inl rfl | exact Or.inr rfl) (de_lst da_nil)))
    (dss_cons (ds_for hpc rfl (di_range1 rfl (He.free_ok F.X F.G (F.c.d.fact 16 (f := .free "range") rfl)) (da_cons (de_var (pv 4)) da_nil)) (dg_name (pg_name SC.nd rfl (by first | exact Or.inl rfl | exact Or.inr rfl))) (dss_one (ds_expr (de_append rfl (de_var (pv 7)) (da_cons (de_maxL rfl rfl rfl (He.free_ok F.X F.G (F.c.d.fact 48 (f := .free "max") rfl)) (da_cons (de_comp rfl (by decide) (pe_lc (own := [("s", 9)]) rfl SC.nd (di_range1 rfl (He.free_ok F.X F.G (F.c.d.fact 16 (f := .free "range") rfl)) (da_cons (de_var (pv 3)) da_nil)) (blkOk_by (by kernel_rfl)) (fun _ _ _ _ _ => pg_name SC.nd rfl (by first | exact Or.inl rfl | exact Or.inr rfl)) (fun _ _ _ _ _ => dts_nil) (fun _ _ _ _ _ => (de_minus (de_ix rfl (de_var (pv 5)) (de_plus rfl (de_var (pv 8)) (de_var (pv 9))) (fun _ _ => rfl)) (de_ix rfl (de_var (pv 6)) (de_var (pv 9)) (fun _ _ => rfl)))))) da_nil)) da_nil) (fun h1 h2 => pe_bm PySem.F.plainAttrs_list PySem.F.slot_list_append (by kernel_rfl) mt_append h1 h2)))))
    (dss_one (ds_return (de_cal rfl (cal_law_whole F) hr tkc (by decide) rfl (da_cons (de_var (pv 7)) (da_cons (de_ix rfl (de_var (pv 0)) de_int (fun _ _ => rfl)) (da_cons (de_ix rfl (de_var (pv 0)) de_int (fun _ _ => rfl)) da_nil)))))))))))))))
theorem cal_law_rest (F : Fx K mg h) : Cal (vc K) Pg w mg base "_law_rest" 3 2 ph_law_rest := by
  obtain ⟨fd, FD⟩ := F.c.d.def_ 17 (d := dd_law_rest) rfl
  exact ⟨_, fd, ["a", "b"], fn_ok FD sc_law_rest rfl rfl (fun cdv A outer s H E hr => der_law_rest F hr), (He.glo_ok F.X F.G (F.c.d.fact 49 (f := .glo "_law_rest") rfl)), FD.kp, FunD.bindsN (ps := ["a", "b"]) FD fun _ _ _ _ _ _ us hl => match us, hl with | [_, _], _ => rfl⟩

/-! _law_number -/
abbrev s_law_number : Stmt := top 40
abbrev N_law_number : List Str := ["part"]
theorem sc_law_number : FnScope N_law_number ["part"] (defScope s_law_number) := ⟨rfl, rfl, rfl, by decide +kernel, rfl, by decide +kernel, by decide +kernel⟩
noncomputable def m_law_number : SemS :=
    vSeq (vIfS (vAnd (vTest (v1 (fIsTy "int") (vVar 0))) (vNot (vTest (v1 (fIsTy "bool") (vVar 0))))) (vRet (vVar 0)) (vNext))
    (vRet (vC .non))
noncomputable def ph_law_number : FnSem := fnSem 1 1 m_law_number
theorem der_law_number (F : Fx K mg h) {f : Addr} {cdv : Value} {A : Around} {outer : List Env} {s : Shared} {H : Hp} {E : XK} (hr : Room 0 (A.deeper (envOfC "_law_number" (defScope s_law_number) s.heap.objs.size f cdv))) :
    DSs (vc K) (cxOf (L2N.CX Pg w) Pg w K mg base N_law_number "_law_number" (defScope s_law_number) f cdv A outer s H E) (fun cls d _ H => E cls d H) (defBody s_law_number) m_law_number :=
  have SC := sc_law_number
  (dss_cons (ds_if (dt_w (dw_and (dt_val (de_isTy (n := "int") rfl rfl (He.free_ok F.X F.G (F.c.d.fact 50 (f := .free "isinstance") rfl)) (de_var (pv 0)) (pe_bltn rfl (He.free_ok F.X F.G (F.c.d.fact 13 (f := .free "int") rfl)) (by decide +kernel) rfl))) (dw_and1 (dt_not (dt_val (de_isTy (n := "bool") rfl rfl (He.free_ok F.X F.G (F.c.d.fact 50 (f := .free "isinstance") rfl)) (de_var (pv 0)) (pe_bltn rfl (He.free_ok F.X F.G (F.c.d.fact 51 (f := .free "bool") rfl)) (by decide +kernel) rfl))))))) (dss_one (ds_return (de_var (pv 0)))) dss_nil)
    (dss_one (ds_return de_non)))
theorem cal_law_number (F : Fx K mg h) : Cal (vc K) Pg w mg base "_law_number" 1 1 ph_law_number := by
  obtain ⟨fd, FD⟩ := F.c.d.def_ 18 (d := dd_law_number) rfl
  exact ⟨_, fd, ["part"], fn_ok FD sc_law_number rfl rfl (fun cdv A outer s H E hr => der_law_number F hr), (He.glo_ok F.X F.G (F.c.d.fact 52 (f := .glo "_law_number") rfl)), FD.kp, FunD.bindsN (ps := ["part"]) FD fun _ _ _ _ _ _ us hl => match us, hl with | [_], _ => rfl⟩
theorem derh_law_number (F : Fx K mg h) {f : Addr} {cdv : Value} {A : Around} {outer : List Env} {s : Shared} {H : Hp} {E : XK} {p : Addr × Obj} (hot : L2H.Hot1 A p) (hr : L2H.RoomH 0 (A.deeper (envOfC "_law_number" (defScope s_law_number) s.heap.objs.size f cdv))) :
    DSs (vc K) (L2H.cxH (L2N.CX Pg w) Pg w K mg base N_law_number "_law_number" (defScope s_law_number) f cdv A outer s H E p) (fun cls d _ H => E cls d H) (defBody s_law_number) m_law_number :=
  have SC := sc_law_number
  (dss_cons (ds_if (dt_w (dw_and (dt_val (de_isTy (n := "int") rfl rfl (He.free_ok F.X F.G (F.c.d.fact 50 (f := .free "isinstance") rfl)) (de_var (pv 0)) (pe_bltn rfl (He.free_ok F.X F.G (F.c.d.fact 13 (f := .free "int") rfl)) (by decide +kernel) rfl))) (dw_and1 (dt_not (dt_val (de_isTy (n := "bool") rfl rfl (He.free_ok F.X F.G (F.c.d.fact 50 (f := .free "isinstance") rfl)) (de_var (pv 0)) (pe_bltn rfl (He.free_ok F.X F.G (F.c.d.fact 51 (f := .free "bool") rfl)) (by decide +kernel) rfl))))))) (dss_one (ds_return (de_var (pv 0)))) dss_nil)
    (dss_one (ds_return de_non)))
theorem calv_law_number (F : Fx K mg h) : CalV (vc K) Pg w mg base "_law_number" 1 1 ph_law_number := by
  obtain ⟨fd, FD⟩ := F.c.d.def_ 18 (d := dd_law_number) rfl
  exact ⟨_, fd, ["part"], ⟨fn_ok FD sc_law_number rfl rfl (fun cdv A outer s H E hr => der_law_number F hr), fn_okH FD sc_law_number rfl rfl (fun cdv A outer s H E p hot hr => derh_law_number F hot hr)⟩, (He.glo_ok F.X F.G (F.c.d.fact 52 (f := .glo "_law_number") rfl)), FD.kp, FunD.bindsN (ps := ["part"]) FD fun _ _ _ _ _ _ us hl => match us, hl with | [_], _ => rfl⟩

/-! _law_shown -/
abbrev s_law_shown : Stmt := top 43
abbrev N_law_shown : List Str := ["curve", "part", "sizes"]
theorem sc_law_shown : FnScope N_law_shown ["curve"] (defScope s_law_shown) := ⟨rfl, rfl, rfl, by decide +kernel, rfl, by decide +kernel, by decide +kernel⟩
noncomputable def m_law_shown : SemS :=
    vSeq (vIfS (vOr (vNot (vTest (v1 (fIsC ok_Curve) (vVar 0)))) (vNot (vTest (v1 (fIsTy "tuple") (vFld [5] 5 (vVar 0)))))) (vRet (vTup (vNil))) (vNext))
    (vSeq (vIfS (vOr (vNot (vTest (v1 (fIsTy "tuple") (vFld [5] 9 (vVar 0))))) (vNot (vTest (v1 (fIsTy "bool") (vFld [5] 10 (vVar 0)))))) (vRet (vTup (vNil))) (vNext))
    (vSeq (vFor (vSrcA (vOp oPlus (vOp oPlus (vFld [5] 5 (vVar 0)) (vFld [5] 9 (vVar 0))) (vTup (vCons (vFld [5] 8 (vVar 0)) (vCons (vFld [5] 6 (vVar 0)) (vCons (vFld [5] 7 (vVar 0)) (vNil))))))) (tgN 1) (vIfS (vTest (vIsN (vDef 1 ph_law_number (vCons (vVar 1) (vNil))))) (vRet (vTup (vNil))) (vNext)))
    (vSeq (vAsg (vTup (vCons (vFld [5] 8 (vVar 0)) (vCons (vFld [5] 6 (vVar 0)) (vCons (vFld [5] 7 (vVar 0)) (vNil))))) (tgN 2))
    (vRet (vTup (vCons (vFld [5] 5 (vVar 0)) (vCons (vOp oIx (vVar 2) (vC (.int 0))) (vCons (vOp oIx (vVar 2) (vC (.int 1))) (vCons (vOp oIx (vVar 2) (vC (.int 2))) (vCons (vFld [5] 9 (vVar 0)) (vCons (vFld [5] 10 (vVar 0)) (vNil))))))))))))
noncomputable def ph_law_shown : FnSem := fnSem 1 3 m_law_shown
theorem der_law_shown (F : Fx K mg h) {f : Addr} {cdv : Value} {A : Around} {outer : List Env} {s : Shared} {H : Hp} {E : XK} (hr : Room 1 (A.deeper (envOfC "_law_shown" (defScope s_law_shown) s.heap.objs.size f cdv))) :
    DSs (vc K) (cxOf (L2N.CX Pg w) Pg w K mg base N_law_shown "_law_shown" (defScope s_law_shown) f cdv A outer s H E) (fun cls d _ H => E cls d H) (defBody s_law_shown) m_law_shown :=
  have SC := sc_law_shown
  (dss_cons (ds_if (dt_w (dw_or (dt_not (dt_val (de_isC (n := 5) (ok := ok_Curve) rfl rfl (He.free_ok F.X F.G (F.c.d.fact 50 (f := .free "isinstance") rfl)) (de_var (pv 0)) (pe_glob rfl (He.glo_ok F.X F.G (F.c.d.fact 42 (f := .glo "Curve") rfl)) rfl) (isf_Curve F)))) (dw_or1 (dt_not (dt_val (de_isTy (n := "tuple") rfl rfl (He.free_ok F.X F.G (F.c.d.fact 50 (f := .free "isinstance") rfl)) (de_fld (f := 5) rfl rfl (all_cons ⟨(He.cls_ok (F.c.d.fact 12 (f := .cls "Curve") rfl)), (He.noat_ok (F.c.d.fact 33 (f := .noat "Curve" "numbers") rfl)), ltN (by decide)⟩ all_nil) (de_var (pv 0)) rfl) (pe_bltn rfl (He.free_ok F.X F.G (F.c.d.fact 27 (f := .free "tuple") rfl)) (by decide +kernel) rfl))))))) (dss_one (ds_return (de_tup da_nil))) dss_nil)
    (dss_cons (ds_if (dt_w (dw_or (dt_not (dt_val (de_isTy (n := "tuple") rfl rfl (He.free_ok F.X F.G (F.c.d.fact 50 (f := .free "isinstance") rfl)) (de_fld (f := 9) rfl rfl (all_cons ⟨(He.cls_ok (F.c.d.fact 12 (f := .cls "Curve") rfl)), (He.noat_ok (F.c.d.fact 36 (f := .noat "Curve" "rate") rfl)), ltN (by decide)⟩ all_nil) (de_var (pv 0)) rfl) (pe_bltn rfl (He.free_ok F.X F.G (F.c.d.fact 27 (f := .free "tuple") rfl)) (by decide +kernel) rfl)))) (dw_or1 (dt_not (dt_val (de_isTy (n := "bool") rfl rfl (He.free_ok F.X F.G (F.c.d.fact 50 (f := .free "isinstance") rfl)) (de_fld (f := 10) rfl rfl (all_cons ⟨(He.cls_ok (F.c.d.fact 12 (f := .cls "Curve") rfl)), (He.noat_ok (F.c.d.fact 34 (f := .noat "Curve" "rising") rfl)), ltN (by decide)⟩ all_nil) (de_var (pv 0)) rfl) (pe_bltn rfl (He.free_ok F.X F.G (F.c.d.fact 51 (f := .free "bool") rfl)) (by decide +kernel) rfl))))))) (dss_one (ds_return (de_tup da_nil))) dss_nil)
    (dss_cons (ds_for hpc rfl (di_seq rfl (de_plus rfl (de_plus rfl (de_fld (f := 5) rfl rfl (all_cons ⟨(He.cls_ok (F.c.d.fact 12 (f := .cls "Curve") rfl)), (He.noat_ok (F.c.d.fact 33 (f := .noat "Curve" "numbers") rfl)), ltN (by decide)⟩ all_nil) (de_var (pv 0)) rfl) (de_fld (f := 9) rfl rfl (all_cons ⟨(He.cls_ok (F.c.d.fact 12 (f := .cls "Curve") rfl)), (He.noat_ok (F.c.d.fact 36 (f := .noat "Curve" "rate") rfl)), ltN (by decide)⟩ all_nil) (de_var (pv 0)) rfl)) (de_tup (da_cons (de_fld (f := 8) rfl rfl (all_cons ⟨(He.cls_ok (F.c.d.fact 12 (f := .cls "Curve") rfl)), (He.noat_ok (F.c.d.fact 32 (f := .noat "Curve" "head") rfl)), ltN (by decide)⟩ all_nil) (de_var (pv 0)) rfl) (da_cons (de_fld (f := 6) rfl rfl (all_cons ⟨(He.cls_ok (F.c.d.fact 12 (f := .cls "Curve") rfl)), (He.noat_ok (F.c.d.fact 35 (f := .noat "Curve" "period") rfl)), ltN (by decide)⟩ all_nil) (de_var (pv 0)) rfl) (da_cons (de_fld (f := 7) rfl rfl (all_cons ⟨(He.cls_ok (F.c.d.fact 12 (f := .cls "Curve") rfl)), (He.noat_ok (F.c.d.fact 31 (f := .noat "Curve" "rise") rfl)), ltN (by decide)⟩ all_nil) (de_var (pv 0)) rfl) da_nil)))))) (dg_name (pg_name SC.nd rfl (by first | exact Or.inl rfl | exact Or.inr rfl))) (dss_one (ds_if (dt_isN (de_cal rfl (cal_law_number F) hr tkc (by decide) rfl (da_cons (de_var (pv 1)) da_nil))) (dss_one (ds_return (de_tup da_nil))) dss_nil)))
    (dss_cons (ds_set (ps_set SC.nd rfl (by first | exact Or.inl rfl | exact Or.inr rfl) (de_tup (da_cons (de_fld (f := 8) rfl rfl (all_cons ⟨(He.cls_ok (F.c.d.fact 12 (f := .cls "Curve") rfl)), (He.noat_ok (F.c.d.fact 32 (f := .noat "Curve" "head") rfl)), ltN (by decide)⟩ all_nil) (de_var (pv 0)) rfl) (da_cons (de_fld (f := 6) rfl rfl (all_cons ⟨(He.cls_ok (F.c.d.fact 12 (f := .cls "Curve") rfl)), (He.noat_ok (F.c.d.fact 35 (f := .noat "Curve" "period") rfl)), ltN (by decide)⟩ all_nil) (de_var (pv 0)) rfl) (da_cons (de_fld (f := 7) rfl rfl (all_cons ⟨(He.cls_ok (F.c.d.fact 12 (f := .cls "Curve") rfl)), (He.noat_ok (F.c.d.fact 31 (f := .noat "Curve" "rise") rfl)), ltN (by decide)⟩ all_nil) (de_var (pv 0)) rfl) da_nil))))))
    (dss_one (ds_return (de_tup (da_cons (de_fld (f := 5) rfl rfl (all_cons ⟨(He.cls_ok (F.c.d.fact 12 (f := .cls "Curve") rfl)), (He.noat_ok (F.c.d.fact 33 (f := .noat "Curve" "numbers") rfl)), ltN (by decide)⟩ all_nil) (de_var (pv 0)) rfl) (da_cons (de_ix rfl (de_var (pv 2)) de_int (fun _ _ => rfl)) (da_cons (de_ix rfl (de_var (pv 2)) de_int (fun _ _ => rfl)) (da_cons (de_ix rfl (de_var (pv 2)) de_int (fun _ _ => rfl)) (da_cons (de_fld (f := 9) rfl rfl (all_cons ⟨(He.cls_ok (F.c.d.fact 12 (f := .cls "Curve") rfl)), (He.noat_ok (F.c.d.fact 36 (f := .noat "Curve" "rate") rfl)), ltN (by decide)⟩ all_nil) (de_var (pv 0)) rfl) (da_cons (de_fld (f := 10) rfl rfl (all_cons ⟨(He.cls_ok (F.c.d.fact 12 (f := .cls "Curve") rfl)), (He.noat_ok (F.c.d.fact 34 (f := .noat "Curve" "rising") rfl)), ltN (by decide)⟩ all_nil) (de_var (pv 0)) rfl) da_nil)))))))))))))
theorem cal_law_shown (F : Fx K mg h) : Cal (vc K) Pg w mg base "_law_shown" 2 1 ph_law_shown := by
  obtain ⟨fd, FD⟩ := F.c.d.def_ 19 (d := dd_law_shown) rfl
  exact ⟨_, fd, ["curve"], fn_ok FD sc_law_shown rfl rfl (fun cdv A outer s H E hr => der_law_shown F hr), (He.glo_ok F.X F.G (F.c.d.fact 53 (f := .glo "_law_shown") rfl)), FD.kp, FunD.bindsN (ps := ["curve"]) FD fun _ _ _ _ _ _ us hl => match us, hl with | [_], _ => rfl⟩

/-! common_period -/
abbrev s_common_period : Stmt := top 23
abbrev N_common_period : List Str := ["a", "b", "period"]
theorem sc_common_period : FnScope N_common_period ["a", "b"] (defScope s_common_period) := ⟨rfl, rfl, rfl, by decide +kernel, rfl, by decide +kernel, by decide +kernel⟩
noncomputable def m_common_period : SemS :=
    vSeq (vAsg (vCall fLcm (vCons (vFld [5] 6 (vVar 0)) (vCons (vFld [5] 6 (vVar 1)) (vNil)))) (tgN 2))
    (vSeq (vIfS (vTest (vOp oGt (vVar 2) (vC (.int 400)))) (vRaise 3 2 [(3, 1)] (vCons (vVar 2) (vNil))) (vNext))
    (vRet (vVar 2)))
noncomputable def ph_common_period : FnSem := fnSem 2 3 m_common_period
theorem der_common_period (F : Fx K mg h) {f : Addr} {cdv : Value} {A : Around} {outer : List Env} {s : Shared} {H : Hp} {E : XK} (hr : Room 2 (A.deeper (envOfC "common_period" (defScope s_common_period) s.heap.objs.size f cdv))) :
    DSs (vc K) (cxOf (L2N.CX Pg w) Pg w K mg base N_common_period "common_period" (defScope s_common_period) f cdv A outer s H E) (fun cls d _ H => E cls d H) (defBody s_common_period) m_common_period :=
  have SC := sc_common_period
  (dss_cons (ds_set (ps_set SC.nd rfl (by first | exact Or.inl rfl | exact Or.inr rfl) (de_lcm rfl (PySem.W.mg_of F.X F.G (He.eqO_ok (ex_at F.c.more 12 (b := He.eqO (PySem.W.nsIn K mainGlobals "lcm") (some (some (.builtin "math.lcm")))) rfl))) (da_cons (de_fld (f := 6) rfl rfl (all_cons ⟨(He.cls_ok (F.c.d.fact 12 (f := .cls "Curve") rfl)), (He.noat_ok (F.c.d.fact 35 (f := .noat "Curve" "period") rfl)), ltN (by decide)⟩ all_nil) (de_var (pv 0)) rfl) (da_cons (de_fld (f := 6) rfl rfl (all_cons ⟨(He.cls_ok (F.c.d.fact 12 (f := .cls "Curve") rfl)), (He.noat_ok (F.c.d.fact 35 (f := .noat "Curve" "period") rfl)), ltN (by decide)⟩ all_nil) (de_var (pv 1)) rfl) da_nil)))))
    (dss_cons (ds_if (dt_gt (de_var (pv 2)) (de_gint rfl (He.int_ok F.X F.G (F.c.d.fact 40 (f := .int "LONG" 400) rfl)))) (dss_one (ds_calE rfl (cale_TooLong F) hr tkc rfl (by decide) rfl (da_cons (de_var (pv 2)) da_nil))) dss_nil)
    (dss_one (ds_return (de_var (pv 2))))))
theorem cal_common_period (F : Fx K mg h) : Cal (vc K) Pg w mg base "common_period" 3 2 ph_common_period := by
  obtain ⟨fd, FD⟩ := F.c.d.def_ 20 (d := dd_common_period) rfl
  exact ⟨_, fd, ["a", "b"], fn_ok FD sc_common_period rfl rfl (fun cdv A outer s H E hr => der_common_period F hr), (He.glo_ok F.X F.G (F.c.d.fact 54 (f := .glo "common_period") rfl)), FD.kp, FunD.bindsN (ps := ["a", "b"]) FD fun _ _ _ _ _ _ us hl => match us, hl with | [_, _], _ => rfl⟩

/-! first_numbers -/
abbrev s_first_numbers : Stmt := top 21
abbrev N_first_numbers : List Str := ["curve", "many", "told", "tick"]
theorem sc_first_numbers : FnScope N_first_numbers ["curve", "many"] (defScope s_first_numbers) := ⟨rfl, rfl, rfl, by decide +kernel, rfl, by decide +kernel, by decide +kernel⟩
noncomputable def m_first_numbers : SemS :=
    vSeq (vNew 2 (vCall fList (vCons (vCut (vFld [5] 5 (vVar 0)) vNoPart (vPart (vVar 1))) (vNil))))
    (vSeq (vFor (vRange2 (vCons (vCall fLen (vCons (vVar 2) (vNil))) (vCons (vVar 1) (vNil)))) (tgN 3) (vDrop (vMt mAppend (vVar 2) (vCons (vOp oPlus (vOp oIx (vVar 2) (vOp oSub (vVar 3) (vFld [5] 6 (vVar 0)))) (vFld [5] 7 (vVar 0))) (vNil)))))
    (vRet (vTake 2)))
noncomputable def ph_first_numbers : FnSem := fnSem 2 4 m_first_numbers
theorem der_first_numbers (F : Fx K mg h) {f : Addr} {cdv : Value} {A : Around} {outer : List Env} {s : Shared} {H : Hp} {E : XK} (hr : Room 0 (A.deeper (envOfC "first_numbers" (defScope s_first_numbers) s.heap.objs.size f cdv))) :
    DSs (vc K) (cxOf (L2N.CX Pg w) Pg w K mg base N_first_numbers "first_numbers" (defScope s_first_numbers) f cdv A outer s H E) (fun cls d _ H => E cls d H) (defBody s_first_numbers) m_first_numbers :=
  have SC := sc_first_numbers
  (dss_cons (ds_new (ps_set SC.nd rfl (by first | exact Or.inl rfl | exact Or.inr rfl) (de_list rfl rfl (He.free_ok F.X F.G (F.c.d.fact 37 (f := .free "list") rfl)) (da_cons (de_cut rfl (de_fld (f := 5) rfl rfl (all_cons ⟨(He.cls_ok (F.c.d.fact 12 (f := .cls "Curve") rfl)), (He.noat_ok (F.c.d.fact 33 (f := .noat "Curve" "numbers") rfl)), ltN (by decide)⟩ all_nil) (de_var (pv 0)) rfl) do_none (do_some (de_var (pv 1)))) da_nil))))
    (dss_cons (ds_for hpc rfl (di_range2 rfl (He.free_ok F.X F.G (F.c.d.fact 16 (f := .free "range") rfl)) (da_cons (de_len rfl rfl (He.free_ok F.X F.G (F.c.d.fact 15 (f := .free "len") rfl)) (da_cons (de_var (pv 2)) da_nil)) (da_cons (de_var (pv 1)) da_nil)) (fun h => pi_range2 rfl (He.free_ok F.X F.G (F.c.d.fact 16 (f := .free "range") rfl)) h)) (dg_name (pg_name SC.nd rfl (by first | exact Or.inl rfl | exact Or.inr rfl))) (dss_one (ds_expr (de_append rfl (de_var (pv 2)) (da_cons (de_plus rfl (de_ix rfl (de_var (pv 2)) (de_minus (de_var (pv 3)) (de_fld (f := 6) rfl rfl (all_cons ⟨(He.cls_ok (F.c.d.fact 12 (f := .cls "Curve") rfl)), (He.noat_ok (F.c.d.fact 35 (f := .noat "Curve" "period") rfl)), ltN (by decide)⟩ all_nil) (de_var (pv 0)) rfl)) (fun _ _ => rfl)) (de_fld (f := 7) rfl rfl (all_cons ⟨(He.cls_ok (F.c.d.fact 12 (f := .cls "Curve") rfl)), (He.noat_ok (F.c.d.fact 31 (f := .noat "Curve" "rise") rfl)), ltN (by decide)⟩ all_nil) (de_var (pv 0)) rfl)) da_nil) (fun h1 h2 => pe_bm PySem.F.plainAttrs_list PySem.F.slot_list_append (by kernel_rfl) mt_append h1 h2)))))
    (dss_one (ds_return (de_take (pv 2))))))
theorem cal_first_numbers (F : Fx K mg h) : Cal (vc K) Pg w mg base "first_numbers" 1 2 ph_first_numbers := by
  obtain ⟨fd, FD⟩ := F.c.d.def_ 21 (d := dd_first_numbers) rfl
  exact ⟨_, fd, ["curve", "many"], fn_ok FD sc_first_numbers rfl rfl (fun cdv A outer s H E hr => der_first_numbers F hr), (He.glo_ok F.X F.G (F.c.d.fact 55 (f := .glo "first_numbers") rfl)), FD.kp, FunD.bindsN (ps := ["curve", "many"]) FD fun _ _ _ _ _ _ us hl => match us, hl with | [_, _], _ => rfl⟩

/-! loose -/
abbrev s_loose : Stmt := top 19
abbrev N_loose : List Str := ["numbers", "period", "rise", "told", "part", "gain", "curve"]
theorem sc_loose : FnScope N_loose ["numbers", "period", "rise"] (defScope s_loose) := ⟨rfl, rfl, rfl, by decide +kernel, rfl, by decide +kernel, by decide +kernel⟩
noncomputable def m_loose : SemS :=
    vSeq (vAsg (vDef 3 ph_canonical (vCons (vCall fList (vCons (vVar 0) (vNil))) (vCons (vVar 1) (vCons (vVar 2) (vNil))))) (tgTup 3 (tgsCons (tgN 3) (tgsCons (tgN 4) (tgsCons (tgN 5) (tgsNil))))))
    (vSeq (vNew 6 (vMake true 5 4 ph_Curve_init (vCons (vTup (vCons (vC (.int 0)) (vNil))) (vCons (vC (.int 1)) (vCons (vC (.int 0)) (vNil))))))
    (vSeq (vAsg (vVar 3) (tgF [5] 5 (vVar 6)))
    (vSeq (vAsg (vOp oSub (vCall fLen (vCons (vVar 3) (vNil))) (vVar 4)) (tgF [5] 8 (vVar 6)))
    (vSeq (vAsg (vVar 4) (tgF [5] 6 (vVar 6)))
    (vSeq (vAsg (vVar 5) (tgF [5] 7 (vVar 6)))
    (vSeq (vAsg (vDef 2 ph_reduced (vCons (vVar 5) (vCons (vVar 4) (vNil)))) (tgF [5] 9 (vVar 6)))
    (vSeq (vAsg (vIsN (vDef 3 ph_first_fall (vCons (vVar 3) (vCons (vFld [5] 8 (vVar 6)) (vCons (vVar 5) (vNil)))))) (tgF [5] 10 (vVar 6)))
    (vRet (vTake 6)))))))))
noncomputable def ph_loose : FnSem := fnSem 3 7 m_loose
theorem der_loose (F : Fx K mg h) {f : Addr} {cdv : Value} {A : Around} {outer : List Env} {s : Shared} {H : Hp} {E : XK} (hr : Room 5 (A.deeper (envOfC "loose" (defScope s_loose) s.heap.objs.size f cdv))) :
    DSs (vc K) (cxOf (L2N.CX Pg w) Pg w K mg base N_loose "loose" (defScope s_loose) f cdv A outer s H E) (fun cls d _ H => E cls d H) (defBody s_loose) m_loose :=
  have SC := sc_loose
  (dss_cons (ds_asg (de_cal rfl (cal_canonical F) hr tkc (by decide) rfl (da_cons (de_list rfl rfl (He.free_ok F.X F.G (F.c.d.fact 37 (f := .free "list") rfl)) (da_cons (de_var (pv 0)) da_nil)) (da_cons (de_var (pv 1)) (da_cons (de_var (pv 2)) da_nil)))) (dg_tup rfl rfl (dgs_cons (dg_name (pg_name SC.nd rfl (by first | exact Or.inl rfl | exact Or.inr rfl))) (dgs_cons (dg_name (pg_name SC.nd rfl (by first | exact Or.inl rfl | exact Or.inr rfl))) (dgs_cons (dg_name (pg_name SC.nd rfl (by first | exact Or.inl rfl | exact Or.inr rfl))) dgs_nil)))) (tgTup_t (tgsCons_t tgN_t (tgsCons_t tgN_t (tgsCons_t tgN_t tgsNil_t)))))
    (dss_cons (ds_new (ps_set SC.nd rfl (by first | exact Or.inl rfl | exact Or.inr rfl) (de_calN (fz := true) rfl (caln_Curve_init F) hr tkc (by decide) rfl (da_cons (de_tup (da_cons de_int da_nil)) (da_cons de_int (da_cons de_int da_nil))))))
    (dss_cons (ds_asg (de_var (pv 3)) (dg_fld (f := 5) rfl rfl (all_cons ⟨(He.cls_ok (F.c.d.fact 12 (f := .cls "Curve") rfl)), (He.noat_ok (F.c.d.fact 33 (f := .noat "Curve" "numbers") rfl)), ltN (by decide)⟩ all_nil) (de_var (pv 6))) tgF_t)
    (dss_cons (ds_asg (de_minus (de_len rfl rfl (He.free_ok F.X F.G (F.c.d.fact 15 (f := .free "len") rfl)) (da_cons (de_var (pv 3)) da_nil)) (de_var (pv 4))) (dg_fld (f := 8) rfl rfl (all_cons ⟨(He.cls_ok (F.c.d.fact 12 (f := .cls "Curve") rfl)), (He.noat_ok (F.c.d.fact 32 (f := .noat "Curve" "head") rfl)), ltN (by decide)⟩ all_nil) (de_var (pv 6))) tgF_t)
    (dss_cons (ds_asg (de_var (pv 4)) (dg_fld (f := 6) rfl rfl (all_cons ⟨(He.cls_ok (F.c.d.fact 12 (f := .cls "Curve") rfl)), (He.noat_ok (F.c.d.fact 35 (f := .noat "Curve" "period") rfl)), ltN (by decide)⟩ all_nil) (de_var (pv 6))) tgF_t)
    (dss_cons (ds_asg (de_var (pv 5)) (dg_fld (f := 7) rfl rfl (all_cons ⟨(He.cls_ok (F.c.d.fact 12 (f := .cls "Curve") rfl)), (He.noat_ok (F.c.d.fact 31 (f := .noat "Curve" "rise") rfl)), ltN (by decide)⟩ all_nil) (de_var (pv 6))) tgF_t)
    (dss_cons (ds_asg (de_cal rfl (cal_reduced F) hr tkc (by decide) rfl (da_cons (de_var (pv 5)) (da_cons (de_var (pv 4)) da_nil))) (dg_fld (f := 9) rfl rfl (all_cons ⟨(He.cls_ok (F.c.d.fact 12 (f := .cls "Curve") rfl)), (He.noat_ok (F.c.d.fact 36 (f := .noat "Curve" "rate") rfl)), ltN (by decide)⟩ all_nil) (de_var (pv 6))) tgF_t)
    (dss_cons (ds_asg (de_isN (de_cal rfl (cal_first_fall F) hr tkc (by decide) rfl (da_cons (de_var (pv 3)) (da_cons (de_fld (f := 8) rfl rfl (all_cons ⟨(He.cls_ok (F.c.d.fact 12 (f := .cls "Curve") rfl)), (He.noat_ok (F.c.d.fact 32 (f := .noat "Curve" "head") rfl)), ltN (by decide)⟩ all_nil) (de_var (pv 6)) rfl) (da_cons (de_var (pv 5)) da_nil))))) (dg_fld (f := 10) rfl rfl (all_cons ⟨(He.cls_ok (F.c.d.fact 12 (f := .cls "Curve") rfl)), (He.noat_ok (F.c.d.fact 34 (f := .noat "Curve" "rising") rfl)), ltN (by decide)⟩ all_nil) (de_var (pv 6))) tgF_t)
    (dss_one (ds_return (de_take (pv 6))))))))))))
theorem cal_loose (F : Fx K mg h) : Cal (vc K) Pg w mg base "loose" 6 3 ph_loose := by
  obtain ⟨fd, FD⟩ := F.c.d.def_ 22 (d := dd_loose) rfl
  exact ⟨_, fd, ["numbers", "period", "rise"], fn_ok FD sc_loose rfl rfl (fun cdv A outer s H E hr => der_loose F hr), (He.glo_ok F.X F.G (F.c.d.fact 56 (f := .glo "loose") rfl)), FD.kp, FunD.bindsN (ps := ["numbers", "period", "rise"]) FD fun _ _ _ _ _ _ us hl => match us, hl with | [_, _, _], _ => rfl⟩

/-! made -/
abbrev s_made : Stmt := top 20
abbrev N_made : List Str := ["numbers", "period", "rise", "curve"]
theorem sc_made : FnScope N_made ["numbers", "period", "rise"] (defScope s_made) := ⟨rfl, rfl, rfl, by decide +kernel, rfl, by decide +kernel, by decide +kernel⟩
noncomputable def m_made : SemS :=
    vSeq (vAsg (vDef 3 ph_loose (vCons (vVar 0) (vCons (vVar 1) (vCons (vVar 2) (vNil))))) (tgN 3))
    (vSeq (vIfS (vTest (vOp oGt (vCall fLen (vCons (vFld [5] 5 (vVar 3)) (vNil))) (vC (.int 400)))) (vRaise 3 2 [(3, 1)] (vCons (vCall fLen (vCons (vFld [5] 5 (vVar 3)) (vNil))) (vNil))) (vNext))
    (vRet (vVar 3)))
noncomputable def ph_made : FnSem := fnSem 3 4 m_made
theorem der_made (F : Fx K mg h) {f : Addr} {cdv : Value} {A : Around} {outer : List Env} {s : Shared} {H : Hp} {E : XK} (hr : Room 6 (A.deeper (envOfC "made" (defScope s_made) s.heap.objs.size f cdv))) :
    DSs (vc K) (cxOf (L2N.CX Pg w) Pg w K mg base N_made "made" (defScope s_made) f cdv A outer s H E) (fun cls d _ H => E cls d H) (defBody s_made) m_made :=
  have SC := sc_made
  (dss_cons (ds_set (ps_set SC.nd rfl (by first | exact Or.inl rfl | exact Or.inr rfl) (de_cal rfl (cal_loose F) hr tkc (by decide) rfl (da_cons (de_var (pv 0)) (da_cons (de_var (pv 1)) (da_cons (de_var (pv 2)) da_nil))))))
    (dss_cons (ds_if (dt_gt (de_len rfl rfl (He.free_ok F.X F.G (F.c.d.fact 15 (f := .free "len") rfl)) (da_cons (de_fld (f := 5) rfl rfl (all_cons ⟨(He.cls_ok (F.c.d.fact 12 (f := .cls "Curve") rfl)), (He.noat_ok (F.c.d.fact 33 (f := .noat "Curve" "numbers") rfl)), ltN (by decide)⟩ all_nil) (de_var (pv 3)) rfl) da_nil)) (de_gint rfl (He.int_ok F.X F.G (F.c.d.fact 40 (f := .int "LONG" 400) rfl)))) (dss_one (ds_calE rfl (cale_TooLong F) hr tkc rfl (by decide) rfl (da_cons (de_len rfl rfl (He.free_ok F.X F.G (F.c.d.fact 15 (f := .free "len") rfl)) (da_cons (de_fld (f := 5) rfl rfl (all_cons ⟨(He.cls_ok (F.c.d.fact 12 (f := .cls "Curve") rfl)), (He.noat_ok (F.c.d.fact 33 (f := .noat "Curve" "numbers") rfl)), ltN (by decide)⟩ all_nil) (de_var (pv 3)) rfl) da_nil)) da_nil))) dss_nil)
    (dss_one (ds_return (de_var (pv 3))))))
theorem cal_made (F : Fx K mg h) : Cal (vc K) Pg w mg base "made" 7 3 ph_made := by
  obtain ⟨fd, FD⟩ := F.c.d.def_ 23 (d := dd_made) rfl
  exact ⟨_, fd, ["numbers", "period", "rise"], fn_ok FD sc_made rfl rfl (fun cdv A outer s H E hr => der_made F hr), (He.glo_ok F.X F.G (F.c.d.fact 57 (f := .glo "made") rfl)), FD.kp, FunD.bindsN (ps := ["numbers", "period", "rise"]) FD fun _ _ _ _ _ _ us hl => match us, hl with | [_, _, _], _ => rfl⟩

/-! gain_in -/
abbrev s_gain_in : Stmt := top 22
abbrev N_gain_in : List Str := ["curve", "ticks"]
theorem sc_gain_in : FnScope N_gain_in ["curve", "ticks"] (defScope s_gain_in) := ⟨rfl, rfl, rfl, by decide +kernel, rfl, by decide +kernel, by decide +kernel⟩
noncomputable def m_gain_in : SemS :=
    vRet (vOp oTimes (vFld [5] 7 (vVar 0)) (vOp oFdiv (vVar 1) (vFld [5] 6 (vVar 0))))
noncomputable def ph_gain_in : FnSem := fnSem 2 2 m_gain_in
theorem der_gain_in (F : Fx K mg h) {f : Addr} {cdv : Value} {A : Around} {outer : List Env} {s : Shared} {H : Hp} {E : XK} (hr : Room 0 (A.deeper (envOfC "gain_in" (defScope s_gain_in) s.heap.objs.size f cdv))) :
    DSs (vc K) (cxOf (L2N.CX Pg w) Pg w K mg base N_gain_in "gain_in" (defScope s_gain_in) f cdv A outer s H E) (fun cls d _ H => E cls d H) (defBody s_gain_in) m_gain_in :=
  have SC := sc_gain_in
  (dss_one (ds_return (de_times (de_fld (f := 7) rfl rfl (all_cons ⟨(He.cls_ok (F.c.d.fact 12 (f := .cls "Curve") rfl)), (He.noat_ok (F.c.d.fact 31 (f := .noat "Curve" "rise") rfl)), ltN (by decide)⟩ all_nil) (de_var (pv 0)) rfl) (de_fdiv (de_var (pv 1)) (de_fld (f := 6) rfl rfl (all_cons ⟨(He.cls_ok (F.c.d.fact 12 (f := .cls "Curve") rfl)), (He.noat_ok (F.c.d.fact 35 (f := .noat "Curve" "period") rfl)), ltN (by decide)⟩ all_nil) (de_var (pv 0)) rfl)))))
theorem cal_gain_in (F : Fx K mg h) : Cal (vc K) Pg w mg base "gain_in" 1 2 ph_gain_in := by
  obtain ⟨fd, FD⟩ := F.c.d.def_ 24 (d := dd_gain_in) rfl
  exact ⟨_, fd, ["curve", "ticks"], fn_ok FD sc_gain_in rfl rfl (fun cdv A outer s H E hr => der_gain_in F hr), (He.glo_ok F.X F.G (F.c.d.fact 58 (f := .glo "gain_in") rfl)), FD.kp, FunD.bindsN (ps := ["curve", "ticks"]) FD fun _ _ _ _ _ _ us hl => match us, hl with | [_, _], _ => rfl⟩

/-! deconvolved -/
abbrev s_deconvolved : Stmt := top 25
abbrev N_deconvolved : List Str := ["a", "b", "period", "starts", "many", "ours", "theirs", "told", "x", "y", "tick"]
theorem sc_deconvolved : FnScope N_deconvolved ["a", "b"] (defScope s_deconvolved) := ⟨rfl, rfl, rfl, by decide +kernel, rfl, by decide +kernel, by decide +kernel⟩
noncomputable def m_deconvolved : SemS :=
    vSeq (vAsg (vDef 2 ph_common_period (vCons (vVar 0) (vCons (vVar 1) (vNil)))) (tgN 2))
    (vSeq (vIfS (vTest (vOp oGt (vDef 2 ph_gain_in (vCons (vVar 0) (vCons (vVar 2) (vNil)))) (vDef 2 ph_gain_in (vCons (vVar 1) (vCons (vVar 2) (vNil)))))) (vRaise 7 1 [] vNil) (vNext))
    (vSeq (vAsg (vOp oPlus (vCall fMax2 (vCons (vFld [5] 8 (vVar 0)) (vCons (vFld [5] 8 (vVar 1)) (vNil)))) (vVar 2)) (tgN 3))
    (vSeq (vAsg (vOp oPlus (vFld [5] 8 (vVar 0)) (vFld [5] 6 (vVar 0))) (tgN 4))
    (vSeq (vAsg (vDef 2 ph_first_numbers (vCons (vVar 0) (vCons (vOp oPlus (vVar 4) (vVar 3)) (vNil)))) (tgN 5))
    (vSeq (vAsg (vDef 2 ph_first_numbers (vCons (vVar 1) (vCons (vVar 3) (vNil)))) (tgN 6))
    (vSeq (vAsg (vComp (vRange1 (vCons (vVar 4) (vNil))) (.nm 10) [10] (vYes) (vCall fMaxL (vCons (vComp (vZip (vCons (vCut (vVar 5) (vPart (vVar 10)) (vPart (vOp oPlus (vVar 10) (vVar 3)))) (vCons (vVar 6) (vNil)))) (.tup [8, 9]) [8, 9] (vYes) (vOp oSub (vVar 8) (vVar 9))) (vNil)))) (tgN 7))
    (vRet (vDef 3 ph_made (vCons (vVar 7) (vCons (vFld [5] 6 (vVar 0)) (vCons (vFld [5] 7 (vVar 0)) (vNil))))))))))))
noncomputable def ph_deconvolved : FnSem := fnSem 2 11 m_deconvolved
theorem der_deconvolved (F : Fx K mg h) {f : Addr} {cdv : Value} {A : Around} {outer : List Env} {s : Shared} {H : Hp} {E : XK} (hr : Room 7 (A.deeper (envOfC "deconvolved" (defScope s_deconvolved) s.heap.objs.size f cdv))) :
    DSs (vc K) (cxOf (L2N.CX Pg w) Pg w K mg base N_deconvolved "deconvolved" (defScope s_deconvolved) f cdv A outer s H E) (fun cls d _ H => E cls d H) (defBody s_deconvolved) m_deconvolved :=
  have SC := sc_deconvolved
  (dss_cons (ds_set (ps_set SC.nd rfl (by first | exact Or.inl rfl | exact Or.inr rfl) (de_cal rfl (cal_common_period F) hr tkc (by decide) rfl (da_cons (de_var (pv 0)) (da_cons (de_var (pv 1)) da_nil)))))
    (dss_cons (ds_if (dt_gt (de_cal rfl (cal_gain_in F) hr tkc (by decide) rfl (da_cons (de_var (pv 0)) (da_cons (de_var (pv 2)) da_nil))) (de_cal rfl (cal_gain_in F) hr tkc (by decide) rfl (da_cons (de_var (pv 1)) (da_cons (de_var (pv 2)) da_nil)))) (dss_one (ds_calE0 rfl (cale_Unbounded F) hr tkc rfl (by decide) rfl)) dss_nil)
    (dss_cons (ds_set (ps_set SC.nd rfl (by first | exact Or.inl rfl | exact Or.inr rfl) (de_plus rfl (de_max2 rfl rfl (He.free_ok F.X F.G (F.c.d.fact 48 (f := .free "max") rfl)) (da_cons (de_fld (f := 8) rfl rfl (all_cons ⟨(He.cls_ok (F.c.d.fact 12 (f := .cls "Curve") rfl)), (He.noat_ok (F.c.d.fact 32 (f := .noat "Curve" "head") rfl)), ltN (by decide)⟩ all_nil) (de_var (pv 0)) rfl) (da_cons (de_fld (f := 8) rfl rfl (all_cons ⟨(He.cls_ok (F.c.d.fact 12 (f := .cls "Curve") rfl)), (He.noat_ok (F.c.d.fact 32 (f := .noat "Curve" "head") rfl)), ltN (by decide)⟩ all_nil) (de_var (pv 1)) rfl) da_nil))) (de_var (pv 2)))))
    (dss_cons (ds_set (ps_set SC.nd rfl (by first | exact Or.inl rfl | exact Or.inr rfl) (de_plus rfl (de_fld (f := 8) rfl rfl (all_cons ⟨(He.cls_ok (F.c.d.fact 12 (f := .cls "Curve") rfl)), (He.noat_ok (F.c.d.fact 32 (f := .noat "Curve" "head") rfl)), ltN (by decide)⟩ all_nil) (de_var (pv 0)) rfl) (de_fld (f := 6) rfl rfl (all_cons ⟨(He.cls_ok (F.c.d.fact 12 (f := .cls "Curve") rfl)), (He.noat_ok (F.c.d.fact 35 (f := .noat "Curve" "period") rfl)), ltN (by decide)⟩ all_nil) (de_var (pv 0)) rfl))))
    (dss_cons (ds_set (ps_set SC.nd rfl (by first | exact Or.inl rfl | exact Or.inr rfl) (de_cal rfl (cal_first_numbers F) hr tkc (by decide) rfl (da_cons (de_var (pv 0)) (da_cons (de_plus rfl (de_var (pv 4)) (de_var (pv 3))) da_nil)))))
    (dss_cons (ds_set (ps_set SC.nd rfl (by first | exact Or.inl rfl | exact Or.inr rfl) (de_cal rfl (cal_first_numbers F) hr tkc (by decide) rfl (da_cons (de_var (pv 1)) (da_cons (de_var (pv 3)) da_nil)))))
    (dss_cons (ds_set (ds_setComp rfl (by decide) (ps_setLc (own := [("tick", 10)]) rfl SC.nd rfl rfl rfl (di_range1 rfl (He.free_ok F.X F.G (F.c.d.fact 16 (f := .free "range") rfl)) (da_cons (de_var (pv 4)) da_nil)) (blkOk_by (by kernel_rfl)) (fun _ _ _ _ _ => pg_name SC.nd rfl (by first | exact Or.inl rfl | exact Or.inr rfl)) (fun _ _ _ _ _ => dts_nil) (fun _ _ _ _ _ => (de_maxL rfl rfl rfl (He.free_ok F.X F.G (F.c.d.fact 48 (f := .free "max") rfl)) (da_cons (de_comp rfl (by decide) (pe_lc (own := [("x", 8), ("y", 9)]) rfl SC.nd (di_zip rfl rfl (He.free_ok F.X F.G (F.c.d.fact 59 (f := .free "zip") rfl)) (da_cons (de_cut rfl (de_var (pv 5)) (do_some (de_var (pv 10))) (do_some (de_plus rfl (de_var (pv 10)) (de_var (pv 3))))) (da_cons (de_var (pv 6)) da_nil))) (blkOk_by (by kernel_rfl)) (fun _ _ _ _ _ => pg_tup rfl (pgs_cons (pg_name SC.nd rfl (by first | exact Or.inl rfl | exact Or.inr rfl)) (pgs_cons (pg_name SC.nd rfl (by first | exact Or.inl rfl | exact Or.inr rfl)) pgs_nil))) (fun _ _ _ _ _ => dts_nil) (fun _ _ _ _ _ => (de_minus (de_var (pv 8)) (de_var (pv 9)))))) da_nil))))))
    (dss_one (ds_return (de_cal rfl (cal_made F) hr tkc (by decide) rfl (da_cons (de_var (pv 7)) (da_cons (de_fld (f := 6) rfl rfl (all_cons ⟨(He.cls_ok (F.c.d.fact 12 (f := .cls "Curve") rfl)), (He.noat_ok (F.c.d.fact 35 (f := .noat "Curve" "period") rfl)), ltN (by decide)⟩ all_nil) (de_var (pv 0)) rfl) (da_cons (de_fld (f := 7) rfl rfl (all_cons ⟨(He.cls_ok (F.c.d.fact 12 (f := .cls "Curve") rfl)), (He.noat_ok (F.c.d.fact 31 (f := .noat "Curve" "rise") rfl)), ltN (by decide)⟩ all_nil) (de_var (pv 0)) rfl) da_nil)))))))))))))
theorem cal_deconvolved (F : Fx K mg h) : Cal (vc K) Pg w mg base "deconvolved" 8 2 ph_deconvolved := by
  obtain ⟨fd, FD⟩ := F.c.d.def_ 25 (d := dd_deconvolved) rfl
  exact ⟨_, fd, ["a", "b"], fn_ok FD sc_deconvolved rfl rfl (fun cdv A outer s H E hr => der_deconvolved F hr), (He.glo_ok F.X F.G (F.c.d.fact 60 (f := .glo "deconvolved") rfl)), FD.kp, FunD.bindsN (ps := ["a", "b"]) FD fun _ _ _ _ _ _ us hl => match us, hl with | [_, _], _ => rfl⟩

/-! _law_asked -/
abbrev s_law_asked : Stmt := top 52
abbrev N_law_asked : List Str := ["one", "two", "told", "e"]
theorem sc_law_asked : FnScope N_law_asked ["one", "two"] (defScope s_law_asked) := ⟨rfl, rfl, rfl, by decide +kernel, rfl, by decide +kernel, by decide +kernel⟩
noncomputable def m_law_asked : SemS :=
    vSeq (vTry (vAsg (vDef 2 ph_deconvolved (vCons (vVar 0) (vCons (vVar 1) (vNil)))) (tgN 2)) [⟨[(1, false), (2, false), (3, true), (4, false), (7, false)], (some 3), fun a cls dd => vRet (vTup (vCons (vC (.str "long")) (vCons (vDef 1 ph_law_number (vCons (vXf a cls dd [3] 3 (vVar 3)) (vNil))) (vNil))))⟩, ⟨[(1, false), (2, false), (3, false), (4, false), (7, true)], none, fun a cls dd => vRet (vTup (vCons (vC (.str "unbounded")) (vNil)))⟩])
    (vRet (vDef 1 ph_law_shown (vCons (vVar 2) (vNil))))
noncomputable def ph_law_asked : FnSem := fnSem 2 4 m_law_asked
theorem der_law_asked (F : Fx K mg h) {f : Addr} {cdv : Value} {A : Around} {outer : List Env} {s : Shared} {H : Hp} {E : XK} (hr : Room 8 (A.deeper (envOfC "_law_asked" (defScope s_law_asked) s.heap.objs.size f cdv))) :
    DSs (vc K) (cxOf (L2N.CX Pg w) Pg w K mg base N_law_asked "_law_asked" (defScope s_law_asked) f cdv A outer s H E) (fun cls d _ H => E cls d H) (defBody s_law_asked) m_law_asked :=
  have SC := sc_law_asked
  (dss_cons (ds_try rfl rfl rfl SC.nd tkc (fun W1 pn xe tk1 hp1 => (dss_one (ds_set (ps_set SC.nd rfl (by first | exact Or.inl rfl | exact Or.inr rfl) (de_cal rfl (cal_deconvolved F) hr tk1 (by decide) rfl (da_cons (de_var (pv 0)) (da_cons (de_var (pv 1)) da_nil))))))) (.named rfl rfl ⟨rfl, by decide, .inl (He.glo_ok F.X F.G (F.c.d.fact 10 (f := .glo "TooLong") rfl))⟩ (all_cons (He.exm_ok (F.c.d.fact 61 (f := .exm "OutOfRange" "TooLong" false) rfl)) (all_cons (He.exm_ok (F.c.d.fact 62 (f := .exm "TooMany" "TooLong" false) rfl)) (all_cons (He.exm_ok (F.c.d.fact 63 (f := .exm "TooLong" "TooLong" true) rfl)) (all_cons (He.exm_ok (F.c.d.fact 64 (f := .exm "BadValue" "TooLong" false) rfl)) (all_cons (He.exm_ok (F.c.d.fact 65 (f := .exm "Unbounded" "TooLong" false) rfl)) all_nil))))) (fun a oe cls dd pn hz hd => (dss_one (ds_return (de_tup (da_cons de_str (da_cons (de_calV rfl (calv_law_number F) (hot_suite hz hd hr) takesF (by decide) rfl (da_cons (de_xf (f := 3) rfl rfl (all_cons ⟨XC_TooLong F, (He.noat_ok (F.c.d.fact 9 (f := .noat "TooLong" "ticks") rfl))⟩ all_nil) hz hd (de_var (pv 3))) da_nil)) da_nil)))))) (.plain ⟨rfl, by decide, .inl (He.glo_ok F.X F.G (F.c.d.fact 11 (f := .glo "Unbounded") rfl))⟩ (all_cons (He.exm_ok (F.c.d.fact 66 (f := .exm "OutOfRange" "Unbounded" false) rfl)) (all_cons (He.exm_ok (F.c.d.fact 67 (f := .exm "TooMany" "Unbounded" false) rfl)) (all_cons (He.exm_ok (F.c.d.fact 68 (f := .exm "TooLong" "Unbounded" false) rfl)) (all_cons (He.exm_ok (F.c.d.fact 69 (f := .exm "BadValue" "Unbounded" false) rfl)) (all_cons (He.exm_ok (F.c.d.fact 70 (f := .exm "Unbounded" "Unbounded" true) rfl)) all_nil))))) (fun a oe cls dd pn hz hd => (dss_one (ds_return (de_tup (da_cons de_str da_nil))))) HdsD.nil)))
    (dss_one (ds_return (de_cal rfl (cal_law_shown F) hr tkc (by decide) rfl (da_cons (de_var (pv 2)) da_nil)))))
theorem cal_law_asked (F : Fx K mg h) : Cal (vc K) Pg w mg base "_law_asked" 9 2 ph_law_asked := by
  obtain ⟨fd, FD⟩ := F.c.d.def_ 26 (d := dd_law_asked) rfl
  exact ⟨_, fd, ["one", "two"], fn_ok FD sc_law_asked rfl rfl (fun cdv A outer s H E hr => der_law_asked F hr), (He.glo_ok F.X F.G (F.c.d.fact 71 (f := .glo "_law_asked") rfl)), FD.kp, FunD.bindsN (ps := ["one", "two"]) FD fun _ _ _ _ _ _ us hl => match us, hl with | [_, _], _ => rfl⟩

/-! _law_far -/
abbrev s_law_far : Stmt := top 61
abbrev N_law_far : List Str := ["pool", "one", "two", "first", "second"]
theorem sc_law_far : FnScope N_law_far ["pool"] (defScope s_law_far) := ⟨rfl, rfl, rfl, by decide +kernel, rfl, by decide +kernel, by decide +kernel⟩
noncomputable def m_law_far : SemS :=
    vSeq (vAsg (vDef 2 ph_law_long (vCons (vVar 0) (vCons (vC (.int 19)) (vNil)))) (tgN 1))
    (vSeq (vAsg (vDef 2 ph_law_long (vCons (vVar 0) (vCons (vC (.int 23)) (vNil)))) (tgN 2))
    (vSeq (vAsg (vMake true 5 4 ph_Curve_init (vCons (vCall fTuple (vCons (vOp oIx (vVar 1) (vC (.int 0))) (vNil))) (vCons (vC (.int 19)) (vCons (vOp oPlus (vC (.int 5)) (vDef 2 ph_law_draw (vCons (vVar 0) (vCons (vC (.int 9)) (vNil))))) (vNil))))) (tgN 3))
    (vSeq (vAsg (vMake true 5 4 ph_Curve_init (vCons (vCall fTuple (vCons (vOp oIx (vVar 2) (vC (.int 0))) (vNil))) (vCons (vC (.int 23)) (vCons (vOp oIx (vVar 2) (vC (.int 2))) (vNil))))) (tgN 4))
    (vSeq (vIfS (vTest (vOp oNe (vDef 2 ph_law_asked (vCons (vVar 3) (vCons (vVar 4) (vNil)))) (vTup (vCons (vC (.str "long")) (vCons (vC (.int 437)) (vNil)))))) (vRet (vC (.bl false))) (vNext))
    (vRet (vOp oEq (vDef 2 ph_law_asked (vCons (vVar 4) (vCons (vVar 3) (vNil)))) (vTup (vCons (vC (.str "long")) (vCons (vC (.int 437)) (vNil))))))))))
noncomputable def ph_law_far : FnSem := fnSem 1 5 m_law_far
theorem der_law_far (F : Fx K mg h) {f : Addr} {cdv : Value} {A : Around} {outer : List Env} {s : Shared} {H : Hp} {E : XK} (hr : Room 9 (A.deeper (envOfC "_law_far" (defScope s_law_far) s.heap.objs.size f cdv))) :
    DSs (vc K) (cxOf (L2N.CX Pg w) Pg w K mg base N_law_far "_law_far" (defScope s_law_far) f cdv A outer s H E) (fun cls d _ H => E cls d H) (defBody s_law_far) m_law_far :=
  have SC := sc_law_far
  (dss_cons (ds_set (ps_set SC.nd rfl (by first | exact Or.inl rfl | exact Or.inr rfl) (de_cal rfl (cal_law_long F) hr tkc (by decide) rfl (da_cons (de_var (pv 0)) (da_cons de_int da_nil)))))
    (dss_cons (ds_set (ps_set SC.nd rfl (by first | exact Or.inl rfl | exact Or.inr rfl) (de_cal rfl (cal_law_long F) hr tkc (by decide) rfl (da_cons (de_var (pv 0)) (da_cons de_int da_nil)))))
    (dss_cons (ds_set (ps_set SC.nd rfl (by first | exact Or.inl rfl | exact Or.inr rfl) (de_calN (fz := true) rfl (caln_Curve_init F) hr tkc (by decide) rfl (da_cons (de_tuple rfl rfl (He.free_ok F.X F.G (F.c.d.fact 27 (f := .free "tuple") rfl)) (da_cons (de_ix rfl (de_var (pv 1)) de_int (fun _ _ => rfl)) da_nil)) (da_cons de_int (da_cons (de_plus rfl de_int (de_cal rfl (cal_law_draw F) hr tkc (by decide) rfl (da_cons (de_var (pv 0)) (da_cons de_int da_nil)))) da_nil))))))
    (dss_cons (ds_set (ps_set SC.nd rfl (by first | exact Or.inl rfl | exact Or.inr rfl) (de_calN (fz := true) rfl (caln_Curve_init F) hr tkc (by decide) rfl (da_cons (de_tuple rfl rfl (He.free_ok F.X F.G (F.c.d.fact 27 (f := .free "tuple") rfl)) (da_cons (de_ix rfl (de_var (pv 2)) de_int (fun _ _ => rfl)) da_nil)) (da_cons de_int (da_cons (de_ix rfl (de_var (pv 2)) de_int (fun _ _ => rfl)) da_nil))))))
    (dss_cons (ds_if (dt_ne rfl hr (de_cal rfl (cal_law_asked F) hr tkc (by decide) rfl (da_cons (de_var (pv 3)) (da_cons (de_var (pv 4)) da_nil))) (de_tup (da_cons de_str (da_cons de_int da_nil)))) (dss_one (ds_return de_bl)) dss_nil)
    (dss_one (ds_return (de_eq rfl hr (de_cal rfl (cal_law_asked F) hr tkc (by decide) rfl (da_cons (de_var (pv 4)) (da_cons (de_var (pv 3)) da_nil))) (de_tup (da_cons de_str (da_cons de_int da_nil)))))))))))
theorem cal_law_far (F : Fx K mg h) : Cal (vc K) Pg w mg base "_law_far" 10 1 ph_law_far := by
  obtain ⟨fd, FD⟩ := F.c.d.def_ 27 (d := dd_law_far) rfl
  exact ⟨_, fd, ["pool"], fn_ok FD sc_law_far rfl rfl (fun cdv A outer s H E hr => der_law_far F hr), (He.glo_ok F.X F.G (F.c.d.fact 72 (f := .glo "_law_far") rfl)), FD.kp, FunD.bindsN (ps := ["pool"]) FD fun _ _ _ _ _ _ us hl => match us, hl with | [_], _ => rfl⟩

/-! _law_beside -/
abbrev s_law_beside : Stmt := top 59
abbrev N_law_beside : List Str := ["pool", "due", "size", "row", "numbers", "number", "told", "lower", "at"]
theorem sc_law_beside : FnScope N_law_beside ["pool", "due"] (defScope s_law_beside) := ⟨rfl, rfl, rfl, by decide +kernel, rfl, by decide +kernel, by decide +kernel⟩
noncomputable def m_law_beside : SemS :=
    vSeq (vAsg (vOp oPlus (vOp oPlus (vOp oIx (vVar 1) (vC (.int 1))) (vOp oIx (vVar 1) (vC (.int 2)))) (vDef 2 ph_law_draw (vCons (vVar 0) (vCons (vC (.int 4)) (vNil))))) (tgN 2))
    (vSeq (vAsg (vDef 2 ph_law_row (vCons (vVar 1) (vCons (vVar 2) (vNil)))) (tgN 3))
    (vSeq (vAsg (vComp (vSrcA (vVar 3)) (.nm 5) [5] (vYes) (vOp oPlus (vVar 5) (vDef 2 ph_law_draw (vCons (vVar 0) (vCons (vC (.int 3)) (vNil)))))) (tgN 4))
    (vSeq (vNew 6 (vLst (vCons (vTup (vCons (vVar 4) (vCons (vOp oIx (vVar 1) (vC (.int 2))) (vCons (vOp oPlus (vOp oIx (vVar 1) (vC (.int 3))) (vDef 2 ph_law_draw (vCons (vVar 0) (vCons (vC (.int 2)) (vNil))))) (vNil))))) (vNil))))
    (vSeq (vNew 7 (vCall fList (vCons (vVar 4) (vNil))))
    (vSeq (vAsg (vDef 2 ph_law_draw (vCons (vVar 0) (vCons (vVar 2) (vNil)))) (tgN 8))
    (vSeq (vAsg (vOp oSub (vOp oSub (vOp oIx (vVar 3) (vVar 8)) (vC (.int 1))) (vDef 2 ph_law_draw (vCons (vVar 0) (vCons (vC (.int 2)) (vNil))))) (tgI (vVar 7) (vVar 8)))
    (vSeq (vDrop (vMt mAppend (vVar 6) (vCons (vTup (vCons (vTake 7) (vCons (vOp oIx (vVar 1) (vC (.int 2))) (vCons (vOp oPlus (vOp oIx (vVar 1) (vC (.int 3))) (vDef 2 ph_law_draw (vCons (vVar 0) (vCons (vC (.int 2)) (vNil))))) (vNil))))) (vNil))))
    (vRet (vOp oPlus (vVar 6) (vLst (vCons (vTup (vCons (vVar 4) (vCons (vOp oIx (vVar 1) (vC (.int 2))) (vCons (vOp oSub (vOp oIx (vVar 1) (vC (.int 3))) (vC (.int 1))) (vNil))))) (vNil))))))))))))
noncomputable def ph_law_beside : FnSem := fnSem 2 9 m_law_beside
theorem der_law_beside (F : Fx K mg h) {f : Addr} {cdv : Value} {A : Around} {outer : List Env} {s : Shared} {H : Hp} {E : XK} (hr : Room 1 (A.deeper (envOfC "_law_beside" (defScope s_law_beside) s.heap.objs.size f cdv))) :
    DSs (vc K) (cxOf (L2N.CX Pg w) Pg w K mg base N_law_beside "_law_beside" (defScope s_law_beside) f cdv A outer s H E) (fun cls d _ H => E cls d H) (defBody s_law_beside) m_law_beside :=
  have SC := sc_law_beside
  (dss_cons (ds_set (ps_set SC.nd rfl (by first | exact Or.inl rfl | exact Or.inr rfl) (de_plus rfl (de_plus rfl (de_ix rfl (de_var (pv 1)) de_int (fun _ _ => rfl)) (de_ix rfl (de_var (pv 1)) de_int (fun _ _ => rfl))) (de_cal rfl (cal_law_draw F) hr tkc (by decide) rfl (da_cons (de_var (pv 0)) (da_cons de_int da_nil))))))
    (dss_cons (ds_set (ps_set SC.nd rfl (by first | exact Or.inl rfl | exact Or.inr rfl) (de_cal rfl (cal_law_row F) hr tkc (by decide) rfl (da_cons (de_var (pv 1)) (da_cons (de_var (pv 2)) da_nil)))))
    (dss_cons (ds_set (ds_setComp rfl (by decide) (ps_setLc (own := [("number", 5)]) rfl SC.nd rfl rfl rfl (di_seq rfl (de_var (pv 3))) (blkOk_by (by kernel_rfl)) (fun _ _ _ _ _ => pg_name SC.nd rfl (by first | exact Or.inl rfl | exact Or.inr rfl)) (fun _ _ _ _ _ => dts_nil) (fun _ _ _ _ _ => (de_plus rfl (de_var (pv 5)) (de_cal rfl (cal_law_draw F) hr takesF (by decide) rfl (da_cons (de_var (pv 0)) (da_cons de_int da_nil))))))))
    (dss_cons (ds_new (ps_set SC.nd rfl (by first | exact Or.inl rfl | exact Or.inr rfl) (de_lst (da_cons (de_tup (da_cons (de_var (pv 4)) (da_cons (de_ix rfl (de_var (pv 1)) de_int (fun _ _ => rfl)) (da_cons (de_plus rfl (de_ix rfl (de_var (pv 1)) de_int (fun _ _ => rfl)) (de_cal rfl (cal_law_draw F) hr tkc (by decide) rfl (da_cons (de_var (pv 0)) (da_cons de_int da_nil)))) da_nil)))) da_nil))))
    (dss_cons (ds_new (ps_set SC.nd rfl (by first | exact Or.inl rfl | exact Or.inr rfl) (de_list rfl rfl (He.free_ok F.X F.G (F.c.d.fact 37 (f := .free "list") rfl)) (da_cons (de_var (pv 4)) da_nil))))
    (dss_cons (ds_set (ps_set SC.nd rfl (by first | exact Or.inl rfl | exact Or.inr rfl) (de_cal rfl (cal_law_draw F) hr tkc (by decide) rfl (da_cons (de_var (pv 0)) (da_cons (de_var (pv 2)) da_nil)))))
    (dss_cons (ds_asg (de_minus (de_minus (de_ix rfl (de_var (pv 3)) (de_var (pv 8)) (fun _ _ => rfl)) de_int) (de_cal rfl (cal_law_draw F) hr tkc (by decide) rfl (da_cons (de_var (pv 0)) (da_cons de_int da_nil)))) (dg_sub (de_var (pv 7)) (de_var (pv 8)) (fun h1 h2 => pg_sub h1 h2 set_list)) tgI_t)
    (dss_cons (ds_expr (de_append rfl (de_var (pv 6)) (da_cons (de_tup (da_cons (de_take (pv 7)) (da_cons (de_ix rfl (de_var (pv 1)) de_int (fun _ _ => rfl)) (da_cons (de_plus rfl (de_ix rfl (de_var (pv 1)) de_int (fun _ _ => rfl)) (de_cal rfl (cal_law_draw F) hr tkc (by decide) rfl (da_cons (de_var (pv 0)) (da_cons de_int da_nil)))) da_nil)))) da_nil) (fun h1 h2 => pe_bm PySem.F.plainAttrs_list PySem.F.slot_list_append (by kernel_rfl) mt_append h1 h2)))
    (dss_one (ds_return (de_plus rfl (de_var (pv 6)) (de_lst (da_cons (de_tup (da_cons (de_var (pv 4)) (da_cons (de_ix rfl (de_var (pv 1)) de_int (fun _ _ => rfl)) (da_cons (de_minus (de_ix rfl (de_var (pv 1)) de_int (fun _ _ => rfl)) de_int) da_nil)))) da_nil)))))))))))))
theorem cal_law_beside (F : Fx K mg h) : Cal (vc K) Pg w mg base "_law_beside" 2 2 ph_law_beside := by
  obtain ⟨fd, FD⟩ := F.c.d.def_ 28 (d := dd_law_beside) rfl
  exact ⟨_, fd, ["pool", "due"], fn_ok FD sc_law_beside rfl rfl (fun cdv A outer s H E hr => der_law_beside F hr), (He.glo_ok F.X F.G (F.c.d.fact 73 (f := .glo "_law_beside") rfl)), FD.kp, FunD.bindsN (ps := ["pool", "due"]) FD fun _ _ _ _ _ _ us hl => match us, hl with | [_, _], _ => rfl⟩

/-! _law_below -/
abbrev s_law_below : Stmt := top 55
abbrev N_law_below : List Str := ["a", "b", "whole", "size", "one", "two", "t"]
theorem sc_law_below : FnScope N_law_below ["a", "b"] (defScope s_law_below) := ⟨rfl, rfl, rfl, by decide +kernel, rfl, by decide +kernel, by decide +kernel⟩
noncomputable def m_law_below : SemS :=
    vSeq (vAsg (vDef 2 ph_law_common (vCons (vOp oIx (vVar 0) (vC (.int 2))) (vCons (vOp oIx (vVar 1) (vC (.int 2))) (vNil)))) (tgN 2))
    (vSeq (vIfS (vTest (vOp oGt (vOp oTimes (vOp oIx (vVar 0) (vC (.int 3))) (vOp oFdiv (vVar 2) (vOp oIx (vVar 0) (vC (.int 2))))) (vOp oTimes (vOp oIx (vVar 1) (vC (.int 3))) (vOp oFdiv (vVar 2) (vOp oIx (vVar 1) (vC (.int 2))))))) (vRet (vC (.bl false))) (vNext))
    (vSeq (vAsg (vOp oPlus (vCall fMax2 (vCons (vOp oIx (vVar 0) (vC (.int 1))) (vCons (vOp oIx (vVar 1) (vC (.int 1))) (vNil)))) (vVar 2)) (tgN 3))
    (vSeq (vAsg (vDef 2 ph_law_row (vCons (vVar 0) (vCons (vVar 3) (vNil)))) (tgN 4))
    (vSeq (vAsg (vDef 2 ph_law_row (vCons (vVar 1) (vCons (vVar 3) (vNil)))) (tgN 5))
    (vRet (vOp oEq (vComp (vRange1 (vCons (vVar 3) (vNil))) (.nm 6) [6] (vTest (vOp oGt (vOp oIx (vVar 4) (vVar 6)) (vOp oIx (vVar 5) (vVar 6)))) (vVar 6)) (vLst (vNil))))))))
noncomputable def ph_law_below : FnSem := fnSem 2 7 m_law_below
theorem der_law_below (F : Fx K mg h) {f : Addr} {cdv : Value} {A : Around} {outer : List Env} {s : Shared} {H : Hp} {E : XK} (hr : Room 1 (A.deeper (envOfC "_law_below" (defScope s_law_below) s.heap.objs.size f cdv))) :
    DSs (vc K) (cxOf (L2N.CX Pg w) Pg w K mg base N_law_below "_law_below" (defScope s_law_below) f cdv A outer s H E) (fun cls d _ H => E cls d H) (defBody s_law_below) m_law_below :=
  have SC := sc_law_below
  (dss_cons (ds_set (ps_set SC.nd rfl (by first | exact Or.inl rfl | exact Or.inr rfl) (de_cal rfl (cal_law_common F) hr tkc (by decide) rfl (da_cons (de_ix rfl (de_var (pv 0)) de_int (fun _ _ => rfl)) (da_cons (de_ix rfl (de_var (pv 1)) de_int (fun _ _ => rfl)) da_nil)))))
    (dss_cons (ds_if (dt_gt (de_times (de_ix rfl (de_var (pv 0)) de_int (fun _ _ => rfl)) (de_fdiv (de_var (pv 2)) (de_ix rfl (de_var (pv 0)) de_int (fun _ _ => rfl)))) (de_times (de_ix rfl (de_var (pv 1)) de_int (fun _ _ => rfl)) (de_fdiv (de_var (pv 2)) (de_ix rfl (de_var (pv 1)) de_int (fun _ _ => rfl))))) (dss_one (ds_return de_bl)) dss_nil)
    (dss_cons (ds_set (ps_set SC.nd rfl (by first | exact Or.inl rfl | exact Or.inr rfl) (de_plus rfl (de_max2 rfl rfl (He.free_ok F.X F.G (F.c.d.fact 48 (f := .free "max") rfl)) (da_cons (de_ix rfl (de_var (pv 0)) de_int (fun _ _ => rfl)) (da_cons (de_ix rfl (de_var (pv 1)) de_int (fun _ _ => rfl)) da_nil))) (de_var (pv 2)))))
    (dss_cons (ds_set (ps_set SC.nd rfl (by first | exact Or.inl rfl | exact Or.inr rfl) (de_cal rfl (cal_law_row F) hr tkc (by decide) rfl (da_cons (de_var (pv 0)) (da_cons (de_var (pv 3)) da_nil)))))
    (dss_cons (ds_set (ps_set SC.nd rfl (by first | exact Or.inl rfl | exact Or.inr rfl) (de_cal rfl (cal_law_row F) hr tkc (by decide) rfl (da_cons (de_var (pv 1)) (da_cons (de_var (pv 3)) da_nil)))))
    (dss_one (ds_return (de_eq rfl hr (de_comp rfl (by decide) (pe_lc (own := [("t", 6)]) rfl SC.nd (di_range1 rfl (He.free_ok F.X F.G (F.c.d.fact 16 (f := .free "range") rfl)) (da_cons (de_var (pv 3)) da_nil)) (blkOk_by (by kernel_rfl)) (fun _ _ _ _ _ => pg_name SC.nd rfl (by first | exact Or.inl rfl | exact Or.inr rfl)) (fun _ _ _ _ _ => (dts_one (dt_gt (de_ix rfl (de_var (pv 4)) (de_var (pv 6)) (fun _ _ => rfl)) (de_ix rfl (de_var (pv 5)) (de_var (pv 6)) (fun _ _ => rfl))))) (fun _ _ _ _ _ => (de_var (pv 6))))) (de_lst da_nil)))))))))
theorem cal_law_below (F : Fx K mg h) : Cal (vc K) Pg w mg base "_law_below" 2 2 ph_law_below := by
  obtain ⟨fd, FD⟩ := F.c.d.def_ 29 (d := dd_law_below) rfl
  exact ⟨_, fd, ["a", "b"], fn_ok FD sc_law_below rfl rfl (fun cdv A outer s H E hr => der_law_below F hr), (He.glo_ok F.X F.G (F.c.d.fact 74 (f := .glo "_law_below") rfl)), FD.kp, FunD.bindsN (ps := ["a", "b"]) FD fun _ _ _ _ _ _ us hl => match us, hl with | [_, _], _ => rfl⟩

/-! _law_family -/
abbrev s_law_family : Stmt := top 48
abbrev N_law_family : List Str := ["one", "two", "many", "size", "row", "t", "last", "s"]
theorem sc_law_family : FnScope N_law_family ["one", "two", "many", "size"] (defScope s_law_family) := ⟨rfl, rfl, rfl, by decide +kernel, rfl, by decide +kernel, by decide +kernel⟩
noncomputable def m_law_family : SemS :=
    vSeq (vNew 4 (vLst (vNil)))
    (vSeq (vFor (vRange1 (vCons (vVar 3) (vNil))) (tgN 5) (vSeq (vAsg (vCall fMin2 (vCons (vVar 2) (vCons (vOp oPlus (vVar 5) (vC (.int 1))) (vNil)))) (tgN 6))
    (vDrop (vMt mAppend (vVar 4) (vCons (vCall fMinL (vCons (vComp (vRange1 (vCons (vVar 6) (vNil))) (.nm 7) [7] (vYes) (vOp oPlus (vOp oIx (vVar 1) (vVar 7)) (vOp oIx (vVar 0) (vOp oSub (vVar 5) (vVar 7))))) (vNil))) (vNil))))))
    (vRet (vTake 4)))
noncomputable def ph_law_family : FnSem := fnSem 4 8 m_law_family
theorem der_law_family (F : Fx K mg h) {f : Addr} {cdv : Value} {A : Around} {outer : List Env} {s : Shared} {H : Hp} {E : XK} (hr : Room 0 (A.deeper (envOfC "_law_family" (defScope s_law_family) s.heap.objs.size f cdv))) :
    DSs (vc K) (cxOf (L2N.CX Pg w) Pg w K mg base N_law_family "_law_family" (defScope s_law_family) f cdv A outer s H E) (fun cls d _ H => E cls d H) (defBody s_law_family) m_law_family :=
  have SC := sc_law_family
  (dss_cons (ds_new (ps_set SC.nd rfl (by first | exact Or.inl rfl | exact Or.inr rfl) (de_lst da_nil)))
    (dss_cons (ds_for hpc rfl (di_range1 rfl (He.free_ok F.X F.G (F.c.d.fact 16 (f := .free "range") rfl)) (da_cons (de_var (pv 3)) da_nil)) (dg_name (pg_name SC.nd rfl (by first | exact Or.inl rfl | exact Or.inr rfl))) (dss_cons (ds_set (ps_set SC.nd rfl (by first | exact Or.inl rfl | exact Or.inr rfl) (de_min2 rfl rfl (He.free_ok F.X F.G (F.c.d.fact 23 (f := .free "min") rfl)) (da_cons (de_var (pv 2)) (da_cons (de_plus rfl (de_var (pv 5)) de_int) da_nil)))))
    (dss_one (ds_expr (de_append rfl (de_var (pv 4)) (da_cons (de_minL rfl rfl rfl (He.free_ok F.X F.G (F.c.d.fact 23 (f := .free "min") rfl)) (da_cons (de_comp rfl (by decide) (pe_lc (own := [("s", 7)]) rfl SC.nd (di_range1 rfl (He.free_ok F.X F.G (F.c.d.fact 16 (f := .free "range") rfl)) (da_cons (de_var (pv 6)) da_nil)) (blkOk_by (by kernel_rfl)) (fun _ _ _ _ _ => pg_name SC.nd rfl (by first | exact Or.inl rfl | exact Or.inr rfl)) (fun _ _ _ _ _ => dts_nil) (fun _ _ _ _ _ => (de_plus rfl (de_ix rfl (de_var (pv 1)) (de_var (pv 7)) (fun _ _ => rfl)) (de_ix rfl (de_var (pv 0)) (de_minus (de_var (pv 5)) (de_var (pv 7))) (fun _ _ => rfl)))))) da_nil)) da_nil) (fun h1 h2 => pe_bm PySem.F.plainAttrs_list PySem.F.slot_list_append (by kernel_rfl) mt_append h1 h2))))))
    (dss_one (ds_return (de_take (pv 4))))))
theorem cal_law_family (F : Fx K mg h) : Cal (vc K) Pg w mg base "_law_family" 1 4 ph_law_family := by
  obtain ⟨fd, FD⟩ := F.c.d.def_ 30 (d := dd_law_family) rfl
  exact ⟨_, fd, ["one", "two", "many", "size"], fn_ok FD sc_law_family rfl rfl (fun cdv A outer s H E hr => der_law_family F hr), (He.glo_ok F.X F.G (F.c.d.fact 75 (f := .glo "_law_family") rfl)), FD.kp, FunD.bindsN (ps := ["one", "two", "many", "size"]) FD fun _ _ _ _ _ _ us hl => match us, hl with | [_, _, _, _], _ => rfl⟩

/-! _law_limit -/
abbrev s_law_limit : Stmt := top 46
abbrev N_law_limit : List Str := ["due"]
theorem sc_law_limit : FnScope N_law_limit ["due"] (defScope s_law_limit) := ⟨rfl, rfl, rfl, by decide +kernel, rfl, by decide +kernel, by decide +kernel⟩
noncomputable def m_law_limit : SemS :=
    vSeq (vIfS (vTest (vOp oGt (vOp oPlus (vOp oIx (vVar 0) (vC (.int 1))) (vOp oIx (vVar 0) (vC (.int 2)))) (vC (.int 400)))) (vRet (vTup (vCons (vC (.str "long")) (vCons (vOp oPlus (vOp oIx (vVar 0) (vC (.int 1))) (vOp oIx (vVar 0) (vC (.int 2)))) (vNil))))) (vNext))
    (vRet (vVar 0))
noncomputable def ph_law_limit : FnSem := fnSem 1 1 m_law_limit
theorem der_law_limit (F : Fx K mg h) {f : Addr} {cdv : Value} {A : Around} {outer : List Env} {s : Shared} {H : Hp} {E : XK} (hr : Room 0 (A.deeper (envOfC "_law_limit" (defScope s_law_limit) s.heap.objs.size f cdv))) :
    DSs (vc K) (cxOf (L2N.CX Pg w) Pg w K mg base N_law_limit "_law_limit" (defScope s_law_limit) f cdv A outer s H E) (fun cls d _ H => E cls d H) (defBody s_law_limit) m_law_limit :=
  have SC := sc_law_limit
  (dss_cons (ds_if (dt_gt (de_plus rfl (de_ix rfl (de_var (pv 0)) de_int (fun _ _ => rfl)) (de_ix rfl (de_var (pv 0)) de_int (fun _ _ => rfl))) de_int) (dss_one (ds_return (de_tup (da_cons de_str (da_cons (de_plus rfl (de_ix rfl (de_var (pv 0)) de_int (fun _ _ => rfl)) (de_ix rfl (de_var (pv 0)) de_int (fun _ _ => rfl))) da_nil))))) dss_nil)
    (dss_one (ds_return (de_var (pv 0)))))
theorem cal_law_limit (F : Fx K mg h) : Cal (vc K) Pg w mg base "_law_limit" 1 1 ph_law_limit := by
  obtain ⟨fd, FD⟩ := F.c.d.def_ 31 (d := dd_law_limit) rfl
  exact ⟨_, fd, ["due"], fn_ok FD sc_law_limit rfl rfl (fun cdv A outer s H E hr => der_law_limit F hr), (He.glo_ok F.X F.G (F.c.d.fact 76 (f := .glo "_law_limit") rfl)), FD.kp, FunD.bindsN (ps := ["due"]) FD fun _ _ _ _ _ _ us hl => match us, hl with | [_], _ => rfl⟩

/-! _law_met -/
abbrev s_law_met : Stmt := top 50
abbrev N_law_met : List Str := ["a", "b", "whole", "gain", "start", "size", "one", "two", "slow", "fast", "row", "t", "z", "last", "head"]
theorem sc_law_met : FnScope N_law_met ["a", "b", "whole", "gain"] (defScope s_law_met) := ⟨rfl, rfl, rfl, by decide +kernel, rfl, by decide +kernel, by decide +kernel⟩
noncomputable def m_law_met : SemS :=
    vSeq (vAsg (vOp oPlus (vOp oPlus (vOp oIx (vVar 0) (vC (.int 1))) (vOp oIx (vVar 1) (vC (.int 1)))) (vVar 2)) (tgN 4))
    (vSeq (vAsg (vOp oPlus (vVar 4) (vOp oTimes (vC (.int 2)) (vVar 2))) (tgN 5))
    (vSeq (vAsg (vDef 2 ph_law_row (vCons (vVar 0) (vCons (vVar 5) (vNil)))) (tgN 6))
    (vSeq (vAsg (vDef 2 ph_law_row (vCons (vVar 1) (vCons (vVar 5) (vNil)))) (tgN 7))
    (vSeq (vNew 8 (vDef 4 ph_law_family (vCons (vVar 6) (vCons (vVar 7) (vCons (vOp oPlus (vOp oIx (vVar 1) (vC (.int 1))) (vVar 2)) (vCons (vVar 5) (vNil)))))))
    (vSeq (vIfS (vTest (vOp oEq (vOp oIx (vVar 0) (vC (.int 1))) (vC (.int 0)))) (vRet (vDef 1 ph_law_limit (vCons (vDef 3 ph_law_whole (vCons (vVar 8) (vCons (vVar 4) (vCons (vOp oIx (vVar 0) (vC (.int 2))) (vNil))))) (vNil)))) (vNext))
    (vSeq (vNew 9 (vDef 4 ph_law_family (vCons (vVar 7) (vCons (vVar 6) (vCons (vOp oIx (vVar 0) (vC (.int 1))) (vCons (vVar 5) (vNil)))))))
    (vSeq (vIfS (vTest (vOp oEq (vVar 3) (vC (.int 0)))) (vSeq (vAsg (vComp (vRange1 (vCons (vVar 5) (vNil))) (.nm 11) [11] (vYes) (vCall fMin2 (vCons (vOp oIx (vVar 8) (vVar 11)) (vCons (vOp oIx (vVar 9) (vVar 11)) (vNil))))) (tgN 10))
    (vRet (vDef 1 ph_law_limit (vCons (vDef 3 ph_law_whole (vCons (vVar 10) (vCons (vVar 4) (vCons (vVar 2) (vNil))))) (vNil))))) (vNext))
    (vSeq (vAsg (vNeg (vC (.int 1))) (tgN 12))
    (vSeq (vFor (vRange2 (vCons (vVar 4) (vCons (vOp oPlus (vVar 4) (vVar 2)) (vNil)))) (tgN 11) (vIfS (vTest (vOp oLt (vOp oIx (vVar 9) (vVar 11)) (vOp oIx (vVar 8) (vVar 11)))) (vAsg (vCall fMax2 (vCons (vVar 12) (vCons (vOp oPlus (vVar 11) (vOp oTimes (vOp oFdiv (vOp oSub (vOp oSub (vOp oIx (vVar 8) (vVar 11)) (vOp oIx (vVar 9) (vVar 11))) (vC (.int 1))) (vVar 3)) (vVar 2))) (vNil)))) (tgN 12)) (vNext)))
    (vSeq (vAsg (vDef 3 ph_law_whole (vCons (vVar 8) (vCons (vVar 4) (vCons (vOp oIx (vVar 0) (vC (.int 2))) (vNil))))) (tgN 13))
    (vSeq (vIfS (vTest (vOp oGt (vOp oPlus (vOp oPlus (vVar 12) (vC (.int 1))) (vOp oIx (vVar 13) (vC (.int 2)))) (vC (.int 400)))) (vRet (vTup (vCons (vC (.str "long")) (vCons (vOp oPlus (vOp oPlus (vVar 12) (vC (.int 1))) (vOp oIx (vVar 13) (vC (.int 2)))) (vNil))))) (vNext))
    (vSeq (vAsg (vCall fMax2 (vCons (vOp oPlus (vVar 12) (vC (.int 1))) (vCons (vVar 4) (vNil)))) (tgN 14))
    (vSeq (vFor (vRange2 (vCons (vVar 5) (vCons (vOp oPlus (vVar 14) (vOp oTimes (vC (.int 2)) (vOp oIx (vVar 0) (vC (.int 2))))) (vNil)))) (tgN 11) (vSeq (vDrop (vMt mAppend (vVar 8) (vCons (vOp oPlus (vOp oIx (vVar 8) (vOp oSub (vVar 11) (vOp oIx (vVar 0) (vC (.int 2))))) (vOp oIx (vVar 0) (vC (.int 3)))) (vNil))))
    (vDrop (vMt mAppend (vVar 9) (vCons (vOp oPlus (vOp oIx (vVar 9) (vOp oSub (vVar 11) (vOp oIx (vVar 1) (vC (.int 2))))) (vOp oIx (vVar 1) (vC (.int 3)))) (vNil))))))
    (vSeq (vAsg (vComp (vRange1 (vCons (vOp oPlus (vVar 14) (vOp oTimes (vC (.int 2)) (vOp oIx (vVar 0) (vC (.int 2))))) (vNil))) (.nm 11) [11] (vYes) (vCall fMin2 (vCons (vOp oIx (vVar 8) (vVar 11)) (vCons (vOp oIx (vVar 9) (vVar 11)) (vNil))))) (tgN 10))
    (vRet (vDef 1 ph_law_limit (vCons (vDef 3 ph_law_whole (vCons (vVar 10) (vCons (vVar 14) (vCons (vOp oIx (vVar 0) (vC (.int 2))) (vNil))))) (vNil))))))))))))))))))
noncomputable def ph_law_met : FnSem := fnSem 4 15 m_law_met
theorem der_law_met (F : Fx K mg h) {f : Addr} {cdv : Value} {A : Around} {outer : List Env} {s : Shared} {H : Hp} {E : XK} (hr : Room 2 (A.deeper (envOfC "_law_met" (defScope s_law_met) s.heap.objs.size f cdv))) :
    DSs (vc K) (cxOf (L2N.CX Pg w) Pg w K mg base N_law_met "_law_met" (defScope s_law_met) f cdv A outer s H E) (fun cls d _ H => E cls d H) (defBody s_law_met) m_law_met :=
  have SC := sc_law_met
  (dss_cons (ds_set (ps_set SC.nd rfl (by first | exact Or.inl rfl | exact Or.inr rfl) (de_plus rfl (de_plus rfl (de_ix rfl (de_var (pv 0)) de_int (fun _ _ => rfl)) (de_ix rfl (de_var (pv 1)) de_int (fun _ _ => rfl))) (de_var (pv 2)))))
    (dss_cons (ds_set (ps_set SC.nd rfl (by first | exact Or.inl rfl | exact Or.inr rfl) (de_plus rfl (de_var (pv 4)) (de_times de_int (de_var (pv 2))))))
    (dss_cons (ds_set (ps_set SC.nd rfl (by first | exact Or.inl rfl | exact Or.inr rfl) (de_cal rfl (cal_law_row F) hr tkc (by decide) rfl (da_cons (de_var (pv 0)) (da_cons (de_var (pv 5)) da_nil)))))
    (dss_cons (ds_set (ps_set SC.nd rfl (by first | exact Or.inl rfl | exact Or.inr rfl) (de_cal rfl (cal_law_row F) hr tkc (by decide) rfl (da_cons (de_var (pv 1)) (da_cons (de_var (pv 5)) da_nil)))))
    (dss_cons (ds_new (ps_set SC.nd rfl (by first | exact Or.inl rfl | exact Or.inr rfl) (de_cal rfl (cal_law_family F) hr tkc (by decide) rfl (da_cons (de_var (pv 6)) (da_cons (de_var (pv 7)) (da_cons (de_plus rfl (de_ix rfl (de_var (pv 1)) de_int (fun _ _ => rfl)) (de_var (pv 2))) (da_cons (de_var (pv 5)) da_nil)))))))
    (dss_cons (ds_if (dt_eq rfl hr (de_ix rfl (de_var (pv 0)) de_int (fun _ _ => rfl)) de_int) (dss_one (ds_return (de_cal rfl (cal_law_limit F) hr tkc (by decide) rfl (da_cons (de_cal rfl (cal_law_whole F) hr tkc (by decide) rfl (da_cons (de_var (pv 8)) (da_cons (de_var (pv 4)) (da_cons (de_ix rfl (de_var (pv 0)) de_int (fun _ _ => rfl)) da_nil)))) da_nil)))) dss_nil)
    (dss_cons (ds_new (ps_set SC.nd rfl (by first | exact Or.inl rfl | exact Or.inr rfl) (de_cal rfl (cal_law_family F) hr tkc (by decide) rfl (da_cons (de_var (pv 7)) (da_cons (de_var (pv 6)) (da_cons (de_ix rfl (de_var (pv 0)) de_int (fun _ _ => rfl)) (da_cons (de_var (pv 5)) da_nil)))))))
    (dss_cons (ds_if (dt_eq rfl hr (de_var (pv 3)) de_int) (dss_cons (ds_set (ds_setComp rfl (by decide) (ps_setLc (own := [("t", 11)]) rfl SC.nd rfl rfl rfl (di_range1 rfl (He.free_ok F.X F.G (F.c.d.fact 16 (f := .free "range") rfl)) (da_cons (de_var (pv 5)) da_nil)) (blkOk_by (by kernel_rfl)) (fun _ _ _ _ _ => pg_name SC.nd rfl (by first | exact Or.inl rfl | exact Or.inr rfl)) (fun _ _ _ _ _ => dts_nil) (fun _ _ _ _ _ => (de_min2 rfl rfl (He.free_ok F.X F.G (F.c.d.fact 23 (f := .free "min") rfl)) (da_cons (de_ix rfl (de_var (pv 8)) (de_var (pv 11)) (fun _ _ => rfl)) (da_cons (de_ix rfl (de_var (pv 9)) (de_var (pv 11)) (fun _ _ => rfl)) da_nil)))))))
    (dss_one (ds_return (de_cal rfl (cal_law_limit F) hr tkc (by decide) rfl (da_cons (de_cal rfl (cal_law_whole F) hr tkc (by decide) rfl (da_cons (de_var (pv 10)) (da_cons (de_var (pv 4)) (da_cons (de_var (pv 2)) da_nil)))) da_nil))))) dss_nil)
    (dss_cons (ds_set (ps_set SC.nd rfl (by first | exact Or.inl rfl | exact Or.inr rfl) (de_neg de_int)))
    (dss_cons (ds_for hpc rfl (di_range2 rfl (He.free_ok F.X F.G (F.c.d.fact 16 (f := .free "range") rfl)) (da_cons (de_var (pv 4)) (da_cons (de_plus rfl (de_var (pv 4)) (de_var (pv 2))) da_nil)) (fun h => pi_range2 rfl (He.free_ok F.X F.G (F.c.d.fact 16 (f := .free "range") rfl)) h)) (dg_name (pg_name SC.nd rfl (by first | exact Or.inl rfl | exact Or.inr rfl))) (dss_one (ds_if (dt_lt (de_ix rfl (de_var (pv 9)) (de_var (pv 11)) (fun _ _ => rfl)) (de_ix rfl (de_var (pv 8)) (de_var (pv 11)) (fun _ _ => rfl))) (dss_one (ds_set (ps_set SC.nd rfl (by first | exact Or.inl rfl | exact Or.inr rfl) (de_max2 rfl rfl (He.free_ok F.X F.G (F.c.d.fact 48 (f := .free "max") rfl)) (da_cons (de_var (pv 12)) (da_cons (de_plus rfl (de_var (pv 11)) (de_times (de_fdiv (de_minus (de_minus (de_ix rfl (de_var (pv 8)) (de_var (pv 11)) (fun _ _ => rfl)) (de_ix rfl (de_var (pv 9)) (de_var (pv 11)) (fun _ _ => rfl))) de_int) (de_var (pv 3))) (de_var (pv 2)))) da_nil)))))) dss_nil)))
    (dss_cons (ds_set (ps_set SC.nd rfl (by first | exact Or.inl rfl | exact Or.inr rfl) (de_cal rfl (cal_law_whole F) hr tkc (by decide) rfl (da_cons (de_var (pv 8)) (da_cons (de_var (pv 4)) (da_cons (de_ix rfl (de_var (pv 0)) de_int (fun _ _ => rfl)) da_nil))))))
    (dss_cons (ds_if (dt_gt (de_plus rfl (de_plus rfl (de_var (pv 12)) de_int) (de_ix rfl (de_var (pv 13)) de_int (fun _ _ => rfl))) de_int) (dss_one (ds_return (de_tup (da_cons de_str (da_cons (de_plus rfl (de_plus rfl (de_var (pv 12)) de_int) (de_ix rfl (de_var (pv 13)) de_int (fun _ _ => rfl))) da_nil))))) dss_nil)
    (dss_cons (ds_set (ps_set SC.nd rfl (by first | exact Or.inl rfl | exact Or.inr rfl) (de_max2 rfl rfl (He.free_ok F.X F.G (F.c.d.fact 48 (f := .free "max") rfl)) (da_cons (de_plus rfl (de_var (pv 12)) de_int) (da_cons (de_var (pv 4)) da_nil)))))
    (dss_cons (ds_for hpc rfl (di_range2 rfl (He.free_ok F.X F.G (F.c.d.fact 16 (f := .free "range") rfl)) (da_cons (de_var (pv 5)) (da_cons (de_plus rfl (de_var (pv 14)) (de_times de_int (de_ix rfl (de_var (pv 0)) de_int (fun _ _ => rfl)))) da_nil)) (fun h => pi_range2 rfl (He.free_ok F.X F.G (F.c.d.fact 16 (f := .free "range") rfl)) h)) (dg_name (pg_name SC.nd rfl (by first | exact Or.inl rfl | exact Or.inr rfl))) (dss_cons (ds_expr (de_append rfl (de_var (pv 8)) (da_cons (de_plus rfl (de_ix rfl (de_var (pv 8)) (de_minus (de_var (pv 11)) (de_ix rfl (de_var (pv 0)) de_int (fun _ _ => rfl))) (fun _ _ => rfl)) (de_ix rfl (de_var (pv 0)) de_int (fun _ _ => rfl))) da_nil) (fun h1 h2 => pe_bm PySem.F.plainAttrs_list PySem.F.slot_list_append (by kernel_rfl) mt_append h1 h2)))
    (dss_one (ds_expr (de_append rfl (de_var (pv 9)) (da_cons (de_plus rfl (de_ix rfl (de_var (pv 9)) (de_minus (de_var (pv 11)) (de_ix rfl (de_var (pv 1)) de_int (fun _ _ => rfl))) (fun _ _ => rfl)) (de_ix rfl (de_var (pv 1)) de_int (fun _ _ => rfl))) da_nil) (fun h1 h2 => pe_bm PySem.F.plainAttrs_list PySem.F.slot_list_append (by kernel_rfl) mt_append h1 h2))))))
    (dss_cons (ds_set (ds_setComp rfl (by decide) (ps_setLc (own := [("t", 11)]) rfl SC.nd rfl rfl rfl (di_range1 rfl (He.free_ok F.X F.G (F.c.d.fact 16 (f := .free "range") rfl)) (da_cons (de_plus rfl (de_var (pv 14)) (de_times de_int (de_ix rfl (de_var (pv 0)) de_int (fun _ _ => rfl)))) da_nil)) (blkOk_by (by kernel_rfl)) (fun _ _ _ _ _ => pg_name SC.nd rfl (by first | exact Or.inl rfl | exact Or.inr rfl)) (fun _ _ _ _ _ => dts_nil) (fun _ _ _ _ _ => (de_min2 rfl rfl (He.free_ok F.X F.G (F.c.d.fact 23 (f := .free "min") rfl)) (da_cons (de_ix rfl (de_var (pv 8)) (de_var (pv 11)) (fun _ _ => rfl)) (da_cons (de_ix rfl (de_var (pv 9)) (de_var (pv 11)) (fun _ _ => rfl)) da_nil)))))))
    (dss_one (ds_return (de_cal rfl (cal_law_limit F) hr tkc (by decide) rfl (da_cons (de_cal rfl (cal_law_whole F) hr tkc (by decide) rfl (da_cons (de_var (pv 10)) (da_cons (de_var (pv 14)) (da_cons (de_ix rfl (de_var (pv 0)) de_int (fun _ _ => rfl)) da_nil)))) da_nil)))))))))))))))))))
theorem cal_law_met (F : Fx K mg h) : Cal (vc K) Pg w mg base "_law_met" 3 4 ph_law_met := by
  obtain ⟨fd, FD⟩ := F.c.d.def_ 32 (d := dd_law_met) rfl
  exact ⟨_, fd, ["a", "b", "whole", "gain"], fn_ok FD sc_law_met rfl rfl (fun cdv A outer s H E hr => der_law_met F hr), (He.glo_ok F.X F.G (F.c.d.fact 77 (f := .glo "_law_met") rfl)), FD.kp, FunD.bindsN (ps := ["a", "b", "whole", "gain"]) FD fun _ _ _ _ _ _ us hl => match us, hl with | [_, _, _, _], _ => rfl⟩

/-! _law_folded -/
abbrev s_law_folded : Stmt := top 49
abbrev N_law_folded : List Str := ["a", "b", "whole", "gain"]
theorem sc_law_folded : FnScope N_law_folded ["a", "b"] (defScope s_law_folded) := ⟨rfl, rfl, rfl, by decide +kernel, rfl, by decide +kernel, by decide +kernel⟩
noncomputable def m_law_folded : SemS :=
    vSeq (vAsg (vDef 2 ph_law_common (vCons (vOp oIx (vVar 0) (vC (.int 2))) (vCons (vOp oIx (vVar 1) (vC (.int 2))) (vNil)))) (tgN 2))
    (vSeq (vIfS (vTest (vOp oGt (vVar 2) (vC (.int 400)))) (vRet (vTup (vCons (vC (.str "long")) (vCons (vVar 2) (vNil))))) (vNext))
    (vSeq (vAsg (vOp oSub (vOp oTimes (vOp oIx (vVar 1) (vC (.int 3))) (vOp oFdiv (vVar 2) (vOp oIx (vVar 1) (vC (.int 2))))) (vOp oTimes (vOp oIx (vVar 0) (vC (.int 3))) (vOp oFdiv (vVar 2) (vOp oIx (vVar 0) (vC (.int 2)))))) (tgN 3))
    (vSeq (vIfS (vTest (vOp oLt (vVar 3) (vC (.int 0)))) (vRet (vDef 4 ph_law_met (vCons (vVar 1) (vCons (vVar 0) (vCons (vVar 2) (vCons (vNeg (vVar 3)) (vNil))))))) (vNext))
    (vRet (vDef 4 ph_law_met (vCons (vVar 0) (vCons (vVar 1) (vCons (vVar 2) (vCons (vVar 3) (vNil))))))))))
noncomputable def ph_law_folded : FnSem := fnSem 2 4 m_law_folded
theorem der_law_folded (F : Fx K mg h) {f : Addr} {cdv : Value} {A : Around} {outer : List Env} {s : Shared} {H : Hp} {E : XK} (hr : Room 3 (A.deeper (envOfC "_law_folded" (defScope s_law_folded) s.heap.objs.size f cdv))) :
    DSs (vc K) (cxOf (L2N.CX Pg w) Pg w K mg base N_law_folded "_law_folded" (defScope s_law_folded) f cdv A outer s H E) (fun cls d _ H => E cls d H) (defBody s_law_folded) m_law_folded :=
  have SC := sc_law_folded
  (dss_cons (ds_set (ps_set SC.nd rfl (by first | exact Or.inl rfl | exact Or.inr rfl) (de_cal rfl (cal_law_common F) hr tkc (by decide) rfl (da_cons (de_ix rfl (de_var (pv 0)) de_int (fun _ _ => rfl)) (da_cons (de_ix rfl (de_var (pv 1)) de_int (fun _ _ => rfl)) da_nil)))))
    (dss_cons (ds_if (dt_gt (de_var (pv 2)) de_int) (dss_one (ds_return (de_tup (da_cons de_str (da_cons (de_var (pv 2)) da_nil))))) dss_nil)
    (dss_cons (ds_set (ps_set SC.nd rfl (by first | exact Or.inl rfl | exact Or.inr rfl) (de_minus (de_times (de_ix rfl (de_var (pv 1)) de_int (fun _ _ => rfl)) (de_fdiv (de_var (pv 2)) (de_ix rfl (de_var (pv 1)) de_int (fun _ _ => rfl)))) (de_times (de_ix rfl (de_var (pv 0)) de_int (fun _ _ => rfl)) (de_fdiv (de_var (pv 2)) (de_ix rfl (de_var (pv 0)) de_int (fun _ _ => rfl)))))))
    (dss_cons (ds_if (dt_lt (de_var (pv 3)) de_int) (dss_one (ds_return (de_cal rfl (cal_law_met F) hr tkc (by decide) rfl (da_cons (de_var (pv 1)) (da_cons (de_var (pv 0)) (da_cons (de_var (pv 2)) (da_cons (de_neg (de_var (pv 3))) da_nil))))))) dss_nil)
    (dss_one (ds_return (de_cal rfl (cal_law_met F) hr tkc (by decide) rfl (da_cons (de_var (pv 0)) (da_cons (de_var (pv 1)) (da_cons (de_var (pv 2)) (da_cons (de_var (pv 3)) da_nil)))))))))))
theorem cal_law_folded (F : Fx K mg h) : Cal (vc K) Pg w mg base "_law_folded" 4 2 ph_law_folded := by
  obtain ⟨fd, FD⟩ := F.c.d.def_ 33 (d := dd_law_folded) rfl
  exact ⟨_, fd, ["a", "b"], fn_ok FD sc_law_folded rfl rfl (fun cdv A outer s H E hr => der_law_folded F hr), (He.glo_ok F.X F.G (F.c.d.fact 78 (f := .glo "_law_folded") rfl)), FD.kp, FunD.bindsN (ps := ["a", "b"]) FD fun _ _ _ _ _ _ us hl => match us, hl with | [_, _], _ => rfl⟩

/-! first_above -/
abbrev s_first_above : Stmt := top 27
abbrev N_first_above : List Str := ["a", "b", "period", "head", "high", "low", "tick", "gain", "ticks"]
theorem sc_first_above : FnScope N_first_above ["a", "b"] (defScope s_first_above) := ⟨rfl, rfl, rfl, by decide +kernel, rfl, by decide +kernel, by decide +kernel⟩
noncomputable def m_first_above : SemS :=
    vSeq (vAsg (vDef 2 ph_common_period (vCons (vVar 0) (vCons (vVar 1) (vNil)))) (tgN 2))
    (vSeq (vAsg (vCall fMax2 (vCons (vFld [5] 8 (vVar 0)) (vCons (vFld [5] 8 (vVar 1)) (vNil)))) (tgN 3))
    (vSeq (vAsg (vDef 2 ph_first_numbers (vCons (vVar 0) (vCons (vOp oPlus (vVar 3) (vVar 2)) (vNil)))) (tgN 4))
    (vSeq (vAsg (vDef 2 ph_first_numbers (vCons (vVar 1) (vCons (vOp oPlus (vVar 3) (vVar 2)) (vNil)))) (tgN 5))
    (vSeq (vFor (vRange1 (vCons (vOp oPlus (vVar 3) (vVar 2)) (vNil))) (tgN 6) (vIfS (vTest (vOp oGt (vOp oIx (vVar 4) (vVar 6)) (vOp oIx (vVar 5) (vVar 6)))) (vRet (vVar 6)) (vNext)))
    (vSeq (vAsg (vOp oSub (vDef 2 ph_gain_in (vCons (vVar 0) (vCons (vVar 2) (vNil)))) (vDef 2 ph_gain_in (vCons (vVar 1) (vCons (vVar 2) (vNil))))) (tgN 7))
    (vSeq (vIfS (vTest (vOp oLe (vVar 7) (vC (.int 0)))) (vRet (vC .non)) (vNext))
    (vSeq (vAsg (vCall fRng (vCons (vVar 3) (vCons (vOp oPlus (vVar 3) (vVar 2)) (vNil)))) (tgN 8))
    (vRet (vCall fMinL (vCons (vComp (vSrcR (vVar 8)) (.nm 6) [6] (vYes) (vOp oPlus (vVar 6) (vOp oTimes (vOp oPlus (vOp oFdiv (vOp oSub (vOp oIx (vVar 5) (vVar 6)) (vOp oIx (vVar 4) (vVar 6))) (vVar 7)) (vC (.int 1))) (vVar 2)))) (vNil)))))))))))
noncomputable def ph_first_above : FnSem := fnSem 2 9 m_first_above
theorem der_first_above (F : Fx K mg h) {f : Addr} {cdv : Value} {A : Around} {outer : List Env} {s : Shared} {H : Hp} {E : XK} (hr : Room 3 (A.deeper (envOfC "first_above" (defScope s_first_above) s.heap.objs.size f cdv))) :
    DSs (vc K) (cxOf (L2N.CX Pg w) Pg w K mg base N_first_above "first_above" (defScope s_first_above) f cdv A outer s H E) (fun cls d _ H => E cls d H) (defBody s_first_above) m_first_above :=
  have SC := sc_first_above
  (dss_cons (ds_set (ps_set SC.nd rfl (by first | exact Or.inl rfl | exact Or.inr rfl) (de_cal rfl (cal_common_period F) hr tkc (by decide) rfl (da_cons (de_var (pv 0)) (da_cons (de_var (pv 1)) da_nil)))))
    (dss_cons (ds_set (ps_set SC.nd rfl (by first | exact Or.inl rfl | exact Or.inr rfl) (de_max2 rfl rfl (He.free_ok F.X F.G (F.c.d.fact 48 (f := .free "max") rfl)) (da_cons (de_fld (f := 8) rfl rfl (all_cons ⟨(He.cls_ok (F.c.d.fact 12 (f := .cls "Curve") rfl)), (He.noat_ok (F.c.d.fact 32 (f := .noat "Curve" "head") rfl)), ltN (by decide)⟩ all_nil) (de_var (pv 0)) rfl) (da_cons (de_fld (f := 8) rfl rfl (all_cons ⟨(He.cls_ok (F.c.d.fact 12 (f := .cls "Curve") rfl)), (He.noat_ok (F.c.d.fact 32 (f := .noat "Curve" "head") rfl)), ltN (by decide)⟩ all_nil) (de_var (pv 1)) rfl) da_nil)))))
    (dss_cons (ds_set (ps_set SC.nd rfl (by first | exact Or.inl rfl | exact Or.inr rfl) (de_cal rfl (cal_first_numbers F) hr tkc (by decide) rfl (da_cons (de_var (pv 0)) (da_cons (de_plus rfl (de_var (pv 3)) (de_var (pv 2))) da_nil)))))
    (dss_cons (ds_set (ps_set SC.nd rfl (by first | exact Or.inl rfl | exact Or.inr rfl) (de_cal rfl (cal_first_numbers F) hr tkc (by decide) rfl (da_cons (de_var (pv 1)) (da_cons (de_plus rfl (de_var (pv 3)) (de_var (pv 2))) da_nil)))))
    (dss_cons (ds_for hpc rfl (di_range1 rfl (He.free_ok F.X F.G (F.c.d.fact 16 (f := .free "range") rfl)) (da_cons (de_plus rfl (de_var (pv 3)) (de_var (pv 2))) da_nil)) (dg_name (pg_name SC.nd rfl (by first | exact Or.inl rfl | exact Or.inr rfl))) (dss_one (ds_if (dt_gt (de_ix rfl (de_var (pv 4)) (de_var (pv 6)) (fun _ _ => rfl)) (de_ix rfl (de_var (pv 5)) (de_var (pv 6)) (fun _ _ => rfl))) (dss_one (ds_return (de_var (pv 6)))) dss_nil)))
    (dss_cons (ds_set (ps_set SC.nd rfl (by first | exact Or.inl rfl | exact Or.inr rfl) (de_minus (de_cal rfl (cal_gain_in F) hr tkc (by decide) rfl (da_cons (de_var (pv 0)) (da_cons (de_var (pv 2)) da_nil))) (de_cal rfl (cal_gain_in F) hr tkc (by decide) rfl (da_cons (de_var (pv 1)) (da_cons (de_var (pv 2)) da_nil))))))
    (dss_cons (ds_if (dt_le (de_var (pv 7)) de_int) (dss_one (ds_return de_non)) dss_nil)
    (dss_cons (ds_set (ps_set SC.nd rfl (by first | exact Or.inl rfl | exact Or.inr rfl) (de_rng rfl (He.free_ok F.X F.G (F.c.d.fact 16 (f := .free "range") rfl)) (da_cons (de_var (pv 3)) (da_cons (de_plus rfl (de_var (pv 3)) (de_var (pv 2))) da_nil)))))
    (dss_one (ds_return (de_minL rfl rfl rfl (He.free_ok F.X F.G (F.c.d.fact 23 (f := .free "min") rfl)) (da_cons (de_comp rfl (by decide) (pe_lc (own := [("tick", 6)]) rfl SC.nd (di_rng (de_var (pv 8))) (blkOk_by (by kernel_rfl)) (fun _ _ _ _ _ => pg_name SC.nd rfl (by first | exact Or.inl rfl | exact Or.inr rfl)) (fun _ _ _ _ _ => dts_nil) (fun _ _ _ _ _ => (de_plus rfl (de_var (pv 6)) (de_times (de_plus rfl (de_fdiv (de_minus (de_ix rfl (de_var (pv 5)) (de_var (pv 6)) (fun _ _ => rfl)) (de_ix rfl (de_var (pv 4)) (de_var (pv 6)) (fun _ _ => rfl))) (de_var (pv 7))) de_int) (de_var (pv 2))))))) da_nil))))))))))))
theorem cal_first_above (F : Fx K mg h) : Cal (vc K) Pg w mg base "first_above" 4 2 ph_first_above := by
  obtain ⟨fd, FD⟩ := F.c.d.def_ 34 (d := dd_first_above) rfl
  exact ⟨_, fd, ["a", "b"], fn_ok FD sc_first_above rfl rfl (fun cdv A outer s H E hr => der_first_above F hr), (He.glo_ok F.X F.G (F.c.d.fact 79 (f := .glo "first_above") rfl)), FD.kp, FunD.bindsN (ps := ["a", "b"]) FD fun _ _ _ _ _ _ us hl => match us, hl with | [_, _], _ => rfl⟩

/-! nowhere_above -/
abbrev s_nowhere_above : Stmt := top 28
abbrev N_nowhere_above : List Str := ["a", "b"]
theorem sc_nowhere_above : FnScope N_nowhere_above ["a", "b"] (defScope s_nowhere_above) := ⟨rfl, rfl, rfl, by decide +kernel, rfl, by decide +kernel, by decide +kernel⟩
noncomputable def m_nowhere_above : SemS :=
    vRet (vIsN (vDef 2 ph_first_above (vCons (vVar 0) (vCons (vVar 1) (vNil)))))
noncomputable def ph_nowhere_above : FnSem := fnSem 2 2 m_nowhere_above
theorem der_nowhere_above (F : Fx K mg h) {f : Addr} {cdv : Value} {A : Around} {outer : List Env} {s : Shared} {H : Hp} {E : XK} (hr : Room 4 (A.deeper (envOfC "nowhere_above" (defScope s_nowhere_above) s.heap.objs.size f cdv))) :
    DSs (vc K) (cxOf (L2N.CX Pg w) Pg w K mg base N_nowhere_above "nowhere_above" (defScope s_nowhere_above) f cdv A outer s H E) (fun cls d _ H => E cls d H) (defBody s_nowhere_above) m_nowhere_above :=
  have SC := sc_nowhere_above
  (dss_one (ds_return (de_isN (de_cal rfl (cal_first_above F) hr tkc (by decide) rfl (da_cons (de_var (pv 0)) (da_cons (de_var (pv 1)) da_nil))))))
theorem cal_nowhere_above (F : Fx K mg h) : Cal (vc K) Pg w mg base "nowhere_above" 5 2 ph_nowhere_above := by
  obtain ⟨fd, FD⟩ := F.c.d.def_ 35 (d := dd_nowhere_above) rfl
  exact ⟨_, fd, ["a", "b"], fn_ok FD sc_nowhere_above rfl rfl (fun cdv A outer s H E hr => der_nowhere_above F hr), (He.glo_ok F.X F.G (F.c.d.fact 80 (f := .glo "nowhere_above") rfl)), FD.kp, FunD.bindsN (ps := ["a", "b"]) FD fun _ _ _ _ _ _ us hl => match us, hl with | [_, _], _ => rfl⟩

/-! _law_said -/
abbrev s_law_said : Stmt := top 54
abbrev N_law_said : List Str := ["one", "two", "yes", "told"]
theorem sc_law_said : FnScope N_law_said ["one", "two", "yes"] (defScope s_law_said) := ⟨rfl, rfl, rfl, by decide +kernel, rfl, by decide +kernel, by decide +kernel⟩
noncomputable def m_law_said : SemS :=
    vSeq (vAsg (vDef 2 ph_nowhere_above (vCons (vVar 0) (vCons (vVar 1) (vNil)))) (tgN 3))
    (vRet (vAndV (v1 (fIsTy "bool") (vVar 3)) (vOp oEq (vVar 3) (vVar 2))))
noncomputable def ph_law_said : FnSem := fnSem 3 4 m_law_said
theorem der_law_said (F : Fx K mg h) {f : Addr} {cdv : Value} {A : Around} {outer : List Env} {s : Shared} {H : Hp} {E : XK} (hr : Room 5 (A.deeper (envOfC "_law_said" (defScope s_law_said) s.heap.objs.size f cdv))) :
    DSs (vc K) (cxOf (L2N.CX Pg w) Pg w K mg base N_law_said "_law_said" (defScope s_law_said) f cdv A outer s H E) (fun cls d _ H => E cls d H) (defBody s_law_said) m_law_said :=
  have SC := sc_law_said
  (dss_cons (ds_set (ps_set SC.nd rfl (by first | exact Or.inl rfl | exact Or.inr rfl) (de_cal rfl (cal_nowhere_above F) hr tkc (by decide) rfl (da_cons (de_var (pv 0)) (da_cons (de_var (pv 1)) da_nil)))))
    (dss_one (ds_return (de_and (de_isTy (n := "bool") rfl rfl (He.free_ok F.X F.G (F.c.d.fact 50 (f := .free "isinstance") rfl)) (de_var (pv 3)) (pe_bltn rfl (He.free_ok F.X F.G (F.c.d.fact 51 (f := .free "bool") rfl)) (by decide +kernel) rfl)) (de_one (de_eq rfl hr (de_var (pv 3)) (de_var (pv 2))))))))
theorem cal_law_said (F : Fx K mg h) : Cal (vc K) Pg w mg base "_law_said" 6 3 ph_law_said := by
  obtain ⟨fd, FD⟩ := F.c.d.def_ 36 (d := dd_law_said) rfl
  exact ⟨_, fd, ["one", "two", "yes"], fn_ok FD sc_law_said rfl rfl (fun cdv A outer s H E hr => der_law_said F hr), (He.glo_ok F.X F.G (F.c.d.fact 81 (f := .glo "_law_said") rfl)), FD.kp, FunD.bindsN (ps := ["one", "two", "yes"]) FD fun _ _ _ _ _ _ us hl => match us, hl with | [_, _, _], _ => rfl⟩

/-! _best_shifted -/
abbrev s_best_shifted : Stmt := top 34
abbrev N_best_shifted : List Str := ["curve", "starts", "many", "numbers", "told", "x", "y", "tick"]
theorem sc_best_shifted : FnScope N_best_shifted ["curve", "starts"] (defScope s_best_shifted) := ⟨rfl, rfl, rfl, by decide +kernel, rfl, by decide +kernel, by decide +kernel⟩
noncomputable def m_best_shifted : SemS :=
    vSeq (vAsg (vOp oPlus (vOp oSub (vOp oPlus (vFld [5] 8 (vVar 0)) (vCall fLen (vCons (vVar 1) (vNil)))) (vC (.int 1))) (vFld [5] 6 (vVar 0))) (tgN 2))
    (vSeq (vAsg (vDef 2 ph_first_numbers (vCons (vVar 0) (vCons (vVar 2) (vNil)))) (tgN 3))
    (vSeq (vAsg (vComp (vRange1 (vCons (vVar 2) (vNil))) (.nm 7) [7] (vYes) (vCall fMinL (vCons (vComp (vZip (vCons (vVar 1) (vCons (vRev (vVar 3) (vPart (vVar 7))) (vNil)))) (.tup [5, 6]) [5, 6] (vYes) (vOp oPlus (vVar 5) (vVar 6))) (vNil)))) (tgN 4))
    (vRet (vDef 3 ph_loose (vCons (vVar 4) (vCons (vFld [5] 6 (vVar 0)) (vCons (vFld [5] 7 (vVar 0)) (vNil))))))))
noncomputable def ph_best_shifted : FnSem := fnSem 2 8 m_best_shifted
theorem der_best_shifted (F : Fx K mg h) {f : Addr} {cdv : Value} {A : Around} {outer : List Env} {s : Shared} {H : Hp} {E : XK} (hr : Room 6 (A.deeper (envOfC "_best_shifted" (defScope s_best_shifted) s.heap.objs.size f cdv))) :
    DSs (vc K) (cxOf (L2N.CX Pg w) Pg w K mg base N_best_shifted "_best_shifted" (defScope s_best_shifted) f cdv A outer s H E) (fun cls d _ H => E cls d H) (defBody s_best_shifted) m_best_shifted :=
  have SC := sc_best_shifted
  (dss_cons (ds_set (ps_set SC.nd rfl (by first | exact Or.inl rfl | exact Or.inr rfl) (de_plus rfl (de_minus (de_plus rfl (de_fld (f := 8) rfl rfl (all_cons ⟨(He.cls_ok (F.c.d.fact 12 (f := .cls "Curve") rfl)), (He.noat_ok (F.c.d.fact 32 (f := .noat "Curve" "head") rfl)), ltN (by decide)⟩ all_nil) (de_var (pv 0)) rfl) (de_len rfl rfl (He.free_ok F.X F.G (F.c.d.fact 15 (f := .free "len") rfl)) (da_cons (de_var (pv 1)) da_nil))) de_int) (de_fld (f := 6) rfl rfl (all_cons ⟨(He.cls_ok (F.c.d.fact 12 (f := .cls "Curve") rfl)), (He.noat_ok (F.c.d.fact 35 (f := .noat "Curve" "period") rfl)), ltN (by decide)⟩ all_nil) (de_var (pv 0)) rfl))))
    (dss_cons (ds_set (ps_set SC.nd rfl (by first | exact Or.inl rfl | exact Or.inr rfl) (de_cal rfl (cal_first_numbers F) hr tkc (by decide) rfl (da_cons (de_var (pv 0)) (da_cons (de_var (pv 2)) da_nil)))))
    (dss_cons (ds_set (ds_setComp rfl (by decide) (ps_setLc (own := [("tick", 7)]) rfl SC.nd rfl rfl rfl (di_range1 rfl (He.free_ok F.X F.G (F.c.d.fact 16 (f := .free "range") rfl)) (da_cons (de_var (pv 2)) da_nil)) (blkOk_by (by kernel_rfl)) (fun _ _ _ _ _ => pg_name SC.nd rfl (by first | exact Or.inl rfl | exact Or.inr rfl)) (fun _ _ _ _ _ => dts_nil) (fun _ _ _ _ _ => (de_minL rfl rfl rfl (He.free_ok F.X F.G (F.c.d.fact 23 (f := .free "min") rfl)) (da_cons (de_comp rfl (by decide) (pe_lc (own := [("x", 5), ("y", 6)]) rfl SC.nd (di_zip rfl rfl (He.free_ok F.X F.G (F.c.d.fact 59 (f := .free "zip") rfl)) (da_cons (de_var (pv 1)) (da_cons (de_rev rfl (de_var (pv 3)) (do_some (de_var (pv 7)))) da_nil))) (blkOk_by (by kernel_rfl)) (fun _ _ _ _ _ => pg_tup rfl (pgs_cons (pg_name SC.nd rfl (by first | exact Or.inl rfl | exact Or.inr rfl)) (pgs_cons (pg_name SC.nd rfl (by first | exact Or.inl rfl | exact Or.inr rfl)) pgs_nil))) (fun _ _ _ _ _ => dts_nil) (fun _ _ _ _ _ => (de_plus rfl (de_var (pv 5)) (de_var (pv 6)))))) da_nil))))))
    (dss_one (ds_return (de_cal rfl (cal_loose F) hr tkc (by decide) rfl (da_cons (de_var (pv 4)) (da_cons (de_fld (f := 6) rfl rfl (all_cons ⟨(He.cls_ok (F.c.d.fact 12 (f := .cls "Curve") rfl)), (He.noat_ok (F.c.d.fact 35 (f := .noat "Curve" "period") rfl)), ltN (by decide)⟩ all_nil) (de_var (pv 0)) rfl) (da_cons (de_fld (f := 7) rfl rfl (all_cons ⟨(He.cls_ok (F.c.d.fact 12 (f := .cls "Curve") rfl)), (He.noat_ok (F.c.d.fact 31 (f := .noat "Curve" "rise") rfl)), ltN (by decide)⟩ all_nil) (de_var (pv 0)) rfl) da_nil)))))))))
theorem cal_best_shifted (F : Fx K mg h) : Cal (vc K) Pg w mg base "_best_shifted" 7 2 ph_best_shifted := by
  obtain ⟨fd, FD⟩ := F.c.d.def_ 37 (d := dd_best_shifted) rfl
  exact ⟨_, fd, ["curve", "starts"], fn_ok FD sc_best_shifted rfl rfl (fun cdv A outer s H E hr => der_best_shifted F hr), (He.glo_ok F.X F.G (F.c.d.fact 82 (f := .glo "_best_shifted") rfl)), FD.kp, FunD.bindsN (ps := ["curve", "starts"]) FD fun _ _ _ _ _ _ us hl => match us, hl with | [_, _], _ => rfl⟩

/-! _told_ticks -/
abbrev s_told_ticks : Stmt := top 31
abbrev N_told_ticks : List Str := ["end", "last"]
theorem sc_told_ticks : FnScope N_told_ticks ["end", "last"] (defScope s_told_ticks) := ⟨rfl, rfl, rfl, by decide +kernel, rfl, by decide +kernel, by decide +kernel⟩
noncomputable def m_told_ticks : SemS :=
    vSeq (vIfS (vTest (vOp oLt (vVar 1) (vFld [5] 8 (vVar 0)))) (vRet (vOp oPlus (vFld [5] 8 (vVar 0)) (vFld [5] 6 (vVar 0)))) (vNext))
    (vSeq (vIfS (vTest (vOp oGt (vOp oPlus (vOp oPlus (vVar 1) (vC (.int 1))) (vFld [5] 6 (vVar 0))) (vC (.int 400)))) (vRaise 3 2 [(3, 1)] (vCons (vOp oPlus (vOp oPlus (vVar 1) (vC (.int 1))) (vFld [5] 6 (vVar 0))) (vNil))) (vNext))
    (vRet (vOp oPlus (vOp oPlus (vVar 1) (vC (.int 1))) (vFld [5] 6 (vVar 0)))))
noncomputable def ph_told_ticks : FnSem := fnSem 2 2 m_told_ticks
theorem der_told_ticks (F : Fx K mg h) {f : Addr} {cdv : Value} {A : Around} {outer : List Env} {s : Shared} {H : Hp} {E : XK} (hr : Room 2 (A.deeper (envOfC "_told_ticks" (defScope s_told_ticks) s.heap.objs.size f cdv))) :
    DSs (vc K) (cxOf (L2N.CX Pg w) Pg w K mg base N_told_ticks "_told_ticks" (defScope s_told_ticks) f cdv A outer s H E) (fun cls d _ H => E cls d H) (defBody s_told_ticks) m_told_ticks :=
  have SC := sc_told_ticks
  (dss_cons (ds_if (dt_lt (de_var (pv 1)) (de_fld (f := 8) rfl rfl (all_cons ⟨(He.cls_ok (F.c.d.fact 12 (f := .cls "Curve") rfl)), (He.noat_ok (F.c.d.fact 32 (f := .noat "Curve" "head") rfl)), ltN (by decide)⟩ all_nil) (de_var (pv 0)) rfl)) (dss_one (ds_return (de_plus rfl (de_fld (f := 8) rfl rfl (all_cons ⟨(He.cls_ok (F.c.d.fact 12 (f := .cls "Curve") rfl)), (He.noat_ok (F.c.d.fact 32 (f := .noat "Curve" "head") rfl)), ltN (by decide)⟩ all_nil) (de_var (pv 0)) rfl) (de_fld (f := 6) rfl rfl (all_cons ⟨(He.cls_ok (F.c.d.fact 12 (f := .cls "Curve") rfl)), (He.noat_ok (F.c.d.fact 35 (f := .noat "Curve" "period") rfl)), ltN (by decide)⟩ all_nil) (de_var (pv 0)) rfl)))) dss_nil)
    (dss_cons (ds_if (dt_gt (de_plus rfl (de_plus rfl (de_var (pv 1)) de_int) (de_fld (f := 6) rfl rfl (all_cons ⟨(He.cls_ok (F.c.d.fact 12 (f := .cls "Curve") rfl)), (He.noat_ok (F.c.d.fact 35 (f := .noat "Curve" "period") rfl)), ltN (by decide)⟩ all_nil) (de_var (pv 0)) rfl)) (de_gint rfl (He.int_ok F.X F.G (F.c.d.fact 40 (f := .int "LONG" 400) rfl)))) (dss_one (ds_calE rfl (cale_TooLong F) hr tkc rfl (by decide) rfl (da_cons (de_plus rfl (de_plus rfl (de_var (pv 1)) de_int) (de_fld (f := 6) rfl rfl (all_cons ⟨(He.cls_ok (F.c.d.fact 12 (f := .cls "Curve") rfl)), (He.noat_ok (F.c.d.fact 35 (f := .noat "Curve" "period") rfl)), ltN (by decide)⟩ all_nil) (de_var (pv 0)) rfl)) da_nil))) dss_nil)
    (dss_one (ds_return (de_plus rfl (de_plus rfl (de_var (pv 1)) de_int) (de_fld (f := 6) rfl rfl (all_cons ⟨(He.cls_ok (F.c.d.fact 12 (f := .cls "Curve") rfl)), (He.noat_ok (F.c.d.fact 35 (f := .noat "Curve" "period") rfl)), ltN (by decide)⟩ all_nil) (de_var (pv 0)) rfl))))))
theorem cal_told_ticks (F : Fx K mg h) : Cal (vc K) Pg w mg base "_told_ticks" 3 2 ph_told_ticks := by
  obtain ⟨fd, FD⟩ := F.c.d.def_ 38 (d := dd_told_ticks) rfl
  exact ⟨_, fd, ["end", "last"], fn_ok FD sc_told_ticks rfl rfl (fun cdv A outer s H E hr => der_told_ticks F hr), (He.glo_ok F.X F.G (F.c.d.fact 83 (f := .glo "_told_ticks") rfl)), FD.kp, FunD.bindsN (ps := ["end", "last"]) FD fun _ _ _ _ _ _ us hl => match us, hl with | [_, _], _ => rfl⟩

/-! _last_below -/
abbrev s_last_below : Stmt := top 30
abbrev N_last_below : List Str := ["fast", "slow", "period", "head", "gain", "high", "low", "last", "tick", "times"]
theorem sc_last_below : FnScope N_last_below ["fast", "slow", "period"] (defScope s_last_below) := ⟨rfl, rfl, rfl, by decide +kernel, rfl, by decide +kernel, by decide +kernel⟩
noncomputable def m_last_below : SemS :=
    vSeq (vAsg (vCall fMax2 (vCons (vFld [5] 8 (vVar 0)) (vCons (vFld [5] 8 (vVar 1)) (vNil)))) (tgN 3))
    (vSeq (vAsg (vOp oSub (vDef 2 ph_gain_in (vCons (vVar 0) (vCons (vVar 2) (vNil)))) (vDef 2 ph_gain_in (vCons (vVar 1) (vCons (vVar 2) (vNil))))) (tgN 4))
    (vSeq (vAsg (vDef 2 ph_first_numbers (vCons (vVar 0) (vCons (vOp oPlus (vVar 3) (vVar 2)) (vNil)))) (tgN 5))
    (vSeq (vAsg (vDef 2 ph_first_numbers (vCons (vVar 1) (vCons (vOp oPlus (vVar 3) (vVar 2)) (vNil)))) (tgN 6))
    (vSeq (vAsg (vNeg (vC (.int 1))) (tgN 7))
    (vSeq (vFor (vRange1 (vCons (vVar 3) (vNil))) (tgN 8) (vIfS (vTest (vOp oLt (vOp oIx (vVar 5) (vVar 8)) (vOp oIx (vVar 6) (vVar 8)))) (vAsg (vVar 8) (tgN 7)) (vNext)))
    (vSeq (vFor (vRange2 (vCons (vVar 3) (vCons (vOp oPlus (vVar 3) (vVar 2)) (vNil)))) (tgN 8) (vIfS (vTest (vOp oLt (vOp oIx (vVar 5) (vVar 8)) (vOp oIx (vVar 6) (vVar 8)))) (vSeq (vAsg (vOp oFdiv (vOp oSub (vOp oSub (vOp oIx (vVar 6) (vVar 8)) (vOp oIx (vVar 5) (vVar 8))) (vC (.int 1))) (vVar 4)) (tgN 9))
    (vAsg (vCall fMax2 (vCons (vVar 7) (vCons (vOp oPlus (vVar 8) (vOp oTimes (vVar 9) (vVar 2))) (vNil)))) (tgN 7))) (vNext)))
    (vRet (vVar 7))))))))
noncomputable def ph_last_below : FnSem := fnSem 3 10 m_last_below
theorem der_last_below (F : Fx K mg h) {f : Addr} {cdv : Value} {A : Around} {outer : List Env} {s : Shared} {H : Hp} {E : XK} (hr : Room 1 (A.deeper (envOfC "_last_below" (defScope s_last_below) s.heap.objs.size f cdv))) :
    DSs (vc K) (cxOf (L2N.CX Pg w) Pg w K mg base N_last_below "_last_below" (defScope s_last_below) f cdv A outer s H E) (fun cls d _ H => E cls d H) (defBody s_last_below) m_last_below :=
  have SC := sc_last_below
  (dss_cons (ds_set (ps_set SC.nd rfl (by first | exact Or.inl rfl | exact Or.inr rfl) (de_max2 rfl rfl (He.free_ok F.X F.G (F.c.d.fact 48 (f := .free "max") rfl)) (da_cons (de_fld (f := 8) rfl rfl (all_cons ⟨(He.cls_ok (F.c.d.fact 12 (f := .cls "Curve") rfl)), (He.noat_ok (F.c.d.fact 32 (f := .noat "Curve" "head") rfl)), ltN (by decide)⟩ all_nil) (de_var (pv 0)) rfl) (da_cons (de_fld (f := 8) rfl rfl (all_cons ⟨(He.cls_ok (F.c.d.fact 12 (f := .cls "Curve") rfl)), (He.noat_ok (F.c.d.fact 32 (f := .noat "Curve" "head") rfl)), ltN (by decide)⟩ all_nil) (de_var (pv 1)) rfl) da_nil)))))
    (dss_cons (ds_set (ps_set SC.nd rfl (by first | exact Or.inl rfl | exact Or.inr rfl) (de_minus (de_cal rfl (cal_gain_in F) hr tkc (by decide) rfl (da_cons (de_var (pv 0)) (da_cons (de_var (pv 2)) da_nil))) (de_cal rfl (cal_gain_in F) hr tkc (by decide) rfl (da_cons (de_var (pv 1)) (da_cons (de_var (pv 2)) da_nil))))))
    (dss_cons (ds_set (ps_set SC.nd rfl (by first | exact Or.inl rfl | exact Or.inr rfl) (de_cal rfl (cal_first_numbers F) hr tkc (by decide) rfl (da_cons (de_var (pv 0)) (da_cons (de_plus rfl (de_var (pv 3)) (de_var (pv 2))) da_nil)))))
    (dss_cons (ds_set (ps_set SC.nd rfl (by first | exact Or.inl rfl | exact Or.inr rfl) (de_cal rfl (cal_first_numbers F) hr tkc (by decide) rfl (da_cons (de_var (pv 1)) (da_cons (de_plus rfl (de_var (pv 3)) (de_var (pv 2))) da_nil)))))
    (dss_cons (ds_set (ps_set SC.nd rfl (by first | exact Or.inl rfl | exact Or.inr rfl) (de_neg de_int)))
    (dss_cons (ds_for hpc rfl (di_range1 rfl (He.free_ok F.X F.G (F.c.d.fact 16 (f := .free "range") rfl)) (da_cons (de_var (pv 3)) da_nil)) (dg_name (pg_name SC.nd rfl (by first | exact Or.inl rfl | exact Or.inr rfl))) (dss_one (ds_if (dt_lt (de_ix rfl (de_var (pv 5)) (de_var (pv 8)) (fun _ _ => rfl)) (de_ix rfl (de_var (pv 6)) (de_var (pv 8)) (fun _ _ => rfl))) (dss_one (ds_set (ps_set SC.nd rfl (by first | exact Or.inl rfl | exact Or.inr rfl) (de_var (pv 8))))) dss_nil)))
    (dss_cons (ds_for hpc rfl (di_range2 rfl (He.free_ok F.X F.G (F.c.d.fact 16 (f := .free "range") rfl)) (da_cons (de_var (pv 3)) (da_cons (de_plus rfl (de_var (pv 3)) (de_var (pv 2))) da_nil)) (fun h => pi_range2 rfl (He.free_ok F.X F.G (F.c.d.fact 16 (f := .free "range") rfl)) h)) (dg_name (pg_name SC.nd rfl (by first | exact Or.inl rfl | exact Or.inr rfl))) (dss_one (ds_if (dt_lt (de_ix rfl (de_var (pv 5)) (de_var (pv 8)) (fun _ _ => rfl)) (de_ix rfl (de_var (pv 6)) (de_var (pv 8)) (fun _ _ => rfl))) (dss_cons (ds_set (ps_set SC.nd rfl (by first | exact Or.inl rfl | exact Or.inr rfl) (de_fdiv (de_minus (de_minus (de_ix rfl (de_var (pv 6)) (de_var (pv 8)) (fun _ _ => rfl)) (de_ix rfl (de_var (pv 5)) (de_var (pv 8)) (fun _ _ => rfl))) de_int) (de_var (pv 4)))))
    (dss_one (ds_set (ps_set SC.nd rfl (by first | exact Or.inl rfl | exact Or.inr rfl) (de_max2 rfl rfl (He.free_ok F.X F.G (F.c.d.fact 48 (f := .free "max") rfl)) (da_cons (de_var (pv 7)) (da_cons (de_plus rfl (de_var (pv 8)) (de_times (de_var (pv 9)) (de_var (pv 2)))) da_nil))))))) dss_nil)))
    (dss_one (ds_return (de_var (pv 7)))))))))))
theorem cal_last_below (F : Fx K mg h) : Cal (vc K) Pg w mg base "_last_below" 2 3 ph_last_below := by
  obtain ⟨fd, FD⟩ := F.c.d.def_ 39 (d := dd_last_below) rfl
  exact ⟨_, fd, ["fast", "slow", "period"], fn_ok FD sc_last_below rfl rfl (fun cdv A outer s H E hr => der_last_below F hr), (He.glo_ok F.X F.G (F.c.d.fact 84 (f := .glo "_last_below") rfl)), FD.kp, FunD.bindsN (ps := ["fast", "slow", "period"]) FD fun _ _ _ _ _ _ us hl => match us, hl with | [_, _, _], _ => rfl⟩

/-! least -/
abbrev s_least : Stmt := top 32
abbrev N_least : List Str := ["a", "b", "period", "gain", "many", "rise", "slow", "fast", "pairs", "x", "y"]
theorem sc_least : FnScope N_least ["a", "b"] (defScope s_least) := ⟨rfl, rfl, rfl, by decide +kernel, rfl, by decide +kernel, by decide +kernel⟩
noncomputable def m_least : SemS :=
    vAnyK fun k0 =>
    vSeq (vAsg (vDef 2 ph_common_period (vCons (vVar 0) (vCons (vVar 1) (vNil)))) (tgN 2))
    (vSeq (vAsg (vOp oSub (vDef 2 ph_gain_in (vCons (vVar 0) (vCons (vVar 2) (vNil)))) (vDef 2 ph_gain_in (vCons (vVar 1) (vCons (vVar 2) (vNil))))) (tgN 3))
    (vSeq (vIfS (vTest (vOp oEq (vVar 3) (vC (.int 0)))) (vPar 4 5 (vCons (vOp oPlus (vCall fMax2 (vCons (vFld [5] 8 (vVar 0)) (vCons (vFld [5] 8 (vVar 1)) (vNil)))) (vVar 2)) (vCons (vDef 2 ph_gain_in (vCons (vVar 0) (vCons (vVar 2) (vNil)))) (vNil)))) (vSeq (vAsg (vIf (vTest (vOp oLt (vVar 3) (vC (.int 0)))) (vTup (vCons (vVar 0) (vCons (vVar 1) (vNil)))) (vTup (vCons (vVar 1) (vCons (vVar 0) (vNil))))) (tgTup 2 (tgsCons (tgN 6) (tgsCons (tgN 7) (tgsNil)))))
    (vSeq (vAsg (vDef 2 ph_told_ticks (vCons (vVar 6) (vCons (vDef 3 ph_last_below (vCons (vVar 7) (vCons (vVar 6) (vCons (vVar 2) (vNil))))) (vNil)))) (tgN 4))
    (vPar 2 5 (vCons (vFld [5] 6 (vVar 6)) (vCons (vFld [5] 7 (vVar 6)) (vNil)))))))
    (vSeq (vAsg (vCall (fZipV k0) (vCons (vDef 2 ph_first_numbers (vCons (vVar 0) (vCons (vVar 4) (vNil)))) (vCons (vDef 2 ph_first_numbers (vCons (vVar 1) (vCons (vVar 4) (vNil)))) (vNil)))) (tgN 8))
    (vRet (vDef 3 ph_made (vCons (vComp (vZipS k0 (vVar 8)) (.tup [9, 10]) [9, 10] (vYes) (vCall fMin2 (vCons (vVar 9) (vCons (vVar 10) (vNil))))) (vCons (vVar 2) (vCons (vVar 5) (vNil)))))))))
noncomputable def ph_least : FnSem := fnSem 2 11 m_least
theorem der_least (F : Fx K mg h) {f : Addr} {cdv : Value} {A : Around} {outer : List Env} {s : Shared} {H : Hp} {E : XK} (hr : Room 7 (A.deeper (envOfC "least" (defScope s_least) s.heap.objs.size f cdv))) :
    DSs (vc K) (cxOf (L2N.CX Pg w) Pg w K mg base N_least "least" (defScope s_least) f cdv A outer s H E) (fun cls d _ H => E cls d H) (defBody s_least) m_least :=
  have SC := sc_least
  (dss_anyK _ (dss_cons (ds_set (ps_set SC.nd rfl (by first | exact Or.inl rfl | exact Or.inr rfl) (de_cal rfl (cal_common_period F) hr tkc (by decide) rfl (da_cons (de_var (pv 0)) (da_cons (de_var (pv 1)) da_nil)))))
    (dss_cons (ds_set (ps_set SC.nd rfl (by first | exact Or.inl rfl | exact Or.inr rfl) (de_minus (de_cal rfl (cal_gain_in F) hr tkc (by decide) rfl (da_cons (de_var (pv 0)) (da_cons (de_var (pv 2)) da_nil))) (de_cal rfl (cal_gain_in F) hr tkc (by decide) rfl (da_cons (de_var (pv 1)) (da_cons (de_var (pv 2)) da_nil))))))
    (dss_cons (ds_if (dt_eq rfl hr (de_var (pv 3)) de_int) (dss_one (ds_par rfl SC.nd rfl rfl (by decide) rfl rfl (da_cons (de_plus rfl (de_max2 rfl rfl (He.free_ok F.X F.G (F.c.d.fact 48 (f := .free "max") rfl)) (da_cons (de_fld (f := 8) rfl rfl (all_cons ⟨(He.cls_ok (F.c.d.fact 12 (f := .cls "Curve") rfl)), (He.noat_ok (F.c.d.fact 32 (f := .noat "Curve" "head") rfl)), ltN (by decide)⟩ all_nil) (de_var (pv 0)) rfl) (da_cons (de_fld (f := 8) rfl rfl (all_cons ⟨(He.cls_ok (F.c.d.fact 12 (f := .cls "Curve") rfl)), (He.noat_ok (F.c.d.fact 32 (f := .noat "Curve" "head") rfl)), ltN (by decide)⟩ all_nil) (de_var (pv 1)) rfl) da_nil))) (de_var (pv 2))) (da_cons (de_cal rfl (cal_gain_in F) hr tkc (by decide) rfl (da_cons (de_var (pv 0)) (da_cons (de_var (pv 2)) da_nil))) da_nil)))) (dss_cons (ds_asg (de_if (dt_lt (de_var (pv 3)) de_int) (de_tup (da_cons (de_var (pv 0)) (da_cons (de_var (pv 1)) da_nil))) (de_tup (da_cons (de_var (pv 1)) (da_cons (de_var (pv 0)) da_nil)))) (dg_tup rfl rfl (dgs_cons (dg_name (pg_name SC.nd rfl (by first | exact Or.inl rfl | exact Or.inr rfl))) (dgs_cons (dg_name (pg_name SC.nd rfl (by first | exact Or.inl rfl | exact Or.inr rfl))) dgs_nil))) (tgTup_t (tgsCons_t tgN_t (tgsCons_t tgN_t tgsNil_t))))
    (dss_cons (ds_set (ps_set SC.nd rfl (by first | exact Or.inl rfl | exact Or.inr rfl) (de_cal rfl (cal_told_ticks F) hr tkc (by decide) rfl (da_cons (de_var (pv 6)) (da_cons (de_cal rfl (cal_last_below F) hr tkc (by decide) rfl (da_cons (de_var (pv 7)) (da_cons (de_var (pv 6)) (da_cons (de_var (pv 2)) da_nil)))) da_nil)))))
    (dss_one (ds_par rfl SC.nd rfl rfl (by decide) rfl rfl (da_cons (de_fld (f := 6) rfl rfl (all_cons ⟨(He.cls_ok (F.c.d.fact 12 (f := .cls "Curve") rfl)), (He.noat_ok (F.c.d.fact 35 (f := .noat "Curve" "period") rfl)), ltN (by decide)⟩ all_nil) (de_var (pv 6)) rfl) (da_cons (de_fld (f := 7) rfl rfl (all_cons ⟨(He.cls_ok (F.c.d.fact 12 (f := .cls "Curve") rfl)), (He.noat_ok (F.c.d.fact 31 (f := .noat "Curve" "rise") rfl)), ltN (by decide)⟩ all_nil) (de_var (pv 6)) rfl) da_nil)))))))
    (dss_cons (ds_set (ps_set SC.nd rfl (by first | exact Or.inl rfl | exact Or.inr rfl) (de_zipV rfl rfl (He.free_ok F.X F.G (F.c.d.fact 59 (f := .free "zip") rfl)) (da_cons (de_cal rfl (cal_first_numbers F) hr tkc (by decide) rfl (da_cons (de_var (pv 0)) (da_cons (de_var (pv 4)) da_nil))) (da_cons (de_cal rfl (cal_first_numbers F) hr tkc (by decide) rfl (da_cons (de_var (pv 1)) (da_cons (de_var (pv 4)) da_nil))) da_nil)))))
    (dss_one (ds_return (de_cal rfl (cal_made F) hr tkc (by decide) rfl (da_cons (de_comp rfl (by decide) (pe_lc (own := [("x", 9), ("y", 10)]) rfl SC.nd (di_zipV rfl (de_var (pv 8))) (blkOk_by (by kernel_rfl)) (fun _ _ _ _ _ => pg_tup rfl (pgs_cons (pg_name SC.nd rfl (by first | exact Or.inl rfl | exact Or.inr rfl)) (pgs_cons (pg_name SC.nd rfl (by first | exact Or.inl rfl | exact Or.inr rfl)) pgs_nil))) (fun _ _ _ _ _ => dts_nil) (fun _ _ _ _ _ => (de_min2 rfl rfl (He.free_ok F.X F.G (F.c.d.fact 23 (f := .free "min") rfl)) (da_cons (de_var (pv 9)) (da_cons (de_var (pv 10)) da_nil)))))) (da_cons (de_var (pv 2)) (da_cons (de_var (pv 5)) da_nil)))))))))))
theorem cal_least (F : Fx K mg h) : Cal (vc K) Pg w mg base "least" 8 2 ph_least := by
  obtain ⟨fd, FD⟩ := F.c.d.def_ 40 (d := dd_least) rfl
  exact ⟨_, fd, ["a", "b"], fn_ok FD sc_least rfl rfl (fun cdv A outer s H E hr => der_least F hr), (He.glo_ok F.X F.G (F.c.d.fact 85 (f := .glo "least") rfl)), FD.kp, FunD.bindsN (ps := ["a", "b"]) FD fun _ _ _ _ _ _ us hl => match us, hl with | [_, _], _ => rfl⟩

/-! convolved -/
abbrev s_convolved : Stmt := top 35
abbrev N_convolved : List Str := ["a", "b", "period", "slow", "fast", "near"]
theorem sc_convolved : FnScope N_convolved ["a", "b"] (defScope s_convolved) := ⟨rfl, rfl, rfl, by decide +kernel, rfl, by decide +kernel, by decide +kernel⟩
noncomputable def m_convolved : SemS :=
    vSeq (vAsg (vDef 2 ph_common_period (vCons (vVar 0) (vCons (vVar 1) (vNil)))) (tgN 2))
    (vSeq (vAsg (vIf (vTest (vOp oLe (vDef 2 ph_gain_in (vCons (vVar 0) (vCons (vVar 2) (vNil)))) (vDef 2 ph_gain_in (vCons (vVar 1) (vCons (vVar 2) (vNil)))))) (vTup (vCons (vVar 0) (vCons (vVar 1) (vNil)))) (vTup (vCons (vVar 1) (vCons (vVar 0) (vNil))))) (tgTup 2 (tgsCons (tgN 3) (tgsCons (tgN 4) (tgsNil)))))
    (vSeq (vAsg (vDef 2 ph_best_shifted (vCons (vVar 3) (vCons (vDef 2 ph_first_numbers (vCons (vVar 4) (vCons (vOp oPlus (vFld [5] 8 (vVar 4)) (vVar 2)) (vNil)))) (vNil)))) (tgN 5))
    (vSeq (vIfS (vTest (vOp oEq (vFld [5] 8 (vVar 3)) (vC (.int 0)))) (vRet (vDef 3 ph_made (vCons (vFld [5] 5 (vVar 5)) (vCons (vFld [5] 6 (vVar 5)) (vCons (vFld [5] 7 (vVar 5)) (vNil)))))) (vNext))
    (vRet (vDef 2 ph_least (vCons (vVar 5) (vCons (vDef 2 ph_best_shifted (vCons (vVar 4) (vCons (vDef 2 ph_first_numbers (vCons (vVar 3) (vCons (vFld [5] 8 (vVar 3)) (vNil)))) (vNil)))) (vNil))))))))
noncomputable def ph_convolved : FnSem := fnSem 2 6 m_convolved
theorem der_convolved (F : Fx K mg h) {f : Addr} {cdv : Value} {A : Around} {outer : List Env} {s : Shared} {H : Hp} {E : XK} (hr : Room 8 (A.deeper (envOfC "convolved" (defScope s_convolved) s.heap.objs.size f cdv))) :
    DSs (vc K) (cxOf (L2N.CX Pg w) Pg w K mg base N_convolved "convolved" (defScope s_convolved) f cdv A outer s H E) (fun cls d _ H => E cls d H) (defBody s_convolved) m_convolved :=
  have SC := sc_convolved
  (dss_cons (ds_set (ps_set SC.nd rfl (by first | exact Or.inl rfl | exact Or.inr rfl) (de_cal rfl (cal_common_period F) hr tkc (by decide) rfl (da_cons (de_var (pv 0)) (da_cons (de_var (pv 1)) da_nil)))))
    (dss_cons (ds_asg (de_if (dt_le (de_cal rfl (cal_gain_in F) hr tkc (by decide) rfl (da_cons (de_var (pv 0)) (da_cons (de_var (pv 2)) da_nil))) (de_cal rfl (cal_gain_in F) hr tkc (by decide) rfl (da_cons (de_var (pv 1)) (da_cons (de_var (pv 2)) da_nil)))) (de_tup (da_cons (de_var (pv 0)) (da_cons (de_var (pv 1)) da_nil))) (de_tup (da_cons (de_var (pv 1)) (da_cons (de_var (pv 0)) da_nil)))) (dg_tup rfl rfl (dgs_cons (dg_name (pg_name SC.nd rfl (by first | exact Or.inl rfl | exact Or.inr rfl))) (dgs_cons (dg_name (pg_name SC.nd rfl (by first | exact Or.inl rfl | exact Or.inr rfl))) dgs_nil))) (tgTup_t (tgsCons_t tgN_t (tgsCons_t tgN_t tgsNil_t))))
    (dss_cons (ds_set (ps_set SC.nd rfl (by first | exact Or.inl rfl | exact Or.inr rfl) (de_cal rfl (cal_best_shifted F) hr tkc (by decide) rfl (da_cons (de_var (pv 3)) (da_cons (de_cal rfl (cal_first_numbers F) hr tkc (by decide) rfl (da_cons (de_var (pv 4)) (da_cons (de_plus rfl (de_fld (f := 8) rfl rfl (all_cons ⟨(He.cls_ok (F.c.d.fact 12 (f := .cls "Curve") rfl)), (He.noat_ok (F.c.d.fact 32 (f := .noat "Curve" "head") rfl)), ltN (by decide)⟩ all_nil) (de_var (pv 4)) rfl) (de_var (pv 2))) da_nil))) da_nil)))))
    (dss_cons (ds_if (dt_eq rfl hr (de_fld (f := 8) rfl rfl (all_cons ⟨(He.cls_ok (F.c.d.fact 12 (f := .cls "Curve") rfl)), (He.noat_ok (F.c.d.fact 32 (f := .noat "Curve" "head") rfl)), ltN (by decide)⟩ all_nil) (de_var (pv 3)) rfl) de_int) (dss_one (ds_return (de_cal rfl (cal_made F) hr tkc (by decide) rfl (da_cons (de_fld (f := 5) rfl rfl (all_cons ⟨(He.cls_ok (F.c.d.fact 12 (f := .cls "Curve") rfl)), (He.noat_ok (F.c.d.fact 33 (f := .noat "Curve" "numbers") rfl)), ltN (by decide)⟩ all_nil) (de_var (pv 5)) rfl) (da_cons (de_fld (f := 6) rfl rfl (all_cons ⟨(He.cls_ok (F.c.d.fact 12 (f := .cls "Curve") rfl)), (He.noat_ok (F.c.d.fact 35 (f := .noat "Curve" "period") rfl)), ltN (by decide)⟩ all_nil) (de_var (pv 5)) rfl) (da_cons (de_fld (f := 7) rfl rfl (all_cons ⟨(He.cls_ok (F.c.d.fact 12 (f := .cls "Curve") rfl)), (He.noat_ok (F.c.d.fact 31 (f := .noat "Curve" "rise") rfl)), ltN (by decide)⟩ all_nil) (de_var (pv 5)) rfl) da_nil)))))) dss_nil)
    (dss_one (ds_return (de_cal rfl (cal_least F) hr tkc (by decide) rfl (da_cons (de_var (pv 5)) (da_cons (de_cal rfl (cal_best_shifted F) hr tkc (by decide) rfl (da_cons (de_var (pv 4)) (da_cons (de_cal rfl (cal_first_numbers F) hr tkc (by decide) rfl (da_cons (de_var (pv 3)) (da_cons (de_fld (f := 8) rfl rfl (all_cons ⟨(He.cls_ok (F.c.d.fact 12 (f := .cls "Curve") rfl)), (He.noat_ok (F.c.d.fact 32 (f := .noat "Curve" "head") rfl)), ltN (by decide)⟩ all_nil) (de_var (pv 3)) rfl) da_nil))) da_nil))) da_nil)))))))))
theorem cal_convolved (F : Fx K mg h) : Cal (vc K) Pg w mg base "convolved" 9 2 ph_convolved := by
  obtain ⟨fd, FD⟩ := F.c.d.def_ 41 (d := dd_convolved) rfl
  exact ⟨_, fd, ["a", "b"], fn_ok FD sc_convolved rfl rfl (fun cdv A outer s H E hr => der_convolved F hr), (He.glo_ok F.X F.G (F.c.d.fact 86 (f := .glo "convolved") rfl)), FD.kp, FunD.bindsN (ps := ["a", "b"]) FD fun _ _ _ _ _ _ us hl => match us, hl with | [_, _], _ => rfl⟩

/-! _law_both -/
abbrev s_law_both : Stmt := top 53
abbrev N_law_both : List Str := ["one", "two", "told", "e"]
theorem sc_law_both : FnScope N_law_both ["one", "two"] (defScope s_law_both) := ⟨rfl, rfl, rfl, by decide +kernel, rfl, by decide +kernel, by decide +kernel⟩
noncomputable def m_law_both : SemS :=
    vSeq (vTry (vAsg (vDef 2 ph_convolved (vCons (vVar 0) (vCons (vVar 1) (vNil)))) (tgN 2)) [⟨[(1, false), (2, false), (3, true), (4, false), (7, false)], (some 3), fun a cls dd => vRet (vTup (vCons (vC (.str "long")) (vCons (vDef 1 ph_law_number (vCons (vXf a cls dd [3] 3 (vVar 3)) (vNil))) (vNil))))⟩])
    (vRet (vDef 1 ph_law_shown (vCons (vVar 2) (vNil))))
noncomputable def ph_law_both : FnSem := fnSem 2 4 m_law_both
theorem der_law_both (F : Fx K mg h) {f : Addr} {cdv : Value} {A : Around} {outer : List Env} {s : Shared} {H : Hp} {E : XK} (hr : Room 9 (A.deeper (envOfC "_law_both" (defScope s_law_both) s.heap.objs.size f cdv))) :
    DSs (vc K) (cxOf (L2N.CX Pg w) Pg w K mg base N_law_both "_law_both" (defScope s_law_both) f cdv A outer s H E) (fun cls d _ H => E cls d H) (defBody s_law_both) m_law_both :=
  have SC := sc_law_both
  (dss_cons (ds_try rfl rfl rfl SC.nd tkc (fun W1 pn xe tk1 hp1 => (dss_one (ds_set (ps_set SC.nd rfl (by first | exact Or.inl rfl | exact Or.inr rfl) (de_cal rfl (cal_convolved F) hr tk1 (by decide) rfl (da_cons (de_var (pv 0)) (da_cons (de_var (pv 1)) da_nil))))))) (.named rfl rfl ⟨rfl, by decide, .inl (He.glo_ok F.X F.G (F.c.d.fact 10 (f := .glo "TooLong") rfl))⟩ (all_cons (He.exm_ok (F.c.d.fact 61 (f := .exm "OutOfRange" "TooLong" false) rfl)) (all_cons (He.exm_ok (F.c.d.fact 62 (f := .exm "TooMany" "TooLong" false) rfl)) (all_cons (He.exm_ok (F.c.d.fact 63 (f := .exm "TooLong" "TooLong" true) rfl)) (all_cons (He.exm_ok (F.c.d.fact 64 (f := .exm "BadValue" "TooLong" false) rfl)) (all_cons (He.exm_ok (F.c.d.fact 65 (f := .exm "Unbounded" "TooLong" false) rfl)) all_nil))))) (fun a oe cls dd pn hz hd => (dss_one (ds_return (de_tup (da_cons de_str (da_cons (de_calV rfl (calv_law_number F) (hot_suite hz hd hr) takesF (by decide) rfl (da_cons (de_xf (f := 3) rfl rfl (all_cons ⟨XC_TooLong F, (He.noat_ok (F.c.d.fact 9 (f := .noat "TooLong" "ticks") rfl))⟩ all_nil) hz hd (de_var (pv 3))) da_nil)) da_nil)))))) HdsD.nil))
    (dss_one (ds_return (de_cal rfl (cal_law_shown F) hr tkc (by decide) rfl (da_cons (de_var (pv 2)) da_nil)))))
theorem cal_law_both (F : Fx K mg h) : Cal (vc K) Pg w mg base "_law_both" 10 2 ph_law_both := by
  obtain ⟨fd, FD⟩ := F.c.d.def_ 42 (d := dd_law_both) rfl
  exact ⟨_, fd, ["one", "two"], fn_ok FD sc_law_both rfl rfl (fun cdv A outer s H E hr => der_law_both F hr), (He.glo_ok F.X F.G (F.c.d.fact 87 (f := .glo "_law_both") rfl)), FD.kp, FunD.bindsN (ps := ["one", "two"]) FD fun _ _ _ _ _ _ us hl => match us, hl with | [_, _], _ => rfl⟩

/-! _law_residual -/
abbrev s_law_residual : Stmt := top 60
abbrev N_law_residual : List Str := ["pool", "one", "two", "dues", "due", "rest", "told", "other", "curve", "yes", "folded"]
theorem sc_law_residual : FnScope N_law_residual ["pool", "one", "two", "dues", "due"] (defScope s_law_residual) := ⟨rfl, rfl, rfl, by decide +kernel, rfl, by decide +kernel, by decide +kernel⟩
noncomputable def m_law_residual : SemS :=
    vSeq (vAsg (vDef 2 ph_deconvolved (vCons (vVar 1) (vCons (vVar 2) (vNil)))) (tgN 5))
    (vSeq (vFor (vSrcA (vDef 2 ph_law_beside (vCons (vVar 0) (vCons (vVar 4) (vNil))))) (tgN 6) (vSeq (vAsg (vDef 1 ph_law_due (vCons (vVar 6) (vNil))) (tgN 7))
    (vSeq (vAsg (vMake true 5 4 ph_Curve_init (vCons (vCall fList (vCons (vOp oIx (vVar 6) (vC (.int 0))) (vNil))) (vCons (vOp oIx (vVar 6) (vC (.int 1))) (vCons (vOp oIx (vVar 6) (vC (.int 2))) (vNil))))) (tgN 8))
    (vSeq (vAsg (vDef 2 ph_law_below (vCons (vVar 4) (vCons (vVar 7) (vNil)))) (tgN 9))
    (vSeq (vIfS (vNot (vTest (vDef 3 ph_law_said (vCons (vVar 5) (vCons (vVar 8) (vCons (vVar 9) (vNil))))))) (vRet (vC (.bl false))) (vNext))
    (vSeq (vAsg (vDef 2 ph_law_folded (vCons (vOp oIx (vVar 3) (vC (.int 1))) (vCons (vVar 7) (vNil)))) (tgN 10))
    (vSeq (vIfS (vTest (vOp oNe (vDef 2 ph_law_both (vCons (vVar 2) (vCons (vVar 8) (vNil)))) (vVar 10))) (vRet (vC (.bl false))) (vNext))
    (vIfS (vAnd (vTest (vOp oEq (vCall fLen (vCons (vVar 10) (vNil))) (vC (.int 6)))) (vNot (vTest (vDef 3 ph_law_said (vCons (vVar 1) (vCons (vDef 2 ph_convolved (vCons (vVar 2) (vCons (vVar 8) (vNil)))) (vCons (vVar 9) (vNil)))))))) (vRet (vC (.bl false))) (vNext)))))))))
    (vRet (vOp oEq (vDef 1 ph_law_shown (vCons (vVar 5) (vNil))) (vVar 4))))
noncomputable def ph_law_residual : FnSem := fnSem 5 11 m_law_residual
theorem der_law_residual (F : Fx K mg h) {f : Addr} {cdv : Value} {A : Around} {outer : List Env} {s : Shared} {H : Hp} {E : XK} (hr : Room 10 (A.deeper (envOfC "_law_residual" (defScope s_law_residual) s.heap.objs.size f cdv))) :
    DSs (vc K) (cxOf (L2N.CX Pg w) Pg w K mg base N_law_residual "_law_residual" (defScope s_law_residual) f cdv A outer s H E) (fun cls d _ H => E cls d H) (defBody s_law_residual) m_law_residual :=
  have SC := sc_law_residual
  (dss_cons (ds_set (ps_set SC.nd rfl (by first | exact Or.inl rfl | exact Or.inr rfl) (de_cal rfl (cal_deconvolved F) hr tkc (by decide) rfl (da_cons (de_var (pv 1)) (da_cons (de_var (pv 2)) da_nil)))))
    (dss_cons (ds_for hpc rfl (di_seq rfl (de_cal rfl (cal_law_beside F) hr tkc (by decide) rfl (da_cons (de_var (pv 0)) (da_cons (de_var (pv 4)) da_nil)))) (dg_name (pg_name SC.nd rfl (by first | exact Or.inl rfl | exact Or.inr rfl))) (dss_cons (ds_set (ps_set SC.nd rfl (by first | exact Or.inl rfl | exact Or.inr rfl) (de_cal rfl (cal_law_due F) hr tkc (by decide) rfl (da_cons (de_var (pv 6)) da_nil))))
    (dss_cons (ds_set (ps_set SC.nd rfl (by first | exact Or.inl rfl | exact Or.inr rfl) (de_calN (fz := true) rfl (caln_Curve_init F) hr tkc (by decide) rfl (da_cons (de_list rfl rfl (He.free_ok F.X F.G (F.c.d.fact 37 (f := .free "list") rfl)) (da_cons (de_ix rfl (de_var (pv 6)) de_int (fun _ _ => rfl)) da_nil)) (da_cons (de_ix rfl (de_var (pv 6)) de_int (fun _ _ => rfl)) (da_cons (de_ix rfl (de_var (pv 6)) de_int (fun _ _ => rfl)) da_nil))))))
    (dss_cons (ds_set (ps_set SC.nd rfl (by first | exact Or.inl rfl | exact Or.inr rfl) (de_cal rfl (cal_law_below F) hr tkc (by decide) rfl (da_cons (de_var (pv 4)) (da_cons (de_var (pv 7)) da_nil)))))
    (dss_cons (ds_if (dt_not (dt_val (de_cal rfl (cal_law_said F) hr tkc (by decide) rfl (da_cons (de_var (pv 5)) (da_cons (de_var (pv 8)) (da_cons (de_var (pv 9)) da_nil)))))) (dss_one (ds_return de_bl)) dss_nil)
    (dss_cons (ds_set (ps_set SC.nd rfl (by first | exact Or.inl rfl | exact Or.inr rfl) (de_cal rfl (cal_law_folded F) hr tkc (by decide) rfl (da_cons (de_ix rfl (de_var (pv 3)) de_int (fun _ _ => rfl)) (da_cons (de_var (pv 7)) da_nil)))))
    (dss_cons (ds_if (dt_ne rfl hr (de_cal rfl (cal_law_both F) hr tkc (by decide) rfl (da_cons (de_var (pv 2)) (da_cons (de_var (pv 8)) da_nil))) (de_var (pv 10))) (dss_one (ds_return de_bl)) dss_nil)
    (dss_one (ds_if (dt_w (dw_and (dt_eq rfl hr (de_len rfl rfl (He.free_ok F.X F.G (F.c.d.fact 15 (f := .free "len") rfl)) (da_cons (de_var (pv 10)) da_nil)) de_int) (dw_and1 (dt_not (dt_val (de_cal rfl (cal_law_said F) hr tkc (by decide) rfl (da_cons (de_var (pv 1)) (da_cons (de_cal rfl (cal_convolved F) hr tkc (by decide) rfl (da_cons (de_var (pv 2)) (da_cons (de_var (pv 8)) da_nil))) (da_cons (de_var (pv 9)) da_nil))))))))) (dss_one (ds_return de_bl)) dss_nil)))))))))
    (dss_one (ds_return (de_eq rfl hr (de_cal rfl (cal_law_shown F) hr tkc (by decide) rfl (da_cons (de_var (pv 5)) da_nil)) (de_var (pv 4)))))))
theorem cal_law_residual (F : Fx K mg h) : Cal (vc K) Pg w mg base "_law_residual" 11 5 ph_law_residual := by
  obtain ⟨fd, FD⟩ := F.c.d.def_ 43 (d := dd_law_residual) rfl
  exact ⟨_, fd, ["pool", "one", "two", "dues", "due"], fn_ok FD sc_law_residual rfl rfl (fun cdv A outer s H E hr => der_law_residual F hr), (He.glo_ok F.X F.G (F.c.d.fact 88 (f := .glo "_law_residual") rfl)), FD.kp, FunD.bindsN (ps := ["pool", "one", "two", "dues", "due"]) FD fun _ _ _ _ _ _ us hl => match us, hl with | [_, _, _, _, _], _ => rfl⟩

/-! law -/
abbrev s_law : Stmt := top 62
abbrev N_law : List Str := ["script", "pool", "told", "curves", "one", "dues", "k", "two", "pair", "due", "curve"]
theorem sc_law : FnScope N_law ["script"] (defScope s_law) := ⟨rfl, rfl, rfl, by decide +kernel, rfl, by decide +kernel, by decide +kernel⟩
noncomputable def m_law : SemS :=
    vSeq (vNew 1 (vDef 1 ph_law_pool (vCons (vVar 0) (vNil))))
    (vSeq (vAsg (vDef 1 ph_law_two (vCons (vVar 1) (vNil))) (tgN 2))
    (vSeq (vAsg (vComp (vSrcA (vVar 2)) (.nm 4) [4] (vYes) (vMake true 5 4 ph_Curve_init (vCons (vCall fList (vCons (vOp oIx (vVar 4) (vC (.int 0))) (vNil))) (vCons (vOp oIx (vVar 4) (vC (.int 1))) (vCons (vOp oIx (vVar 4) (vC (.int 2))) (vNil)))))) (tgN 3))
    (vSeq (vAsg (vComp (vSrcA (vVar 2)) (.nm 4) [4] (vYes) (vDef 1 ph_law_due (vCons (vVar 4) (vNil)))) (tgN 5))
    (vSeq (vFor (vRange1 (vCons (vC (.int 2)) (vNil))) (tgN 6) (vSeq (vAsg (vOp oIx (vVar 3) (vVar 6)) (tgN 4))
    (vSeq (vAsg (vOp oIx (vVar 3) (vOp oSub (vC (.int 1)) (vVar 6))) (tgN 7))
    (vSeq (vAsg (vLst (vCons (vOp oIx (vVar 5) (vVar 6)) (vCons (vOp oIx (vVar 5) (vOp oSub (vC (.int 1)) (vVar 6))) (vNil)))) (tgN 8))
    (vSeq (vAsg (vDef 2 ph_law_rest (vCons (vOp oIx (vVar 8) (vC (.int 0))) (vCons (vOp oIx (vVar 8) (vC (.int 1))) (vNil)))) (tgN 9))
    (vSeq (vIfS (vOr (vTest (vOp oNe (vDef 2 ph_law_asked (vCons (vVar 4) (vCons (vVar 7) (vNil)))) (vVar 9))) (vTest (vOp oNe (vDef 2 ph_law_asked (vCons (vVar 4) (vCons (vVar 7) (vNil)))) (vVar 9)))) (vRet (vC (.bl false))) (vNext))
    (vIfS (vAnd (vTest (vOp oEq (vCall fLen (vCons (vVar 9) (vNil))) (vC (.int 6)))) (vTest (vOp oLe (vDef 2 ph_law_common (vCons (vOp oIx (vOp oIx (vVar 8) (vC (.int 0))) (vC (.int 2))) (vCons (vOp oIx (vOp oIx (vVar 8) (vC (.int 1))) (vC (.int 2))) (vNil)))) (vC (.int 60))))) (vIfS (vNot (vTest (vDef 5 ph_law_residual (vCons (vVar 1) (vCons (vVar 4) (vCons (vVar 7) (vCons (vVar 8) (vCons (vVar 9) (vNil))))))))) (vRet (vC (.bl false))) (vNext)) (vNext))))))))
    (vRet (vAndV (vDef 1 ph_law_far (vCons (vVar 1) (vNil))) (vOp oEq (vComp (vSrcA (vVar 3)) (.nm 10) [10] (vYes) (vDef 1 ph_law_shown (vCons (vVar 10) (vNil)))) (vVar 5))))))))
noncomputable def ph_law : FnSem := fnSem 1 11 m_law
theorem der_law (F : Fx K mg h) {f : Addr} {cdv : Value} {A : Around} {outer : List Env} {s : Shared} {H : Hp} {E : XK} (hr : Room 11 (A.deeper (envOfC "law" (defScope s_law) s.heap.objs.size f cdv))) :
    DSs (vc K) (cxOf (L2N.CX Pg w) Pg w K mg base N_law "law" (defScope s_law) f cdv A outer s H E) (fun cls d _ H => E cls d H) (defBody s_law) m_law :=
  have SC := sc_law
  (dss_cons (ds_new (ps_set SC.nd rfl (by first | exact Or.inl rfl | exact Or.inr rfl) (de_cal rfl (cal_law_pool F) hr tkc (by decide) rfl (da_cons (de_var (pv 0)) da_nil))))
    (dss_cons (ds_set (ps_set SC.nd rfl (by first | exact Or.inl rfl | exact Or.inr rfl) (de_cal rfl (cal_law_two F) hr tkc (by decide) rfl (da_cons (de_var (pv 1)) da_nil))))
    (dss_cons (ds_set (ds_setComp rfl (by decide) (ps_setLc (own := [("one", 4)]) rfl SC.nd rfl rfl rfl (di_seq rfl (de_var (pv 2))) (blkOk_by (by kernel_rfl)) (fun _ _ _ _ _ => pg_name SC.nd rfl (by first | exact Or.inl rfl | exact Or.inr rfl)) (fun _ _ _ _ _ => dts_nil) (fun _ _ _ _ _ => (de_calN (fz := true) rfl (caln_Curve_init F) hr takesF (by decide) rfl (da_cons (de_list rfl rfl (He.free_ok F.X F.G (F.c.d.fact 37 (f := .free "list") rfl)) (da_cons (de_ix rfl (de_var (pv 4)) de_int (fun _ _ => rfl)) da_nil)) (da_cons (de_ix rfl (de_var (pv 4)) de_int (fun _ _ => rfl)) (da_cons (de_ix rfl (de_var (pv 4)) de_int (fun _ _ => rfl)) da_nil))))))))
    (dss_cons (ds_set (ds_setComp rfl (by decide) (ps_setLc (own := [("one", 4)]) rfl SC.nd rfl rfl rfl (di_seq rfl (de_var (pv 2))) (blkOk_by (by kernel_rfl)) (fun _ _ _ _ _ => pg_name SC.nd rfl (by first | exact Or.inl rfl | exact Or.inr rfl)) (fun _ _ _ _ _ => dts_nil) (fun _ _ _ _ _ => (de_cal rfl (cal_law_due F) hr takesF (by decide) rfl (da_cons (de_var (pv 4)) da_nil))))))
    (dss_cons (ds_for hpc rfl (di_range1 rfl (He.free_ok F.X F.G (F.c.d.fact 16 (f := .free "range") rfl)) (da_cons de_int da_nil)) (dg_name (pg_name SC.nd rfl (by first | exact Or.inl rfl | exact Or.inr rfl))) (dss_cons (ds_set (ps_set SC.nd rfl (by first | exact Or.inl rfl | exact Or.inr rfl) (de_ix rfl (de_var (pv 3)) (de_var (pv 6)) (fun _ _ => rfl))))
    (dss_cons (ds_set (ps_set SC.nd rfl (by first | exact Or.inl rfl | exact Or.inr rfl) (de_ix rfl (de_var (pv 3)) (de_minus de_int (de_var (pv 6))) (fun _ _ => rfl))))
    (dss_cons (ds_set (ps_set SC.nd rfl (by first | exact Or.inl rfl | exact Or.inr rfl) (de_lst (da_cons (de_ix rfl (de_var (pv 5)) (de_var (pv 6)) (fun _ _ => rfl)) (da_cons (de_ix rfl (de_var (pv 5)) (de_minus de_int (de_var (pv 6))) (fun _ _ => rfl)) da_nil)))))
    (dss_cons (ds_set (ps_set SC.nd rfl (by first | exact Or.inl rfl | exact Or.inr rfl) (de_cal rfl (cal_law_rest F) hr tkc (by decide) rfl (da_cons (de_ix rfl (de_var (pv 8)) de_int (fun _ _ => rfl)) (da_cons (de_ix rfl (de_var (pv 8)) de_int (fun _ _ => rfl)) da_nil)))))
    (dss_cons (ds_if (dt_w (dw_or (dt_ne rfl hr (de_cal rfl (cal_law_asked F) hr tkc (by decide) rfl (da_cons (de_var (pv 4)) (da_cons (de_var (pv 7)) da_nil))) (de_var (pv 9))) (dw_or1 (dt_ne rfl hr (de_cal rfl (cal_law_asked F) hr tkc (by decide) rfl (da_cons (de_var (pv 4)) (da_cons (de_var (pv 7)) da_nil))) (de_var (pv 9)))))) (dss_one (ds_return de_bl)) dss_nil)
    (dss_one (ds_if (dt_w (dw_and (dt_eq rfl hr (de_len rfl rfl (He.free_ok F.X F.G (F.c.d.fact 15 (f := .free "len") rfl)) (da_cons (de_var (pv 9)) da_nil)) de_int) (dw_and1 (dt_le (de_cal rfl (cal_law_common F) hr tkc (by decide) rfl (da_cons (de_ix rfl (de_ix rfl (de_var (pv 8)) de_int (fun _ _ => rfl)) de_int (fun _ _ => rfl)) (da_cons (de_ix rfl (de_ix rfl (de_var (pv 8)) de_int (fun _ _ => rfl)) de_int (fun _ _ => rfl)) da_nil))) de_int)))) (dss_one (ds_if (dt_not (dt_val (de_cal rfl (cal_law_residual F) hr tkc (by decide) rfl (da_cons (de_var (pv 1)) (da_cons (de_var (pv 4)) (da_cons (de_var (pv 7)) (da_cons (de_var (pv 8)) (da_cons (de_var (pv 9)) da_nil)))))))) (dss_one (ds_return de_bl)) dss_nil)) dss_nil))))))))
    (dss_one (ds_return (de_and (de_cal rfl (cal_law_far F) hr tkc (by decide) rfl (da_cons (de_var (pv 1)) da_nil)) (de_one (de_eq rfl hr (de_comp rfl (by decide) (pe_lc (own := [("curve", 10)]) rfl SC.nd (di_seq rfl (de_var (pv 3))) (blkOk_by (by kernel_rfl)) (fun _ _ _ _ _ => pg_name SC.nd rfl (by first | exact Or.inl rfl | exact Or.inr rfl)) (fun _ _ _ _ _ => dts_nil) (fun _ _ _ _ _ => (de_cal rfl (cal_law_shown F) hr takesF (by decide) rfl (da_cons (de_var (pv 10)) da_nil))))) (de_var (pv 5))))))))))))

end
abbrev R : PySem.W.OpenRow := PySem.W.OpenLaw.row PySem.Challenge.rw_promisedflows_k04_deconvolution_residual
abbrev hk : PySem.W.Hook := hookV file 5 fa fn fx ex
def ob (s : PySem.W.SharedT) : AlV := obsV file 5 fa fn fx ex (HandSHeadRun.getT s)
theorem ob_eq (s : PySem.W.SharedT) : ob s = hk.obs s.abs := obsV_eq (HandSHeadRun.getT_eq s)
abbrev qv : Program := PySem.W.view R.prog [0, 62]
def names : List PySem.Str := (["_wall", "FlowError", "OutOfRange", "TooMany", "TooLong", "BadValue", "Unbounded", "bounds", "reduced", "LONG", "MOST", "Curve", "_least_period", "_canonical", "_first_fall", "loose", "made", "first_numbers", "gain_in", "common_period", "deconvolved", "first_above", "nowhere_above", "_last_below", "_told_ticks", "least", "_best_shifted", "convolved", "_law_mixed", "_law_pool"] : List PySem.Str) ++ (["_law_draw", "_law_number", "_law_repeats", "_law_whole", "_law_shown", "_law_row", "_law_due", "_law_limit", "_law_common", "_law_family", "_law_folded", "_law_met", "_law_rest", "_law_asked", "_law_both", "_law_said", "_law_below", "_law_base", "_law_long", "_law_two", "_law_beside", "_law_residual", "_law_far"] : List PySem.Str)
end K04

set_option Elab.async false
set_option linter.all false
set_option maxRecDepth 100000
set_option maxHeartbeats 400000
/-! k00: the draws -/
namespace K04
open PySem PySem.Spec PyProof.Rows L2 VL
theorem draw_ok {M : Store} {n : Nat} {m : Int} (hp : Pool M n) (h0 : 0 < m) (h1 : m.natAbs.log2 < 9000) :
    ∃ (v : Int) (M' : Store), 0 ≤ v ∧ v < m ∧ ph_law_draw [.l n, .t (.int m)] M = .ok (.t (.int v)) M' ∧ Pst n M M' := by
  obtain ⟨ps, hne, hnn, e⟩ := hp
  obtain ⟨qs, x, rfl⟩ : ∃ qs x, ps = qs ++ [x] := by
    rcases List.eq_nil_or_concat ps with h | ⟨l, b, h⟩
    · exact absurd h hne
    · exact ⟨l, b, by simpa using h⟩
  have hn : n < M.length := (List.getElem?_eq_some_iff.mp e).1
  have hx : 0 ≤ x := hnn x (by simp)
  simp only [List.map_append, List.map_cons, List.map_nil] at e
  have hlt := Int.emod_lt_of_pos x h0
  have hge := Int.emod_nonneg x (Int.ne_of_gt h0)
  refine ⟨x % m, ?_⟩
  unfold ph_law_draw
  rw [fnSem_ap]
  unfold m_law_draw
  have e2 : ∀ y : D, (M.set n (.lst (qs.map D.int ++ [y])))[n]? = some (.lst (qs.map D.int ++ [y])) := fun y => by rw [List.getElem?_set_self hn]
  simp [e, e_mod h0, e_fdiv h0 h1, kSetI_last e, e_ixC e, e2, e_ixC (e2 _), e_lenC (e2 _)]
  refine ⟨hge, hlt, ?_⟩
  have keep : Pst n M (M.set n (.lst ((qs ++ [x / m]).map D.int))) :=
    ⟨⟨qs ++ [x / m], by simp, fun y hy => by
      rcases List.mem_append.mp hy with h | h
      · exact hnn y (List.mem_append_left _ h)
      · have : y = x / m := by simpa using h
        rw [this]; exact Int.ediv_nonneg hx (Int.le_of_lt h0), by rw [List.getElem?_set_self hn]⟩, _, rfl⟩
  by_cases hz : x / m = 0
  · by_cases hl : (1 : Int) < (qs.length : Int) + 1
    · have hp := e_pop (M := M.set n (.lst (qs.map D.int ++ [D.int (x / m)]))) (d := D.int (x / m)) (e2 _) (by simp)
      simp [hz, e2, e_lenC (e2 _), hl] at hp ⊢
      simp [hp, cutM_same]
      refine ⟨⟨qs, ?_, fun y hy => hnn y (List.mem_append_left _ hy), ?_⟩, qs, by simp⟩
      · intro hq; subst hq; simp at hl
      · simp [hn]
    · simp [hz, e2, e_lenC (e2 _), hl, cutM_same]
      simpa [hz] using keep
  · simp [hz, cutM_same]
    simpa using keep

theorem mixed_ok {M : Store} {c p : Int} (hc : c.natAbs < 2 ^ 100) (hp : p.natAbs < 2 ^ 100) :
    ∃ v : Int, 0 ≤ v ∧ ph_law_mixed [.t (.int c), .t (.int p)] M = .ok (.t (.int v)) M := by
  have hP : (0 : Int) < 10 ^ 60 + 7 := by decide
  unfold ph_law_mixed
  rw [fnSem_ap]
  unfold m_law_mixed
  have t1 := e_timesB (M := M) (i := c) (j := 31415926535897932384626433832795028841971693993751) (k := 100) (l := 200) hc (by decide) (by omega) (by omega) (by omega)
  have t2 := e_timesB (M := M) (i := p) (j := 6962179) (k := 100) (l := 30) hp (by decide) (by omega) (by omega) (by omega)
  have pw : oPowW (.t (.int 10)) (.t (.int 60)) M = .ok (.t (.int (10 ^ 60))) M := e_pow10 60 (by omega)
  generalize hf : (c * 31415926535897932384626433832795028841971693993751 + p * 6962179 + 57721566490153286060651209008240243104215933593992) % (10 ^ 60 + 7) = f
  have h0 : 0 ≤ f := by rw [← hf]; exact Int.emod_nonneg _ (by decide)
  have h1 : f < 10 ^ 60 + 7 := by rw [← hf]; exact Int.emod_lt_of_pos _ hP
  have hb : f.natAbs < 2 ^ 200 := by omega
  have t3 := e_timesB (M := M) (i := f) (j := f) (k := 200) (l := 200) hb hb (by omega) (by omega) (by omega)
  have hb2 : (f * f).natAbs < 2 ^ 400 := by
    rw [Int.natAbs_mul]
    calc f.natAbs * f.natAbs < 2 ^ 200 * 2 ^ 200 := Nat.mul_lt_mul'' hb hb
      _ = 2 ^ 400 := by rw [← Nat.pow_add]
  have t4 := e_timesB (M := M) (i := f * f) (j := f) (k := 400) (l := 200) hb2 hb (by omega) (by omega) (by omega)
  refine ⟨f * f * f % (10 ^ 60 + 7), Int.emod_nonneg _ (by decide), ?_⟩
  have m1 := e_mod (M := M) (i := c * 31415926535897932384626433832795028841971693993751 + p * 6962179 + 57721566490153286060651209008240243104215933593992) hP
  rw [hf] at m1
  have m2 := e_mod (M := M) (i := f * f * f) hP
  simp [-Int.reducePow, -Int.reduceAdd, t1, t2, pw, m1, t3, t4, m2, cutM_same]
theorem pool_ok {M : Store} (hM : Pl M) {ns : List Int} (hn : ns.length ≤ 63) :
    ∃ ps : List Int, ps ≠ [] ∧ (∀ x ∈ ps, 0 ≤ x) ∧ ph_law_pool [.t (.scr (ns.map .int))] M = .ok (.f (.lst (ps.map .int))) M := by
  unfold ph_law_pool
  rw [fnSem_ap]
  unfold m_law_pool
  have ec : cutD (ns.map D.int) none (some 63) = ns.map D.int := by
    rw [cutD_to (i := 63) (k := 63) rfl, List.take_of_length_le (by simpa using hn)]
  simp -implicitDefEqProofs [-List.append_assoc, -List.map_map, ec]
  rw [comp_ints (fun i => (i.natAbs : Int)) hM rfl (by omega) (fun i acc _ => by simp)]
  have hcs : ∀ x ∈ ns.map (fun i => (i.natAbs : Int)), 0 ≤ x := fun x hx => by
    obtain ⟨i, _, rfl⟩ := List.mem_map.mp hx
    omega
  have hcl : (ns.map (fun i => (i.natAbs : Int))).length ≤ 63 := by simpa using hn
  generalize ns.map (fun i => (i.natAbs : Int)) = cs at hcs hcl
  simp -implicitDefEqProofs [-List.append_assoc, -List.map_map]
  rw [comp_ints (fun i => i % 1000003) hM rfl (by omega) (fun i acc _ => by simp [e_mod])]
  have hms : ∀ x ∈ cs.map (fun i => i % 1000003), 0 ≤ x ∧ x < 1000003 := fun x hx => by
    obtain ⟨i, _, rfl⟩ := List.mem_map.mp hx
    omega
  have hml : (cs.map (fun i => i % 1000003)).length ≤ 63 := by simpa using hcl
  generalize cs.map (fun i => i % 1000003) = ms at hms hml
  have hs : 0 ≤ ms.sum ∧ ms.sum ≤ 63 * 1000003 := by
    have key : ∀ l : List Int, (∀ x ∈ l, 0 ≤ x ∧ x < 1000003) → 0 ≤ l.sum ∧ l.sum ≤ l.length * 1000003 := by
      intro l
      induction l with
      | nil => intro _; simp
      | cons x l ih =>
        intro h
        have h1 := h x (by simp)
        have h2 := ih fun y hy => h y (List.mem_cons_of_mem _ hy)
        simp only [List.sum_cons, List.length_cons]
        omega
    have := key ms hms
    omega
  generalize hT : ms.sum + (cs.length : Int) = T
  have hb : T.natAbs < 2 ^ 100 := by omega
  obtain ⟨v1, p1, c1⟩ := mixed_ok (M := M) (c := T) (p := 65) hb (by decide)
  obtain ⟨v2, p2, c2⟩ := mixed_ok (M := M) (c := T) (p := 64) hb (by decide)
  obtain ⟨v3, p3, c3⟩ := mixed_ok (M := M) (c := T) (p := 63) hb (by decide)
  simp -implicitDefEqProofs [-List.append_assoc, -List.map_map, e_sum, hT, c1, c2, c3]
  rw [kRange1_of (by omega) (by omega)]
  simp -implicitDefEqProofs [-List.append_assoc, -List.map_map]
  have fr := for_all (ds := rangeD 0 cs.length) (t := tgN 5) (m0 := M.length + 1) (body := vSeq (vAsg (vOp oSub (vOp oSub (vCall fLen (vCons (vVar 1) vNil)) (vC (D.int 1))) (vVar 5)) (tgN 6))
                  (vIfS (vTest (vOp oLt (vOp oIx (vVar 1) (vVar 6)) (vOp oPowW (vC (D.int 10)) (vC (D.int 18)))))
                    (vDrop
                      (vMt mAppend (vVar 4)
                        (vCons (vDef 2 ph_law_mixed (vCons (vOp oIx (vVar 1) (vVar 6)) (vCons (vVar 6) vNil))) vNil)))
                    (vDrop
                      (vMt mAppend (vVar 4)
                        (vCons
                          (vOp oMod (vOp oIx (vVar 1) (vVar 6))
                            (vOp oPowW (vOp oPowW (vC (D.int 10)) (vC (D.int 60))) (vC (D.int 5))))
                          vNil)))))
    (fun i Γ M' => ∃ x5 x6 ps, ps ≠ [] ∧ (∀ x ∈ ps, 0 ≤ x) ∧ ps.length ≤ 4 + i ∧ Γ = [some (Wv.t (D.scr (List.map D.int ns))), some (Wv.t (D.lst (List.map D.int cs))), none, some (Wv.t (D.int T)), some (Wv.l (List.length M)), x5, x6] ∧ M' = M ++ [.lst (List.map D.int ps)])
    (fun i Γ M' ⟨_, _, ps, _, _, _, _, e⟩ => by rw [e]; simp)
    (fun i d Γ M' hd ⟨x5, x6, ps, h1, h2, h3, h4, h5⟩ => by
      obtain ⟨hi, rfl⟩ := rangeD_get0 hd
      subst h4 h5
      have g1 : (M ++ [Cel.lst (List.map D.int ps)])[M.length]? = some (.lst (List.map D.int ps)) := by simp
      have ha : L2.atI (cs.map D.int) ((cs.length : Int) - 1 - (i : Int)) = some (D.int cs[cs.length - 1 - i]) := by
        rw [atI_nat (k := cs.length - 1 - i) (by omega) (by simp; omega)]
        simp
      have hpos : 0 ≤ cs[cs.length - 1 - i] := hcs _ (List.getElem_mem _)
      have sm : ps.length < 16777216 := by omega
      have pw : ∀ M : Store, oPowW (.t (.int 10)) (.t (.int 18)) M = .ok (.t (.int (10 ^ 18))) M := fun M => e_pow10 18 (by omega)
      have pw2 : ∀ M : Store, oPowW (.t (.int 10)) (.t (.int 60)) M = .ok (.t (.int (10 ^ 60))) M := fun M => e_pow10 60 (by omega)
      generalize cs[cs.length - 1 - i] = y at ha hpos
      have l1 : ∀ v : Int, 0 ≤ v → ∃ x5 x6 ps', ps' ≠ [] ∧ (∀ x ∈ ps', 0 ≤ x) ∧ ps'.length ≤ 4 + (i + 1) ∧ [some (Wv.t (D.scr (List.map D.int ns))), some (Wv.t (D.lst (List.map D.int cs))), none, some (Wv.t (D.int T)), some (Wv.l (List.length M)), some (Wv.t (D.int (i : Int))), some (Wv.t (D.int ((cs.length : Int) - 1 - (i : Int))))] = [some (Wv.t (D.scr (List.map D.int ns))), some (Wv.t (D.lst (List.map D.int cs))), none, some (Wv.t (D.int T)), some (Wv.l (List.length M)), x5, x6] ∧
          M ++ [.lst (List.map D.int ps ++ [.int v])] = M ++ [.lst (List.map D.int ps')] := fun v hv => ⟨_, _, ps ++ [v], by simp, fun x hx => by
            rcases List.mem_append.mp hx with h | h
            · exact h2 x h
            · have : x = v := by simpa using h
              rw [this]; exact hv, by simp; omega, rfl, by simp⟩
      have ap : ∀ v : Int, mAppend M.length [.t (.int v)] (M ++ [Cel.lst (List.map D.int ps)]) = .ok (.t .non) (M ++ [.lst (List.map D.int ps ++ [.int v])]) := fun v => by
        rw [e_append g1 (by simpa using sm)]
        simp
      unfold turnR
      by_cases hy : y < 10 ^ 18
      · obtain ⟨v, pv, cv⟩ := mixed_ok (M := M ++ [Cel.lst (List.map D.int ps)]) (c := y) (p := (cs.length : Int) - 1 - (i : Int)) (by omega) (by omega)
        refine ⟨_, _, ?_, l1 v pv⟩
        simp -implicitDefEqProofs [-List.append_assoc, -Int.reducePow, ha, pw, hy, cv, ap]
      · refine ⟨_, _, ?_, l1 (y % (10 ^ 60) ^ 5) (Int.emod_nonneg _ (by decide))⟩
        have pw3 : ∀ M : Store, oPowW (.t (.int (10 ^ 60))) (.t (.int 5)) M = .ok (.t (.int ((10 ^ 60) ^ 5))) M := fun M => e_pow (by omega) (by omega) (Nat.lt_of_lt_of_le (show (10 ^ 60 : Int).natAbs < 2 ^ 200 by decide) (Nat.pow_le_pow_right (by omega) (by omega)))
        simp -implicitDefEqProofs [-List.append_assoc, -Int.reducePow, ha, pw, pw2, pw3, hy, ap, e_mod (show (0 : Int) < (10 ^ 60) ^ 5 by decide)])
    (Γ := [some (Wv.t (D.scr (List.map D.int ns))), some (Wv.t (D.lst (List.map D.int cs))), none, some (Wv.t (D.int T)), some (Wv.l (List.length M)), none, none])
    (M := M ++ [Cel.lst [D.int 0, D.int v1, D.int v2, D.int v3]])
    ⟨none, none, [0, v1, v2, v3], by simp, by simp [p1, p2, p3], by simp, rfl, rfl⟩
  obtain ⟨Γ', M', e1, x5, x6, ps, q1, q2, q3, q4, q5⟩ := fr
  refine ⟨ps, q1, q2, ?_⟩
  rw [e1]
  subst q4 q5
  simp [cutM_app hM]
end K04


set_option Elab.async false
set_option linter.all false
set_option maxRecDepth 100000
set_option maxHeartbeats 400000
/-! k00: what is drawn -/
namespace K04
open PySem PySem.Spec PyProof.Rows L2 VL
theorem draw_app {M : Store} {T : Store} {n : Nat} {m : Int} (hp : Pool M n) (h0 : 0 < m) (h1 : m < 4611686018427387904) :
    ∃ (v : Int) (M' : Store), 0 ≤ v ∧ v < m ∧ ph_law_draw [.l n, .t (.int m)] (M ++ T) = .ok (.t (.int v)) (M' ++ T) ∧ Pst n M M' := by
  obtain ⟨v, M', a, b, c, d⟩ := draw_ok (M := M ++ T) (hp.app) h0 (by have := log2_lt (n := m.natAbs) (k := 62) (by omega) (by omega); omega)
  obtain ⟨M1, rfl, q⟩ := d.app hp.lt
  exact ⟨v, M1, a, b, c, q⟩
theorem draw_at {M : Store} {n : Nat} {m : Int} (hp : Pool M n) (h0 : 0 < m) (h1 : m < 4611686018427387904) :
    ∃ (v : Int) (M' : Store), 0 ≤ v ∧ v < m ∧ ph_law_draw [.l n, .t (.int m)] M = .ok (.t (.int v)) M' ∧ Pst n M M' :=
  draw_ok hp h0 (by have := log2_lt (n := m.natAbs) (k := 62) (by omega) (by omega); omega)
theorem comp_draw {ds : List D} {j n : Nat} {elt : SemE} {Γ : VEnv} {M : Store} {lo hi : Int} (hM : Pl M) (hp : Pool M n) (hl : ds.length ≤ 16777216)
    (step : ∀ d acc M', Pool M' n → M'.length = M.length → ∃ v M2, lo ≤ v ∧ v ≤ hi ∧ elt (Γ.set j (some (.t d))) (M' ++ [.lst acc]) = .ok (.t (.int v)) (M2 ++ [.lst acc]) ∧ Pst n M' M2) :
    ∃ (xs : List Int) (M' : Store), xs.length = ds.length ∧ (∀ x ∈ xs, lo ≤ x ∧ x ≤ hi) ∧ compL ⟨ds, none⟩ (.nm j) vYes elt M.length Γ ds (M ++ [.lst []]) = .ok (.f (.lst (xs.map .int))) M' ∧ Pst n M M' := by
  obtain ⟨acc, M', e, xs, h1, h2, h3, h4⟩ := comp_rule (ds := ds) (b := .nm j) (cond := vYes) (elt := elt) (k := M.length) (Γ := Γ)
    (fun i acc M' => ∃ xs : List Int, acc = xs.map .int ∧ xs.length = i ∧ (∀ x ∈ xs, lo ≤ x ∧ x ≤ hi) ∧ Pst n M M')
    (fun i acc M' ⟨xs, h1, h2, h3, h4⟩ => ⟨h4.len, h4.pl hM, by rw [h1, List.length_map, h2]; exact Nat.le_refl _⟩) hl
    (fun i d acc M' hd ⟨xs, h1, h2, h3, h4⟩ => by
      obtain ⟨v, M2, a, b, c, q⟩ := step d acc M' h4.pool h4.len
      refine ⟨_, rfl, .inr ⟨_, _, .int v, M2, rfl, c, rfl, xs ++ [v], by rw [h1]; simp, by simp [h2], fun x hx => ?_, h4.trans q⟩⟩
      rcases List.mem_append.mp hx with h | h
      · exact h3 x h
      · have : x = v := by simpa using h
        rw [this]; exact ⟨a, b⟩)
    (M := M) ⟨[], rfl, rfl, by simp, Pst.refl hp⟩
  exact ⟨xs, M', h2, h3, by rw [e, h1], h4⟩
/-- a row as data -/
abbrev T3 (ns : List Int) (p r : Int) : D := .tup [.lst (ns.map .int), .int p, .int r]
/-- what the drawn rows are -/
structure Row (b : Int) (ns : List Int) (p r : Int) : Prop where
  l0 : 1 ≤ ns.length
  l1 : ns.length ≤ 3000
  p0 : 1 ≤ p
  p1 : p ≤ ns.length
  nb : ∀ x ∈ ns, -b ≤ x ∧ x ≤ b
  r0 : -b ≤ r
  r1 : r ≤ b
theorem cell0 {M : Store} {c : Cel} {T : Store} {k : Nat} (h : M.length = k) : (M ++ c :: T)[k]? = some c := by
  subst h; simp
theorem set0 {M : Store} {c d : Cel} {T : Store} {k : Nat} (h : M.length = k) : (M ++ c :: T).set k d = M ++ d :: T := by
  subst h; simp
theorem mem_snoc {α : Type} {xs : List α} {x v : α} (h : x ∈ xs ++ [v]) : x ∈ xs ∨ x = v := by simpa using h
theorem mem_set' {xs : List Int} {k : Nat} {v x : Int} (h : x ∈ xs.set k v) : x ∈ xs ∨ x = v := List.mem_or_eq_of_mem_set h
end K04


set_option Elab.async false
set_option linter.all false
set_option maxRecDepth 100000
set_option maxHeartbeats 400000
/-! k00: rows that go on -/
namespace K04
open PySem PySem.Spec PyProof.Rows L2 VL
/-- the promised value at t -/
def fS (ns : List Int) (p : Nat) (r : Int) (t : Nat) : Int := if t < ns.length then ns.getD t 0 else ns.getD (t - ((t - ns.length) / p + 1) * p) 0 + (((t - ns.length) / p + 1 : Nat) : Int) * r
theorem fS_lt {ns : List Int} {p : Nat} {r : Int} {t : Nat} (h : t < ns.length) : fS ns p r t = ns[t] := by
  unfold fS; rw [if_pos h]; simp [h]
theorem fS_ge {ns : List Int} {p : Nat} {r : Int} {t : Nat} (hp : 0 < p) (hn : p ≤ ns.length) (h : ns.length ≤ t) : fS ns p r t = fS ns p r (t - p) + r := by
  by_cases h2 : t - p < ns.length
  · have q : (t - ns.length) / p = 0 := Nat.div_eq_of_lt (by omega)
    unfold fS
    rw [if_neg (by omega), if_pos h2, q]
    simp
  · obtain ⟨k, hk⟩ : ∃ k, t = ns.length + p + k := ⟨t - p - ns.length, by omega⟩
    subst hk
    have q1 : (ns.length + p + k - ns.length) / p = k / p + 1 := by
      rw [show ns.length + p + k - ns.length = k + p by omega, Nat.add_div_right _ hp]
    have q2 : (ns.length + p + k - p - ns.length) / p = k / p := by
      rw [show ns.length + p + k - p - ns.length = k by omega]
    unfold fS
    rw [if_neg (by omega), if_neg (by omega), q1, q2]
    have e : ns.length + p + k - (k / p + 1 + 1) * p = ns.length + p + k - p - (k / p + 1) * p := by
      rw [Nat.add_mul (k / p + 1) 1 p, Nat.one_mul]; omega
    rw [e, Int.add_assoc]
    congr 1
    push_cast
    rw [Int.add_mul _ 1 r, Int.one_mul]
def rowL (ns : List Int) (p : Nat) (r : Int) (k : Nat) : List Int := (List.range k).map (fS ns p r)
@[simp] theorem rowL_len (ns : List Int) (p : Nat) (r : Int) (k : Nat) : (rowL ns p r k).length = k := by simp [rowL]
theorem rowL_get {ns : List Int} {p : Nat} {r : Int} {k t : Nat} (h : t < k) : (rowL ns p r k)[t]? = some (fS ns p r t) := by
  unfold rowL
  rw [List.getElem?_map, List.getElem?_range h]
  rfl
theorem rowL_self (ns : List Int) (p : Nat) (r : Int) : rowL ns p r ns.length = ns := by
  refine List.ext_getElem? fun i => ?_
  by_cases h : i < ns.length
  · rw [rowL_get h, fS_lt h]; simp [h]
  · rw [List.getElem?_eq_none (by simp; omega), List.getElem?_eq_none (by omega)]
theorem rowL_succ (ns : List Int) (p : Nat) (r : Int) (k : Nat) : rowL ns p r (k + 1) = rowL ns p r k ++ [fS ns p r k] := by
  unfold rowL
  rw [List.range_succ, List.map_append]
  rfl
/-- reading a list of ints -/
theorem atI_ints {xs : List Int} {i : Int} {k : Nat} {v : Int} (e : i = (k : Int)) (h : xs[k]? = some v) : L2.atI (xs.map D.int) i = some (.int v) := by
  rw [atI_nat (k := k) e (by rw [List.length_map]; exact (List.getElem?_eq_some_iff.mp h).1), List.getElem?_map, h]
  rfl
end K04


set_option Elab.async false
set_option linter.all false
set_option maxRecDepth 100000
set_option maxHeartbeats 400000
/-! k00: what the law reckons -/
namespace K04
open PySem PySem.Spec PyProof.Rows L2 VL
def rowG (g : Nat → Int) (K : Nat) : List Int := (List.range K).map g
@[simp] theorem rowG_len (g : Nat → Int) (K : Nat) : (rowG g K).length = K := by simp [rowG]
theorem rowG_at {g : Nat → Int} {K k : Nat} {i : Int} (e : i = (k : Int)) (h : k < K) : L2.atI ((rowG g K).map D.int) i = some (.int (g k)) := by
  refine atI_ints e ?_
  unfold rowG
  rw [List.getElem?_map, List.getElem?_range h]
  rfl
/-- every turn of `many` ticks from s on, k ticks later, goes up by one step -/
def Rep (g : Nat → Int) (s k m : Nat) : Prop := ∀ t, s ≤ t → t < s + m → g (t + k) - g t = g (s + k) - g s
theorem repeats_ok {M : Store} {g : Nat → Int} {K s k m : Nat} (h0 : 0 < m) (h1 : s + m + k ≤ K) (h2 : K ≤ 1000000) :
    ∃ b : Bool, ph_law_repeats [.t (.lst ((rowG g K).map .int)), .t (.int (s : Int)), .t (.int (k : Int)), .t (.int (m : Int))] M = .ok (.t (.bl b)) M ∧ (b = true ↔ Rep g s k m) := by
  unfold ph_law_repeats
  rw [fnSem_ap]
  unfold m_law_repeats
  have ge : ∀ {i : Int} (j : Nat), i = (j : Int) → j < K → L2.atI ((rowG g K).map D.int) i = some (.int (g j)) := fun j e h => rowG_at e h
  have hm : ((s : Int) + (m : Int)).toNat - s = m := by omega
  simp -implicitDefEqProofs [-List.append_assoc, -Bool.exists_bool, ge (i := (s : Int) + (k : Int)) (s + k) (by omega) (by omega), ge (i := (s : Int)) s rfl (by omega)]
  rw [kRange2_of (by omega) (by omega) (by omega) (by omega)]
  simp -implicitDefEqProofs [-List.append_assoc, -Bool.exists_bool, hm]
  have fr := for_rule (ds := rangeD (s : Int) m) (t := tgN 5) (m0 := M.length) (body := vIfS (vTest (vOp oNe (vOp oSub (vOp oIx (vVar 0) (vOp oPlus (vVar 5) (vVar 2))) (vOp oIx (vVar 0) (vVar 5))) (vVar 4))) (vRet (vC (D.bl false))) vNext)
    (fun i Γ M' => ∃ x5, Γ = [some (Wv.t (D.lst ((rowG g K).map .int))), some (Wv.t (D.int (s : Int))), some (Wv.t (D.int (k : Int))), some (Wv.t (D.int (m : Int))), some (Wv.t (D.int (g (s + k) - g s))), x5] ∧ M' = M ∧ ∀ t, s ≤ t → t < s + i → g (t + k) - g t = g (s + k) - g s)
    (fun x => (∃ Γ', x = .ok (.rt (.t (.bl false))) Γ' M) ∧ ¬ Rep g s k m)
    (fun i Γ M' ⟨_, _, e, _⟩ => by rw [e])
    (fun i d Γ M' hd ⟨x5, g1, g2, g3⟩ => by
      obtain ⟨hi, rfl⟩ := rangeD_get hd
      subst g1 g2
      have a1 := ge (i := (s : Int) + (i : Int) + (k : Int)) (s + i + k) (by omega) (by omega)
      have a2 := ge (i := (s : Int) + (i : Int)) (s + i) (by omega) (by omega)
      unfold turnR
      by_cases hq : g (s + i + k) - g (s + i) = g (s + k) - g s
      · refine .inl ⟨_, _, .inl ?_, some (.t (.int ((s : Int) + (i : Int)))), rfl, rfl, fun t h1 h2 => ?_⟩
        · simp -implicitDefEqProofs [-List.append_assoc, a1, a2, hq]
        · by_cases e : t = s + i
          · rw [e]; exact hq
          · exact g3 t h1 (by omega)
      · refine .inr (.inl ⟨.t (.bl false), [some (Wv.t (D.lst ((rowG g K).map .int))), some (Wv.t (D.int (s : Int))), some (Wv.t (D.int (k : Int))), some (Wv.t (D.int (m : Int))), some (Wv.t (D.int (g (s + k) - g s))), some (.t (.int ((s : Int) + (i : Int))))], M', ?_, ⟨_, rfl⟩, fun h => hq (h (s + i) (by omega) (by omega))⟩)
        simp -implicitDefEqProofs [-List.append_assoc, a1, a2, hq])
    (Γ := [some (Wv.t (D.lst ((rowG g K).map .int))), some (Wv.t (D.int (s : Int))), some (Wv.t (D.int (k : Int))), some (Wv.t (D.int (m : Int))), some (Wv.t (D.int (g (s + k) - g s))), none]) (M := M)
    ⟨none, rfl, rfl, fun t h1 h2 => by omega⟩
  rw [rangeD_len] at fr
  rcases fr with ⟨Γ', M', e, x5, g1, g2, g3⟩ | ⟨⟨Γ', e⟩, hn⟩
  · subst g1 g2
    refine ⟨true, ?_, ⟨fun _ => g3, fun _ => rfl⟩⟩
    rw [e]
    simp [cutM_same]
  · refine ⟨false, ?_, ⟨fun h => (Bool.false_ne_true h).elim, fun h => absurd h hn⟩⟩
    rw [e]
    simp [cutM_same]
end K04


set_option Elab.async false
set_option linter.all false
set_option maxRecDepth 100000
set_option maxHeartbeats 400000
/-! k00: the whole of a row -/
namespace K04
open PySem PySem.Spec PyProof.Rows L2 VL
abbrev nD (k : Nat) : D := .int (k : Int)
theorem comp_nats {xs : List Nat} {j k : Nat} {cond : ES Bool} {elt : SemE} {Γ : VEnv} {M : Store} (P : Nat → Bool) (hM : Pl M) (hk : M.length = k) (hl : xs.length ≤ 16777216)
    (step : ∀ i acc, i ∈ xs → cond (Γ.set j (some (.t (nD i)))) (M ++ [.lst acc]) = .ok (P i) (M ++ [.lst acc]) ∧ (P i = true → elt (Γ.set j (some (.t (nD i)))) (M ++ [.lst acc]) = .ok (.t (nD i)) (M ++ [.lst acc]))) :
    compL ⟨xs.map nD, none⟩ (.nm j) cond elt k Γ (xs.map nD) (M ++ [.lst []]) = .ok (.f (.lst ((xs.filter P).map nD))) M := by
  subst hk
  have h := comp_pure (ds := xs.map nD) (b := .nm j) (cond := cond) (elt := elt) (Γ := Γ) (M := M) (fun d => match d with | .int i => P i.toNat | _ => false) (fun d => d) hM (by simpa using hl) (fun d acc hd => by
    obtain ⟨i, hi, rfl⟩ := List.mem_map.mp hd
    obtain ⟨s1, s2⟩ := step i acc hi
    refine ⟨_, rfl, by simpa using s1, fun hp => ⟨_, s2 (by simpa using hp), rfl⟩⟩)
  rw [h]
  congr 3
  rw [List.map_id', List.filter_map]
  rfl
theorem range_nats (s m : Nat) : rangeD (s : Int) m = ((List.range m).map (s + ·)).map nD := by
  unfold rangeD
  rw [List.map_map]
  exact List.map_congr_left fun i _ => by simp [nD]
/-- the parts of a period -/
def parts (p : Nat) : List Nat := ((List.range (p - 1)).map (1 + ·)).filter fun k => p % k == 0
theorem parts_mem {p k : Nat} : k ∈ parts p ↔ 1 ≤ k ∧ k < p ∧ p % k = 0 := by
  unfold parts
  rw [List.mem_filter, List.mem_map]
  constructor
  · rintro ⟨⟨i, hi, rfl⟩, h⟩
    have := List.mem_range.mp hi
    exact ⟨by omega, by omega, by simpa using h⟩
  · rintro ⟨h1, h2, h3⟩
    exact ⟨⟨k - 1, List.mem_range.mpr (by omega), by omega⟩, by simpa using h3⟩
theorem parts_sorted (p : Nat) : (parts p).Pairwise (· < ·) := by
  unfold parts
  refine List.Pairwise.filter _ ?_
  rw [List.pairwise_map]
  exact List.pairwise_lt_range.imp fun h => by omega
/-- the least part of the period that repeats -/
structure IsSz (g : Nat → Int) (s p z : Nat) : Prop where
  pos : 1 ≤ z
  le : z ≤ p
  dvd : p % z = 0
  rep : z = p ∨ Rep g s z p
  least : ∀ k, 1 ≤ k → k < z → p % k = 0 → ¬ Rep g s k p
/-- the head -/
structure IsHd (g : Nat → Int) (s z : Nat) (u : Int) (h : Nat) : Prop where
  le : h ≤ s
  go : ∀ j, h ≤ j → j < s → g (j + z) = g j + u
  stop : h = 0 ∨ g (h - 1 + z) ≠ g (h - 1) + u
/-- what `_law_whole` brings -/
def whole (g : Nat → Int) (z h : Nat) (u : Int) : D := .tup [.tup ((rowG g (h + z)).map .int), nD h, nD z, .int u, .tup [.int (u / (Nat.gcd u.natAbs z : Nat)), .int ((z : Int) / (Nat.gcd u.natAbs z : Nat))], .bl (decide (0 ≤ g 0 ∧ ∀ t, t < h + z → g t ≤ g (t + 1)))]
theorem whole_ok {M : Store} {g : Nat → Int} {K s p : Nat} (hM : Pl M) (h0 : 0 < p) (h1 : s + p + p ≤ K) (h2 : K ≤ 1000000) :
    ∃ z h, IsSz g s p z ∧ IsHd g s z (g (s + z) - g s) h ∧ ph_law_whole [.t (.lst ((rowG g K).map .int)), .t (nD s), .t (nD p)] M = .ok (.t (whole g z h (g (s + z) - g s))) M := by
  unfold ph_law_whole
  rw [fnSem_ap]
  unfold m_law_whole
  have ge : ∀ {i : Int} (j : Nat), i = (j : Int) → j < K → L2.atI ((rowG g K).map D.int) i = some (.int (g j)) := fun j e h => rowG_at e h
  simp -implicitDefEqProofs [-List.append_assoc]
  rw [kRange2_of (by omega) (by omega) (by omega) (by omega)]
  simp -implicitDefEqProofs [-List.append_assoc]
  have r1 : rangeD 1 (p - 1) = ((List.range (p - 1)).map (1 + ·)).map nD := range_nats 1 (p - 1)
  rw [r1, comp_nats (fun k => p % k == 0) hM rfl (by simp; omega) (fun i acc hi => by
    obtain ⟨j, hj, rfl⟩ := List.mem_map.mp hi
    have e : ((p : Int) % ((1 + j : Nat) : Int) = 0) = (p % (1 + j) = 0) := by
      rw [← Int.natCast_emod]
      exact propext ⟨fun h => by exact_mod_cast h, fun h => by exact_mod_cast h⟩
    constructor
    · simp -implicitDefEqProofs [-List.append_assoc, -Int.natCast_add, e_mod (i := (p : Int)) (j := ((1 + j : Nat) : Int)) (by omega), e]
      by_cases h : p % (1 + j) = 0 <;> simp [h]
    · intro _
      simp -implicitDefEqProofs [-List.append_assoc, -Int.natCast_add])]
  rw [show List.filter (fun k => p % k == 0) (List.map (1 + ·) (List.range (p - 1))) = parts p from rfl]
  simp -implicitDefEqProofs [-List.append_assoc]
  have hsort := List.pairwise_iff_getElem.mp (parts_sorted p)
  obtain ⟨Γ', M', e1, z, x4, g1, g2, g3⟩ := for_all (ds := (parts p).map nD) (t := tgN 4) (m0 := M.length) (body := vIfS (vAnd (vTest (vOp oEq (vVar 3) (vVar 2))) (vTest (vDef 4 ph_law_repeats (vCons (vVar 0) (vCons (vVar 1) (vCons (vVar 4) (vCons (vVar 2) vNil))))))) (vAsg (vVar 4) (tgN 3)) vNext)
    (fun i Γ M' => ∃ z x4, Γ = [some (Wv.t (D.lst (List.map D.int (rowG g K)))), some (Wv.t (nD s)), some (Wv.t (nD p)), some (Wv.t (nD z)), x4, none, none, none, none, none, none] ∧ M' = M ∧
      ((z = p ∧ ∀ k ∈ (parts p).take i, ¬ Rep g s k p) ∨ (1 ≤ z ∧ z < p ∧ p % z = 0 ∧ Rep g s z p ∧ ∀ k ∈ parts p, k < z → ¬ Rep g s k p)))
    (fun i Γ M' ⟨_, _, _, e, _⟩ => by rw [e])
    (fun i d Γ M' hd ⟨z, x4, g1, g2, g3⟩ => by
      rw [List.getElem?_map] at hd
      obtain ⟨k, hk, rfl⟩ := Option.map_eq_some_iff.mp hd
      obtain ⟨hil, hki⟩ := List.getElem?_eq_some_iff.mp hk
      obtain ⟨k1, k2, k3⟩ := parts_mem.mp (List.mem_of_getElem? hk)
      subst g1 g2
      have ht : (parts p).take (i + 1) = (parts p).take i ++ [k] := by rw [List.take_add_one, hk]; rfl
      unfold turnR
      rcases g3 with ⟨rfl, q⟩ | ⟨q1, q2, q3, q4, q5⟩
      · obtain ⟨b, e, hb⟩ := repeats_ok (M := M') (g := g) (K := K) (s := s) (k := k) (m := z) h0 (by omega) h2
        cases b with
        | true =>
          refine ⟨_, M', ?_, k, some (.t (nD k)), rfl, rfl, .inr ⟨k1, k2, k3, hb.mp rfl, fun j hj hjk => ?_⟩⟩
          · simp -implicitDefEqProofs [-List.append_assoc, e]
          · obtain ⟨a, ha, rfl⟩ := List.getElem_of_mem hj
            refine q _ (List.mem_take_iff_getElem.mpr ⟨a, ?_, rfl⟩)
            refine Nat.lt_min.mpr ⟨?_, ha⟩
            by_cases hai : i < a
            · have := hsort i a hil ha hai; omega
            · by_cases e : a = i
              · subst e; omega
              · omega
        | false =>
          refine ⟨_, M', ?_, z, some (.t (nD k)), rfl, rfl, .inl ⟨rfl, fun j hj => ?_⟩⟩
          · simp -implicitDefEqProofs [-List.append_assoc, e]
          · rw [ht] at hj
            rcases List.mem_append.mp hj with h | h
            · exact q j h
            · have : j = k := by simpa using h
              subst this
              exact fun hr => Bool.false_ne_true (hb.mpr hr)
      · refine ⟨_, M', ?_, z, some (.t (nD k)), rfl, rfl, .inr ⟨q1, q2, q3, q4, q5⟩⟩
        have ne : ¬ ((z : Int) = (p : Int)) := by omega
        simp -implicitDefEqProofs [-List.append_assoc, ne])
    (Γ := [some (Wv.t (D.lst (List.map D.int (rowG g K)))), some (Wv.t (nD s)), some (Wv.t (nD p)), some (Wv.t (nD p)), none, none, none, none, none, none, none]) (M := M)
    ⟨p, none, rfl, rfl, .inl ⟨rfl, by simp⟩⟩
  have hz : IsSz g s p z := by
    rw [List.length_map, List.take_length] at g3
    rcases g3 with ⟨rfl, q⟩ | ⟨q1, q2, q3, q4, q5⟩
    · exact ⟨h0, Nat.le_refl _, Nat.mod_self _, .inl rfl, fun k a b c => q k (parts_mem.mpr ⟨a, b, c⟩)⟩
    · exact ⟨q1, Nat.le_of_lt q2, q3, .inr q4, fun k a b c => q5 k (parts_mem.mpr ⟨a, by omega, c⟩) b⟩
  rw [e1]
  subst g1 g2
  have zp := hz.pos
  have zl := hz.le
  simp -implicitDefEqProofs [-List.append_assoc, ge (i := (s : Int) + (z : Int)) (s + z) (by omega) (by omega), ge (i := (s : Int)) s rfl (by omega)]
  generalize hu : g (s + z) - g s = u
  obtain ⟨Γ', M2, e2, h, g1, g2, g3⟩ := while_rule (m0 := M'.length) (t := vAnd (vTest (vOp oGt (vVar 1) (vC (D.int 0)))) (vTest (vOp oEq (vOp oIx (vVar 0) (vOp oPlus (vOp oSub (vVar 1) (vC (D.int 1))) (vVar 3))) (vOp oPlus (vOp oIx (vVar 0) (vOp oSub (vVar 1) (vC (D.int 1)))) (vVar 6)))))
    (body := vAsg (vOp oSub (vVar 1) (vC (D.int 1))) (tgN 1))
    (fun n Γ M => n ≤ s ∧ Γ = [some (Wv.t (D.lst (List.map D.int (rowG g K)))), some (Wv.t (nD n)), some (Wv.t (nD p)), some (Wv.t (nD z)), x4, none, some (.t (.int u)), none, none, none, none] ∧ M = M' ∧ ∀ j, n ≤ j → j < s → g (j + z) = g j + u)
    (fun Γ M => ∃ h, IsHd g s z u h ∧ Γ = [some (Wv.t (D.lst (List.map D.int (rowG g K)))), some (Wv.t (nD h)), some (Wv.t (nD p)), some (Wv.t (nD z)), x4, none, some (.t (.int u)), none, none, none, none] ∧ M = M')
    (fun n Γ M ⟨_, _, e, _⟩ => by rw [e])
    (fun n Γ M ⟨q1, q2, q3, q4⟩ => by
      subst q2 q3
      by_cases hn : n = 0
      · subst hn
        refine .inl ⟨?_, 0, ⟨q1, q4, .inl rfl⟩, rfl, rfl⟩
        simp -implicitDefEqProofs [-List.append_assoc]
      · have a1 := ge (i := (n : Int) - 1 + (z : Int)) (n - 1 + z) (by omega) (by omega)
        have a2 := ge (i := (n : Int) - 1) (n - 1) (by omega) (by omega)
        have pos : 0 < n := by omega
        by_cases hq : g (n - 1 + z) = g (n - 1) + u
        · refine .inr ⟨?_, n - 1, [some (Wv.t (D.lst (List.map D.int (rowG g K)))), some (Wv.t (nD (n - 1))), some (Wv.t (nD p)), some (Wv.t (nD z)), x4, none, some (.t (.int u)), none, none, none, none], M, by omega, ?_, by omega, rfl, rfl, fun j h1 h2 => ?_⟩
          · simp -implicitDefEqProofs [-List.append_assoc, a1, a2, hq, pos]
          · have e : ((n : Int) - 1) = ((n - 1 : Nat) : Int) := by omega
            simp -implicitDefEqProofs [-List.append_assoc, e]
          · by_cases e : j = n - 1
            · rw [e]; exact hq
            · exact q4 j (by omega) h2
        · refine .inl ⟨?_, n, ⟨q1, q4, .inr hq⟩, rfl, rfl⟩
          simp -implicitDefEqProofs [-List.append_assoc, a1, a2, hq, pos])
    (n := s) (Γ := [some (Wv.t (D.lst (List.map D.int (rowG g K)))), some (Wv.t (nD s)), some (Wv.t (nD p)), some (Wv.t (nD z)), x4, none, some (.t (.int u)), none, none, none, none]) (M := M')
    ⟨Nat.le_refl _, rfl, rfl, fun j h1 h2 => by omega⟩
  rw [e2]
  subst g2 g3
  have hh := g1.le
  simp -implicitDefEqProofs [-List.append_assoc, ge (i := 0) 0 rfl (by omega)]
  rw [kRange1_of (by omega) (by omega)]
  have hhz : ((h : Int) + (z : Int)).toNat = h + z := by omega
  simp -implicitDefEqProofs [-List.append_assoc, hhz]
  obtain ⟨Γ', M3, e3, rf, bst, x9, g2, g3, g4, g5, g6, g7, g8⟩ := for_all (ds := rangeD 0 (h + z)) (t := tgN 9) (m0 := M2.length) (body := (vSeq (vIfS (vTest (vOp oLt (vOp oIx (vVar 0) (vOp oPlus (vVar 9) (vC (D.int 1)))) (vOp oIx (vVar 0) (vVar 9)))) (vAsg (vC (D.bl false)) (tgN 7)) vNext)
      (vIfS (vAnd (vTest (vOp oLt (vVar 9) (vVar 3))) (vAnd (vTest (vOp oEq (vOp oMod (vCall fInt (vCons (vVar 3) vNil)) (vOp oPlus (vVar 9) (vC (D.int 1)))) (vC (D.int 0)))) (vTest (vOp oEq (vOp oMod (vCall fInt (vCons (vVar 6) vNil)) (vOp oPlus (vVar 9) (vC (D.int 1)))) (vC (D.int 0)))))) (vAsg (vOp oPlus (vVar 9) (vC (D.int 1))) (tgN 8)) vNext)))
    (fun i Γ M => ∃ (rf : Bool) (bst : Nat) (x9 : Option Wv), Γ = [some (Wv.t (D.lst (List.map D.int (rowG g K)))), some (Wv.t (nD h)), some (Wv.t (nD p)), some (Wv.t (nD z)), x4, none, some (Wv.t (D.int u)), some (.t (.bl rf)), some (.t (nD bst)), x9, none] ∧ M = M2 ∧
      (rf = true ↔ 0 ≤ g 0 ∧ ∀ t, t < i → g t ≤ g (t + 1)) ∧ 1 ≤ bst ∧ (z : Int) % (bst : Int) = 0 ∧ u % (bst : Int) = 0 ∧ ∀ k : Nat, 1 ≤ k → k ≤ i → k ≤ z → (z : Int) % (k : Int) = 0 → u % (k : Int) = 0 → k ≤ bst)
    (fun i Γ M ⟨_, _, _, _, e, _⟩ => by rw [e])
    (fun i d Γ M hd ⟨rf, bst, x9, q1, q2, q3, q4, q5, q6, q7⟩ => by
      obtain ⟨hi, rfl⟩ := rangeD_get0 hd
      subst q1 q2
      have a1 := ge (i := (i : Int) + 1) (i + 1) (by omega) (by omega)
      have a2 := ge (i := (i : Int)) i rfl (by omega)
      have m1 : ∀ j : Int, oMod (.t (.int j)) (.t (.int ((i : Int) + 1))) M = .ok (.t (.int (j % ((i : Int) + 1)))) M := fun j => e_mod (by omega)
      have rise : ∀ rf' : Bool, rf' = (rf && decide (g i ≤ g (i + 1))) → (rf' = true ↔ 0 ≤ g 0 ∧ ∀ t, t < i + 1 → g t ≤ g (t + 1)) := fun rf' e => by
        rw [e, Bool.and_eq_true, q3, decide_eq_true_eq]
        constructor
        · rintro ⟨⟨b1, b2⟩, b3⟩
          refine ⟨b1, fun t ht => ?_⟩
          by_cases e : t = i
          · rw [e]; exact b3
          · exact b2 t (by omega)
        · rintro ⟨b1, b2⟩
          exact ⟨⟨b1, fun t ht => b2 t (by omega)⟩, b2 i (by omega)⟩
      unfold turnR
      by_cases hb : (i < z ∧ (z : Int) % ((i : Int) + 1) = 0) ∧ u % ((i : Int) + 1) = 0
      · obtain ⟨⟨hb1, hb2⟩, hb3⟩ := hb
        have hb1' : (i : Int) < (z : Int) := by omega
        by_cases hr : g (i + 1) < g i
        · refine ⟨_, M, ?_, false, i + 1, some (.t (.int (i : Int))), rfl, rfl, rise false (by simp; omega), by omega, by push_cast; exact hb2, by push_cast; exact hb3, fun k c1 c2 c3 c4 c5 => by omega⟩
          simp -implicitDefEqProofs [-List.append_assoc, a1, a2, hr, m1, hb1, hb2, hb3]
        · refine ⟨_, M, ?_, rf, i + 1, some (.t (.int (i : Int))), rfl, rfl, rise rf (by simp; omega), by omega, by push_cast; exact hb2, by push_cast; exact hb3, fun k c1 c2 c3 c4 c5 => by omega⟩
          simp -implicitDefEqProofs [-List.append_assoc, a1, a2, hr, m1, hb1, hb2, hb3]
      · have keep : ∀ k : Nat, 1 ≤ k → k ≤ i + 1 → k ≤ z → (z : Int) % (k : Int) = 0 → u % (k : Int) = 0 → k ≤ bst := fun k c1 c2 c3 c4 c5 => by
          by_cases e : k = i + 1
          · subst e
            push_cast at c4 c5
            exact absurd ⟨⟨by omega, c4⟩, c5⟩ hb
          · exact q7 k c1 (by omega) c3 c4 c5
        by_cases hr : g (i + 1) < g i
        · refine ⟨_, M, ?_, false, bst, some (.t (.int (i : Int))), rfl, rfl, rise false (by simp; omega), q4, q5, q6, keep⟩
          by_cases c1 : i < z
          · by_cases c2 : (z : Int) % ((i : Int) + 1) = 0
            · have c3 : ¬ u % ((i : Int) + 1) = 0 := fun c3 => hb ⟨⟨c1, c2⟩, c3⟩
              simp -implicitDefEqProofs [-List.append_assoc, a1, a2, hr, m1, c1, c2, c3]
            · simp -implicitDefEqProofs [-List.append_assoc, a1, a2, hr, m1, c1, c2]
          · simp -implicitDefEqProofs [-List.append_assoc, a1, a2, hr, m1, c1]
        · refine ⟨_, M, ?_, rf, bst, some (.t (.int (i : Int))), rfl, rfl, rise rf (by simp; omega), q4, q5, q6, keep⟩
          by_cases c1 : i < z
          · by_cases c2 : (z : Int) % ((i : Int) + 1) = 0
            · have c3 : ¬ u % ((i : Int) + 1) = 0 := fun c3 => hb ⟨⟨c1, c2⟩, c3⟩
              simp -implicitDefEqProofs [-List.append_assoc, a1, a2, hr, m1, c1, c2, c3]
            · simp -implicitDefEqProofs [-List.append_assoc, a1, a2, hr, m1, c1, c2]
          · simp -implicitDefEqProofs [-List.append_assoc, a1, a2, hr, m1, c1])
    (Γ := [some (Wv.t (D.lst (List.map D.int (rowG g K)))), some (Wv.t (nD h)), some (Wv.t (nD p)), some (Wv.t (nD z)), x4, none, some (Wv.t (D.int u)), some (.t (.bl (decide (0 ≤ g 0)))), some (.t (nD 1)), none, none]) (M := M2)
    ⟨decide (0 ≤ g 0), 1, none, rfl, rfl, by simp, by omega, by simp, by simp, fun k a b => by omega⟩
  rw [rangeD_len] at g4 g8
  have hbst : bst = Nat.gcd u.natAbs z := by
    have d1 : bst ∣ z := by have := Int.dvd_of_emod_eq_zero g6; exact Int.natCast_dvd_natCast.mp this
    have d2 : bst ∣ u.natAbs := by have := Int.dvd_of_emod_eq_zero g7; have q := Int.natAbs_dvd_natAbs.mpr this; simpa using q
    have gp : 0 < Nat.gcd u.natAbs z := Nat.gcd_pos_of_pos_right _ zp
    have gl : Nat.gcd u.natAbs z ≤ z := Nat.gcd_le_right _ zp
    have b1 : bst ≤ Nat.gcd u.natAbs z := Nat.le_of_dvd gp (Nat.dvd_gcd d2 d1)
    have b2 := g8 (Nat.gcd u.natAbs z) gp (by omega) gl (Int.emod_eq_zero_of_dvd (Int.natCast_dvd_natCast.mpr (Nat.gcd_dvd_right _ _))) (Int.emod_eq_zero_of_dvd (Int.natAbs_dvd_natAbs.mp (by simpa using Nat.gcd_dvd_left u.natAbs z)))
    omega
  have hrf : rf = decide (0 ≤ g 0 ∧ ∀ t, t < h + z → g t ≤ g (t + 1)) := by
    cases rf with
    | true => exact (decide_eq_true (g4.mp rfl)).symm
    | false => exact (decide_eq_false fun q => Bool.false_ne_true (g4.mpr q)).symm
  have tk : (rowG g K).take (h + z) = rowG g (h + z) := by
    unfold rowG
    rw [← List.map_take, List.take_range, Nat.min_eq_left (by omega)]
  have cut := cutD_to (xs := (rowG g K).map D.int) (i := (h : Int) + (z : Int)) (k := h + z) (by omega)
  rw [← List.map_take, tk] at cut
  have bl : bst ≤ 1000000 := by
    have := Nat.gcd_le_right u.natAbs zp
    omega
  have fd : ∀ j : Int, oFdiv (.t (.int j)) (.t (.int (bst : Int))) M2 = .ok (.t (.int (j / (bst : Int)))) M2 := fun j => e_fdiv62 (by omega) (by omega)
  have nat1 : (D.int 1) = nD 1 := rfl
  refine ⟨z, hz, h, by rw [hu]; exact g1, ?_⟩
  have e4 := e3
  rw [show nD 1 = D.int 1 from rfl] at e4
  rw [e4]
  subst g2 g3
  simp -implicitDefEqProofs [-List.append_assoc, fd, cut, cutM_same]
  unfold whole
  rw [hu, hrf, hbst]
end K04


set_option Elab.async false
set_option linter.all false
set_option maxRecDepth 100000
set_option maxHeartbeats 400000
/-! k00: what is due -/
namespace K04
open PySem PySem.Spec PyProof.Rows L2 VL
/-- no number is too great -/
def Fine (ns : List Int) (k : Nat) : Prop := ∀ j (h : j < ns.length), j < k → ns[j].natAbs ≤ 1000000000
/-- what is due for a row -/
inductive DueR (ns : List Int) (p r : Int) : D → Prop
  | many (h : ns.length < 1 ∨ 400 < ns.length) : DueR ns p r (.tup [.str "many", .str "numbers", .int (ns.length : Int)])
  | value (k : Nat) (l0 : 1 ≤ ns.length) (l1 : ns.length ≤ 400) (hk : k < ns.length) (hb : 1000000000 < ns[k].natAbs) (hf : Fine ns k) : DueR ns p r (.tup [.str "value", nD k])
  | period (l0 : 1 ≤ ns.length) (l1 : ns.length ≤ 400) (hf : Fine ns ns.length) (h : p < 1 ∨ (ns.length : Int) < p) : DueR ns p r (.tup [.str "range", .str "period", .int p])
  | rise (l0 : 1 ≤ ns.length) (l1 : ns.length ≤ 400) (hf : Fine ns ns.length) (p0 : 1 ≤ p) (p1 : p ≤ (ns.length : Int)) (h : 1000000000 < r.natAbs) : DueR ns p r (.tup [.str "range", .str "rise", .int r])
  | good (q z h : Nat) (l0 : 1 ≤ ns.length) (l1 : ns.length ≤ 400) (hf : Fine ns ns.length) (p0 : p = (q : Int)) (q0 : 1 ≤ q) (q1 : q ≤ ns.length) (hr : r.natAbs ≤ 1000000000) (hz : IsSz (fS ns q r) (ns.length - q) q z)
      (hh : IsHd (fS ns q r) (ns.length - q) z (fS ns q r (ns.length - q + z) - fS ns q r (ns.length - q)) h) : DueR ns p r (whole (fS ns q r) z h (fS ns q r (ns.length - q + z) - fS ns q r (ns.length - q)))
theorem ints_at {ns : List Int} {k : Nat} (h : k < ns.length) : L2.atI (ns.map D.int) (k : Int) = some (.int ns[k]) := atI_ints rfl (by simp [h])
end K04


set_option Elab.async false
set_option linter.all false
set_option maxRecDepth 100000
set_option maxHeartbeats 400000
/-! k00: the least period, both ways -/
namespace K04
open PySem PySem.Spec PyProof.Rows L2 VL
/-- the program's test of a part -/
def Tst (g : Nat → Int) (s k m : Nat) (r : Int) : Prop := r * (k : Int) % (m : Int) = 0 ∧ ∀ i, i + k < m → g (s + i + k) = g (s + i) + r * (k : Int) / (m : Int)
theorem rep_tst {g : Nat → Int} {s m k : Nat} {r : Int} (hm : 0 < m) (hg : ∀ t, s ≤ t → g (t + m) = g t + r) (h1 : 1 ≤ k) (h2 : k < m) (hd : m % k = 0) (h : Rep g s k m) : Tst g s k m r ∧ r * (k : Int) / (m : Int) = g (s + k) - g s := by
  obtain ⟨q, hq⟩ : k ∣ m := Nat.dvd_of_mod_eq_zero hd
  have ch : ∀ j, j ≤ q → g (s + k * j) = g s + (j : Int) * (g (s + k) - g s) := by
    intro j
    induction j with
    | zero => intro _; simp
    | succ j ih =>
      intro hj
      have hlt : k * j < m := by
        rw [hq]; exact Nat.mul_lt_mul_of_pos_left (by omega) h1
      have e := h (s + k * j) (by omega) (by omega)
      have e2 : s + k * (j + 1) = s + k * j + k := by rw [Nat.mul_add, Nat.mul_one]; omega
      rw [e2]
      have e3 := ih (by omega)
      push_cast
      rw [Int.add_mul, Int.one_mul]
      omega
  have hr : r = (q : Int) * (g (s + k) - g s) := by
    have e := ch q (Nat.le_refl _)
    rw [← hq, hg s (Nat.le_refl _)] at e
    omega
  have hrk : r * (k : Int) = (g (s + k) - g s) * (m : Int) := by
    rw [hr, hq]
    push_cast
    rw [Int.mul_comm (q : Int), Int.mul_assoc, Int.mul_comm (q : Int) (k : Int)]
  have hdv : r * (k : Int) / (m : Int) = g (s + k) - g s := by
    rw [hrk]; exact Int.mul_ediv_cancel _ (by omega)
  refine ⟨⟨by rw [hrk]; exact Int.mul_emod_left _ _, fun i hi => ?_⟩, hdv⟩
  have := h (s + i) (by omega) (by omega)
  rw [hdv]
  omega
theorem tst_rep {g : Nat → Int} {s m k : Nat} {r : Int} (hm : 0 < m) (hg : ∀ t, s ≤ t → g (t + m) = g t + r) (h1 : 1 ≤ k) (h2 : k < m) (hd : m % k = 0) (h : Tst g s k m r) : Rep g s k m := by
  obtain ⟨q, hq⟩ : k ∣ m := Nat.dvd_of_mod_eq_zero hd
  obtain ⟨t1, t2⟩ := h
  generalize hu : r * (k : Int) / (m : Int) = u at t2
  have hum : u * (m : Int) = r * (k : Int) := by
    rw [← hu]; exact Int.ediv_mul_cancel (Int.dvd_of_emod_eq_zero t1)
  have hr : r = (q : Int) * u := by
    rw [hq] at hum
    push_cast at hum
    have e : (k : Int) * ((q : Int) * u) = (k : Int) * r := by
      rw [Int.mul_comm (k : Int) r, ← hum, ← Int.mul_assoc, Int.mul_comm]
    exact (Int.eq_of_mul_eq_mul_left (by omega) e).symm
  have q0 : 1 ≤ q := by
    rcases Nat.eq_zero_or_pos q with z | z
    · subst z; omega
    · exact z
  have ch : ∀ i, i < k → ∀ j, j < q → g (s + i + k * j) = g (s + i) + (j : Int) * u := by
    intro i hi j
    induction j with
    | zero => intro _; simp
    | succ j ih =>
      intro hj
      have hlt : i + k * j + k < m := by
        have : k * (j + 2) ≤ k * q := Nat.mul_le_mul_left _ (by omega)
        rw [Nat.mul_add] at this
        omega
      have e := t2 (i + k * j) hlt
      have e2 : s + i + k * (j + 1) = s + (i + k * j) + k := by rw [Nat.mul_add, Nat.mul_one]; omega
      have e3 := ih (by omega)
      have e4 : s + (i + k * j) = s + i + k * j := by omega
      rw [e2, e, e4, e3]
      push_cast
      rw [Int.add_mul, Int.one_mul]
      omega
  have st : g (s + k) - g s = u := by
    have := t2 0 (by omega)
    simp only [Nat.add_zero] at this
    omega
  intro t ht1 ht2
  rw [st]
  by_cases hc : t - s + k < m
  · have := t2 (t - s) hc
    rw [show s + (t - s) = t by omega] at this
    omega
  · have hi : t - s - (m - k) < k := by omega
    have e1 := ch (t - s - (m - k)) hi (q - 1) (by omega)
    have e0 : k * (q - 1) = m - k := by rw [hq, Nat.mul_sub, Nat.mul_one]
    rw [e0, show s + (t - s - (m - k)) + (m - k) = t by omega] at e1
    have e2 := hg (s + (t - s - (m - k))) (by omega)
    rw [show s + (t - s - (m - k)) + m = t + k by omega] at e2
    have e3 : ((q - 1 : Nat) : Int) * u = (q : Int) * u - u := by
      rw [show ((q - 1 : Nat) : Int) = (q : Int) - 1 by omega, Int.sub_mul, Int.one_mul]
    omega
/-- the program's least part is the law's -/
theorem sz_of {g : Nat → Int} {s m z : Nat} {r : Int} (hm : 0 < m) (hg : ∀ t, s ≤ t → g (t + m) = g t + r) (h : (z = m ∨ (1 ≤ z ∧ z < m ∧ m % z = 0 ∧ Tst g s z m r))) (hl : ∀ k, 1 ≤ k → k < z → m % k = 0 → ¬ Tst g s k m r) : IsSz g s m z := by
  rcases h with rfl | ⟨a, b, c, d⟩
  · exact ⟨hm, Nat.le_refl _, Nat.mod_self _, .inl rfl, fun k k1 k2 k3 hr => hl k k1 k2 k3 (rep_tst hm hg k1 k2 k3 hr).1⟩
  · exact ⟨a, Nat.le_of_lt b, c, .inr (tst_rep hm hg a b c d), fun k k1 k2 k3 hr => hl k k1 k2 k3 (rep_tst hm hg k1 (by omega) k3 hr).1⟩
theorem IsSz.uniq {g : Nat → Int} {s p z z' : Nat} (a : IsSz g s p z) (b : IsSz g s p z') : z = z' := by
  rcases Nat.lt_trichotomy z z' with h | h | h
  · exact absurd (a.rep.resolve_left fun e => by have := b.le; omega) (b.least z a.pos h a.dvd)
  · exact h
  · exact absurd (b.rep.resolve_left fun e => by have := a.le; omega) (a.least z' b.pos h b.dvd)
theorem IsHd.uniq {g : Nat → Int} {s z h h' : Nat} {u : Int} (a : IsHd g s z u h) (b : IsHd g s z u h') : h = h' := by
  rcases Nat.lt_trichotomy h h' with c | c | c
  · have q := b.stop.resolve_left (by omega)
    exact absurd (a.go (h' - 1) (by omega) (by have := b.le; omega)) q
  · exact c
  · have q := a.stop.resolve_left (by omega)
    exact absurd (b.go (h - 1) (by omega) (by have := a.le; omega)) q
end K04


set_option Elab.async false
set_option linter.all false
set_option maxRecDepth 100000
set_option maxHeartbeats 400000
/-! k00: the canonical form -/
namespace K04
open PySem PySem.Spec PyProof.Rows L2 VL
theorem e_eqLL {M : Store} (xs ys : List Int) : oEq (.t (.lst (xs.map .int))) (.t (.lst (ys.map .int))) M = .ok (.t (.bl (decide (xs = ys)))) M := by
  rw [e_eqD (d := .lst (xs.map .int)) (e := .lst (ys.map .int)) rfl rfl (shaped_of (n := 1) (by rw [shp]; exact shps_ints _ _) (by omega)) (shaped_of (n := 1) (by rw [shp]; exact shps_ints _ _) (by omega)), D.py, D.py, PyData.eqv, eqvs_ints]
theorem e_eqTT {M : Store} (xs ys : List Int) : oEq (.t (.tup (xs.map .int))) (.t (.tup (ys.map .int))) M = .ok (.t (.bl (decide (xs = ys)))) M := by
  rw [e_eqD (d := .tup (xs.map .int)) (e := .tup (ys.map .int)) rfl rfl (shaped_of (n := 1) (by rw [shp]; exact shps_ints _ _) (by omega)) (shaped_of (n := 1) (by rw [shp]; exact shps_ints _ _) (by omega)), D.py, D.py, PyData.eqv, eqvs_ints]
/-- the test of a part of a told tail -/
def TL (ts : List Int) (k : Nat) (r : Int) : Prop := r * (k : Int) % (ts.length : Int) = 0 ∧ ts.drop k = (ts.take (ts.length - k)).map (· + r * (k : Int) / (ts.length : Int))
theorem least_ok {M : Store} {ts : List Int} {r : Int} (hM : Pl M) (h0 : 0 < ts.length) (h1 : ts.length ≤ 1000000) (hr : r.natAbs < 2 ^ 5000) :
    ∃ (z : Nat) (u : Int), ((z = ts.length ∧ u = r) ∨ (1 ≤ z ∧ z < ts.length ∧ ts.length % z = 0 ∧ TL ts z r ∧ u = r * (z : Int) / (ts.length : Int))) ∧ (∀ k, 1 ≤ k → k < z → ts.length % k = 0 → ¬ TL ts k r) ∧
      ph_least_period [.t (.lst (ts.map .int)), .t (.int r)] M = .ok (.t (.tup [nD z, .int u])) M := by
  unfold ph_least_period
  rw [fnSem_ap]
  unfold m_least_period
  simp -implicitDefEqProofs [-List.append_assoc, -Int.reducePow]
  rw [kRange2_of (by omega) (by omega) (by omega) (by omega)]
  simp -implicitDefEqProofs [-List.append_assoc, -Int.reducePow]
  have hl62 : ∀ k : Nat, k < ts.length → ∀ M : Store, oTimes (.t (.int r)) (.t (.int (k : Int))) M = .ok (.t (.int (r * (k : Int)))) M := fun k hk M => e_timesB (k := 5000) (l := 62) hr (by omega) (by omega) (by omega) (by omega)
  generalize hm : ts.length = m at *
  have fr := for_rule (ds := rangeD 1 (m - 1)) (t := tgN 3) (m0 := M.length) (body := vIfS (vAnd (vTest (vOp oEq (vOp oMod (vVar 2) (vVar 3)) (vC (.int 0)))) (vTest (vOp oEq (vOp oMod (vOp oTimes (vVar 1) (vVar 3)) (vVar 2)) (vC (.int 0))))) (vSeq (vAsg (vOp oFdiv (vOp oTimes (vVar 1) (vVar 3)) (vVar 2)) (tgN 4))
    (vIfS (vTest (vOp oEq (vCut (vVar 0) (vPart (vVar 3)) vNoPart) (vComp (vSrcA (vCut (vVar 0) vNoPart (vPart (vOp oSub (vVar 2) (vVar 3))))) (.nm 5) [5] (vYes) (vOp oPlus (vVar 5) (vVar 4))))) (vRet (vTup (vCons (vVar 3) (vCons (vVar 4) (vNil))))) (vNext))) (vNext))
    (fun i Γ M' => ∃ x3 x4, Γ = [some (Wv.t (D.lst (List.map D.int ts))), some (Wv.t (D.int r)), some (Wv.t (nD m)), x3, x4, none] ∧ M' = M ∧ ∀ k, 1 ≤ k → k < 1 + i → m % k = 0 → ¬ TL ts k r)
    (fun x => ∃ (z : Nat) (Γ' : VEnv), x = .ok (.rt (.t (.tup [nD z, .int (r * (z : Int) / (m : Int))]))) Γ' M ∧ 1 ≤ z ∧ z < m ∧ m % z = 0 ∧ TL ts z r ∧ ∀ k, 1 ≤ k → k < z → m % k = 0 → ¬ TL ts k r)
    (fun i Γ M' ⟨_, _, _, e, _⟩ => by rw [e])
    (fun i d Γ M' hd ⟨x3, x4, g1, g2, g3⟩ => by
      obtain ⟨hi, rfl⟩ := rangeD_get hd
      subst g1 g2
      rw [show (1 : Int) + (i : Int) = ((1 + i : Nat) : Int) by omega]
      generalize hk : 1 + i = k at *
      have km : k < m := by omega
      have k0 : 0 < k := by omega
      have e1 : ((m : Int) % (k : Int) = 0) = (m % k = 0) := by
        rw [← Int.natCast_emod]
        exact propext ⟨fun h => by exact_mod_cast h, fun h => by exact_mod_cast h⟩
      have m1 := e_mod (M := M') (i := (m : Int)) (j := (k : Int)) (by omega)
      have m2 := e_mod (M := M') (i := r * (k : Int)) (j := (m : Int)) (by omega)
      have f2 := e_fdiv62 (M := M') (i := r * (k : Int)) (j := (m : Int)) (by omega) (by omega)
      have t2 := hl62 k km M'
      have nx : m % k = 0 → ¬ TL ts k r → ∀ j, 1 ≤ j → j < 1 + (i + 1) → m % j = 0 → ¬ TL ts j r := fun _ h2 j j1 j2 j3 => by
        by_cases e : j = k
        · subst e; exact h2
        · exact g3 j j1 (by omega) j3
      unfold turnR
      by_cases c1 : m % k = 0
      · by_cases c2 : r * (k : Int) % (m : Int) = 0
        · generalize hu : r * (k : Int) / (m : Int) = u at *
          have ec : compL ⟨(ts.take (m - k)).map D.int, none⟩ (.nm 5) vYes (vOp oPlus (vVar 5) (vVar 4)) M'.length [some (Wv.t (D.lst (List.map D.int ts))), some (Wv.t (D.int r)), some (Wv.t (nD m)), some (.t (nD k)), some (.t (.int u)), none] ((ts.take (m - k)).map D.int) (M' ++ [.lst []]) = .ok (.f (.lst (((ts.take (m - k)).map (· + u)).map .int))) M' :=
            comp_ints (fun i => i + u) hM rfl (by simp; omega) (fun i acc hi => by simp -implicitDefEqProofs [-List.append_assoc])
          have cut1 := cutD_from (xs := ts.map D.int) (i := (k : Int)) (k := k) rfl
          have cut2 := cutD_to (xs := ts.map D.int) (i := (m : Int) - (k : Int)) (k := m - k) (by omega)
          rw [← List.map_drop] at cut1
          rw [← List.map_take] at cut2
          have eq := e_eqLL (M := M') (ts.drop k) ((ts.take (m - k)).map (· + u))
          by_cases c3 : ts.drop k = (ts.take (m - k)).map (· + u)
          · refine .inr (.inl ⟨.t (.tup [nD k, .int u]), [some (Wv.t (D.lst (List.map D.int ts))), some (Wv.t (D.int r)), some (Wv.t (nD m)), some (.t (nD k)), some (.t (.int u)), none], M', ?_, k, _, by rw [hu], by omega, km, c1, ⟨by rw [hm]; exact c2, by rw [hm, hu]; exact c3⟩, fun j j1 j2 j3 => g3 j j1 (by omega) j3⟩)
            rw [decide_eq_true c3] at eq
            simp -implicitDefEqProofs [-List.append_assoc, -Int.reducePow, -List.map_take, -List.map_drop, -List.map_map, m1, m2, t2, f2, e1, c1, c2, cut1, cut2, ec, eq]
          · refine .inl ⟨_, _, .inl ?_, some (.t (nD k)), some (.t (.int u)), rfl, rfl, nx c1 fun h => c3 (by have := h.2; rw [hm, hu] at this; exact this)⟩
            rw [decide_eq_false c3] at eq
            simp -implicitDefEqProofs [-List.append_assoc, -Int.reducePow, -List.map_take, -List.map_drop, -List.map_map, m1, m2, t2, f2, e1, c1, c2, cut1, cut2, ec, eq]
        · refine .inl ⟨_, _, .inl ?_, some (.t (nD k)), x4, rfl, rfl, nx c1 fun h => c2 (by have := h.1; rw [hm] at this; exact this)⟩
          simp -implicitDefEqProofs [-List.append_assoc, -Int.reducePow, m1, m2, t2, e1, c1, c2]
      · refine .inl ⟨_, _, .inl ?_, some (.t (nD k)), x4, rfl, rfl, fun j j1 j2 j3 => ?_⟩
        · simp -implicitDefEqProofs [-List.append_assoc, -Int.reducePow, m1, m2, t2, e1, c1]
        · by_cases e : j = k
          · subst e; exact absurd j3 c1
          · exact g3 j j1 (by omega) j3)
    (Γ := [some (Wv.t (D.lst (List.map D.int ts))), some (Wv.t (D.int r)), some (Wv.t (nD m)), none, none, none]) (M := M)
    ⟨none, none, rfl, rfl, fun k k1 k2 => by omega⟩
  rw [rangeD_len] at fr
  rcases fr with ⟨Γ', M', e, x3, x4, g1, g2, g3⟩ | ⟨z, Γ', e, z1, z2, z3, z4, z5⟩
  · subst g1 g2
    refine ⟨m, r, .inl ⟨rfl, rfl⟩, fun k k1 k2 k3 => g3 k k1 (by omega) k3, ?_⟩
    rw [e]
    simp [cutM_same]
  · refine ⟨z, _, .inr ⟨z1, z2, z3, z4, rfl⟩, z5, ?_⟩
    rw [e]
    simp [cutM_same]
end K04


set_option Elab.async false
set_option linter.all false
set_option maxRecDepth 100000
set_option maxHeartbeats 400000
/-! k00: the canonical form, the whole of it -/
namespace K04
open PySem PySem.Spec PyProof.Rows L2 VL
theorem tl_tst {g : Nat → Int} {s m k : Nat} {r : Int} (hk : k < m) : TL (rowG (fun i => g (s + i)) m) k r ↔ Tst g s k m r := by
  unfold TL Tst
  rw [rowG_len]
  have gt : ∀ i, i < m → (rowG (fun i => g (s + i)) m)[i]? = some (g (s + i)) := fun i hi => by
    unfold rowG
    rw [List.getElem?_map, List.getElem?_range hi]
    rfl
  refine and_congr_right fun _ => ⟨fun h i hi => ?_, fun h => ?_⟩
  · have e := congrArg (fun l => l[i]?) h
    simp only [List.getElem?_drop, List.getElem?_map] at e
    rw [gt (k + i) (by omega), List.getElem?_take, if_pos (by omega), gt i (by omega)] at e
    have e2 := Option.some.inj e
    rw [show s + i + k = s + (k + i) by omega]
    exact e2
  · refine List.ext_getElem? fun i => ?_
    simp only [List.getElem?_drop, List.getElem?_map]
    by_cases hi : i + k < m
    · rw [gt (k + i) (by omega), List.getElem?_take, if_pos (by omega), gt i (by omega)]
      have := h i hi
      rw [show s + i + k = s + (k + i) by omega] at this
      simp [this]
    · rw [List.getElem?_eq_none (by rw [rowG_len]; omega), List.getElem?_take, if_neg (by omega)]
      rfl
theorem take_row {ns : List Int} {q k : Nat} {r : Int} (hk : k ≤ ns.length) : ns.take k = rowG (fS ns q r) k := by
  refine List.ext_getElem? fun i => ?_
  unfold rowG
  by_cases hi : i < k
  · rw [List.getElem?_take, if_pos hi, List.getElem?_map, List.getElem?_range hi]
    show ns[i]? = some (fS ns q r i)
    rw [fS_lt (by omega)]
    simp [show i < ns.length by omega]
  · rw [List.getElem?_take, if_neg hi, List.getElem?_eq_none (by simp; omega)]
theorem drop_row {ns : List Int} {q : Nat} {r : Int} (hq : q ≤ ns.length) : ns.drop (ns.length - q) = rowG (fun i => fS ns q r (ns.length - q + i)) q := by
  refine List.ext_getElem? fun i => ?_
  unfold rowG
  rw [List.getElem?_drop]
  by_cases hi : i < q
  · rw [List.getElem?_map, List.getElem?_range hi]
    show ns[ns.length - q + i]? = some (fS ns q r (ns.length - q + i))
    rw [fS_lt (by omega)]
    simp [show ns.length - q + i < ns.length by omega]
  · rw [List.getElem?_eq_none (by omega), List.getElem?_eq_none (by simp; omega)]
theorem fS_per {ns : List Int} {q : Nat} {r : Int} (q0 : 1 ≤ q) (q1 : q ≤ ns.length) (t : Nat) (ht : ns.length - q ≤ t) : fS ns q r (t + q) = fS ns q r t + r := by
  have := fS_ge (ns := ns) (p := q) (r := r) (t := t + q) q0 q1 (by omega)
  rwa [Nat.add_sub_cancel] at this
theorem canonical_ok {M : Store} {ns : List Int} {q : Nat} {r : Int} (hM : Pl M) (q0 : 1 ≤ q) (q1 : q ≤ ns.length) (hl : ns.length ≤ 1000000) (hr : r.natAbs < 2 ^ 5000) :
    ∃ z h, IsSz (fS ns q r) (ns.length - q) q z ∧ IsHd (fS ns q r) (ns.length - q) z (fS ns q r (ns.length - q + z) - fS ns q r (ns.length - q)) h ∧
      ph_canonical [.t (.lst (ns.map .int)), .t (nD q), .t (.int r)] M = .ok (.t (.tup [.tup ((rowG (fS ns q r) (h + z)).map .int), nD z, .int (fS ns q r (ns.length - q + z) - fS ns q r (ns.length - q))])) M := by
  unfold ph_canonical
  rw [fnSem_ap]
  unfold m_canonical
  generalize hs : ns.length - q = s
  have es : (ns.length : Int) - (q : Int) = (s : Int) := by omega
  have hd : ns.drop s = rowG (fun i => fS ns q r (s + i)) q := by rw [← hs]; exact drop_row q1
  obtain ⟨z, u, hz, hlst, el⟩ := least_ok (M := M) (ts := ns.drop s) (r := r) hM (by rw [List.length_drop]; omega) (by rw [List.length_drop]; omega) hr
  have hlen : (ns.drop s).length = q := by rw [List.length_drop]; omega
  rw [hlen] at hz hlst
  have per : ∀ t, s ≤ t → fS ns q r (t + q) = fS ns q r t + r := fun t ht => fS_per q0 q1 t (by omega)
  have hz2 : IsSz (fS ns q r) s q z := by
    refine sz_of q0 per ?_ fun k k1 k2 k3 ht => ?_
    · rcases hz with ⟨a, b⟩ | ⟨a, b, c, d, e⟩
      · exact .inl a
      · exact .inr ⟨a, b, c, by rw [hd] at d; exact (tl_tst b).mp d⟩
    · refine hlst k k1 k2 k3 ?_
      have zq : z ≤ q := by
        rcases hz with ⟨a, b⟩ | ⟨a, b, c, d, e⟩ <;> omega
      rw [hd]
      exact (tl_tst (by omega)).mpr ht
  have hu : fS ns q r (s + z) - fS ns q r s = u := by
    rcases hz with ⟨a, b⟩ | ⟨a, b, c, d, e⟩
    · subst a b
      have := per s (Nat.le_refl _)
      omega
    · rw [hd] at d
      have t := ((tl_tst b).mp d).2 0 (by omega)
      simp only [Nat.add_zero] at t
      rw [e]; omega
  refine ⟨z, ?_⟩
  rw [hu]
  have zp := hz2.pos
  have zl := hz2.le
  have cut1 := cutD_from (xs := ns.map D.int) (i := (s : Int)) (k := s) rfl
  rw [← List.map_drop] at cut1
  simp -implicitDefEqProofs [-List.append_assoc, -List.map_drop, es, cut1, el]
  generalize hg : fS ns q r = g at *
  have ge : ∀ {i : Int} (j : Nat), i = (j : Int) → j < ns.length → L2.atI (ns.map D.int) i = some (.int (g j)) := fun j e h => atI_ints e (by rw [← hg, fS_lt h]; simp [h])
  obtain ⟨Γ', M2, e2, h, g1, g2, g3⟩ := while_rule (m0 := M.length) (t := vAnd (vTest (vOp oGt (vVar 6) (vC (.int 0)))) (vTest (vOp oEq (vOp oIx (vVar 0) (vOp oPlus (vOp oSub (vVar 6) (vC (.int 1))) (vVar 4))) (vOp oPlus (vOp oIx (vVar 0) (vOp oSub (vVar 6) (vC (.int 1)))) (vVar 5)))))
    (body := vAug 6 (fun a b => a - b) (vC (.int 1)))
    (fun n Γ M' => n ≤ s ∧ Γ = [some (Wv.t (D.lst (List.map D.int ns))), some (Wv.t (nD q)), some (Wv.t (D.int r)), some (Wv.t (nD s)), some (.t (nD z)), some (.t (.int u)), some (.t (nD n))] ∧ M' = M ∧ ∀ j, n ≤ j → j < s → g (j + z) = g j + u)
    (fun Γ M' => ∃ h, IsHd g s z u h ∧ Γ = [some (Wv.t (D.lst (List.map D.int ns))), some (Wv.t (nD q)), some (Wv.t (D.int r)), some (Wv.t (nD s)), some (.t (nD z)), some (.t (.int u)), some (.t (nD h))] ∧ M' = M)
    (fun n Γ M' ⟨_, _, e, _⟩ => by rw [e])
    (fun n Γ M' ⟨q1, q2, q3, q4⟩ => by
      subst q2 q3
      by_cases hn : n = 0
      · subst hn
        refine .inl ⟨?_, 0, ⟨q1, q4, .inl rfl⟩, rfl, rfl⟩
        simp -implicitDefEqProofs [-List.append_assoc]
      · have a1 := ge (i := (n : Int) - 1 + (z : Int)) (n - 1 + z) (by omega) (by omega)
        have a2 := ge (i := (n : Int) - 1) (n - 1) (by omega) (by omega)
        have pos : 0 < n := by omega
        by_cases hq : g (n - 1 + z) = g (n - 1) + u
        · refine .inr ⟨?_, n - 1, [some (Wv.t (D.lst (List.map D.int ns))), some (Wv.t (nD q)), some (Wv.t (D.int r)), some (Wv.t (nD s)), some (.t (nD z)), some (.t (.int u)), some (.t (nD (n - 1)))], M', by omega, ?_, by omega, rfl, rfl, fun j h1 h2 => ?_⟩
          · simp -implicitDefEqProofs [-List.append_assoc, a1, a2, hq, pos]
          · have e : ((n : Int) - 1) = ((n - 1 : Nat) : Int) := by omega
            simp -implicitDefEqProofs [-List.append_assoc, e]
          · by_cases e : j = n - 1
            · rw [e]; exact hq
            · exact q4 j (by omega) h2
        · refine .inl ⟨?_, n, ⟨q1, q4, .inr hq⟩, rfl, rfl⟩
          simp -implicitDefEqProofs [-List.append_assoc, a1, a2, hq, pos])
    (n := s) (Γ := [some (Wv.t (D.lst (List.map D.int ns))), some (Wv.t (nD q)), some (Wv.t (D.int r)), some (Wv.t (nD s)), some (.t (nD z)), some (.t (.int u)), some (.t (nD s))]) (M := M)
    ⟨Nat.le_refl _, rfl, rfl, fun j h1 h2 => by omega⟩
  rw [e2]
  subst g2 g3
  have hh := g1.le
  have cut2 := cutD_to (xs := ns.map D.int) (i := (h : Int) + (z : Int)) (k := h + z) (by omega)
  rw [← List.map_take, take_row (q := q) (r := r) (by omega), hg] at cut2
  refine ⟨hz2, h, g1, ?_⟩
  simp -implicitDefEqProofs [-List.append_assoc, cut2, cutM_same]
/-- where a row falls first -/
inductive FallR (g : Nat → Int) (m : Nat) : D → Prop
  | no (h0 : 0 ≤ g 0) (h : ∀ t, t < m → g t ≤ g (t + 1)) : FallR g m .non
  | zero (h0 : g 0 < 0) : FallR g m (nD 0)
  | at_ (k : Nat) (h0 : 0 ≤ g 0) (h : ∀ t, t < k → g t ≤ g (t + 1)) (hk : k < m) (hf : g (k + 1) < g k) : FallR g m (nD (k + 1))
theorem fall_ok {M : Store} {g : Nat → Int} {h z : Nat} {u : Int} (hz : 1 ≤ z) (hl : h + z ≤ 1000000) (hu : g (h + z) = g h + u) :
    ∃ w : D, FallR g (h + z) w ∧ ph_first_fall [.t (.tup ((rowG g (h + z)).map .int)), .t (nD h), .t (.int u)] M = .ok (.t w) M := by
  unfold ph_first_fall
  rw [fnSem_ap]
  unfold m_first_fall
  generalize hm : h + z = m at *
  have ge : ∀ {i : Int} (j : Nat), i = (j : Int) → j < m → L2.atI ((rowG g m).map D.int) i = some (.int (g j)) := fun j e h => rowG_at e h
  by_cases c0 : g 0 < 0
  · refine ⟨_, .zero c0, ?_⟩
    simp -implicitDefEqProofs [-List.append_assoc, ge (i := 0) 0 rfl (by omega), c0, cutM_same]
  simp -implicitDefEqProofs [-List.append_assoc, ge (i := 0) 0 rfl (by omega), c0]
  rw [kRange2_of (by omega) (by omega) (by omega) (by omega)]
  simp -implicitDefEqProofs [-List.append_assoc]
  have fr := for_rule (ds := rangeD 1 (m - 1)) (t := tgN 3) (m0 := M.length) (body := vIfS (vTest (vOp oLt (vOp oIx (vVar 0) (vVar 3)) (vOp oIx (vVar 0) (vOp oSub (vVar 3) (vC (.int 1)))))) (vRet (vVar 3)) (vNext))
    (fun i Γ M' => ∃ x3, Γ = [some (Wv.t (D.tup (List.map D.int (rowG g m)))), some (Wv.t (nD h)), some (Wv.t (D.int u)), x3] ∧ M' = M ∧ ∀ t, t < i → g t ≤ g (t + 1))
    (fun x => ∃ (k : Nat) (Γ' : VEnv), x = .ok (.rt (.t (nD (k + 1)))) Γ' M ∧ (∀ t, t < k → g t ≤ g (t + 1)) ∧ k < m ∧ g (k + 1) < g k)
    (fun i Γ M' ⟨_, _, e, _⟩ => by rw [e])
    (fun i d Γ M' hd ⟨x3, g1, g2, g3⟩ => by
      obtain ⟨hi, rfl⟩ := rangeD_get hd
      subst g1 g2
      have a1 := ge (i := (1 : Int) + (i : Int)) (i + 1) (by omega) (by omega)
      have a2 := ge (i := (1 : Int) + (i : Int) - 1) i (by omega) (by omega)
      unfold turnR
      by_cases c : g (i + 1) < g i
      · refine .inr (.inl ⟨.t (nD (i + 1)), [some (Wv.t (D.tup (List.map D.int (rowG g m)))), some (Wv.t (nD h)), some (Wv.t (D.int u)), some (.t (nD (i + 1)))], M', ?_, i, _, rfl, g3, by omega, c⟩)
        have e : (1 : Int) + (i : Int) = ((i + 1 : Nat) : Int) := by omega
        rw [e] at a1 a2 ⊢
        simp -implicitDefEqProofs [-List.append_assoc, -Int.natCast_add, a1, a2, c]
      · refine .inl ⟨_, _, .inl ?_, some (.t (.int (1 + (i : Int)))), rfl, rfl, fun t ht => ?_⟩
        · simp -implicitDefEqProofs [-List.append_assoc, a1, a2, c]
        · by_cases e : t = i
          · subst e; omega
          · exact g3 t (by omega))
    (Γ := [some (Wv.t (D.tup (List.map D.int (rowG g m)))), some (Wv.t (nD h)), some (Wv.t (D.int u)), none]) (M := M)
    ⟨none, rfl, rfl, fun t ht => by omega⟩
  rw [rangeD_len] at fr
  rcases fr with ⟨Γ', M', e, x3, g1, g2, g3⟩ | ⟨k, Γ', e, k1, k2, k3⟩
  · rw [e]
    subst g1 g2
    have a1 := ge (i := (h : Int)) h rfl (by omega)
    have a2 : L2.atI ((rowG g m).map D.int) (-1) = some (.int (g (m - 1))) := by
      rw [atI_neg (i := -1) (k := 1) rfl (by omega) (by simp; omega)]
      unfold rowG
      rw [List.length_map, List.length_map, List.length_range, List.getElem?_map, List.getElem?_map, List.getElem?_range (by omega)]
      rfl
    have e1 : m - 1 + 1 = m := by omega
    by_cases c : g h + u < g (m - 1)
    · refine ⟨_, .at_ (m - 1) (by omega) g3 (by omega) (by rw [e1, hu]; exact c), ?_⟩
      rw [e1]
      simp -implicitDefEqProofs [-List.append_assoc, a1, a2, c, cutM_same]
    · refine ⟨_, .no (by omega) fun t ht => ?_, ?_⟩
      · by_cases e : t = m - 1
        · rw [e, e1, hu]; omega
        · exact g3 t (by omega)
      · simp -implicitDefEqProofs [-List.append_assoc, a1, a2, c, cutM_same]
  · rw [e]
    refine ⟨_, .at_ k (by omega) k1 k2 k3, ?_⟩
    simp [cutM_same]
theorem FallR.uniq {g : Nat → Int} {m : Nat} {w w' : D} (a : FallR g m w) (b : FallR g m w') : w = w' := by
  cases a with
  | no a0 a1 =>
    cases b with
    | no b0 b1 => rfl
    | zero b0 => omega
    | at_ k b0 b1 bk bf => have := a1 k bk; omega
  | zero a0 =>
    cases b with
    | no b0 b1 => omega
    | zero b0 => rfl
    | at_ k b0 b1 bk bf => omega
  | at_ j a0 a1 aj af =>
    cases b with
    | no b0 b1 => have := b1 j aj; omega
    | zero b0 => omega
    | at_ k b0 b1 bk bf =>
      rcases Nat.lt_trichotomy j k with h | h | h
      · have := b1 j h; omega
      · rw [h]
      · have := a1 k h; omega
theorem FallR.non_iff {g : Nat → Int} {m : Nat} {w : D} (h : FallR g m w) : isNon (.t w) = decide (0 ≤ g 0 ∧ ∀ t, t < m → g t ≤ g (t + 1)) := by
  cases h with
  | no h0 h => rw [decide_eq_true ⟨h0, h⟩]; rfl
  | zero h0 => rw [decide_eq_false (fun h => by omega)]; rfl
  | at_ k h0 h hk hf => rw [decide_eq_false (fun q => by have := q.2 k hk; omega)]; rfl
theorem reduced_ok {M : Store} {u : Int} {z : Nat} (hz : 1 ≤ z) (hl : z ≤ 1000000) :
    ph_reduced [.t (.int u), .t (nD z)] M = .ok (.t (.tup [.int (u / (Nat.gcd u.natAbs z : Nat)), .int ((z : Int) / (Nat.gcd u.natAbs z : Nat))])) M := by
  unfold ph_reduced
  rw [fnSem_ap]
  unfold m_reduced
  have gp : 0 < Nat.gcd u.natAbs z := Nat.gcd_pos_of_pos_right _ hz
  have gl : Nat.gcd u.natAbs z ≤ z := Nat.gcd_le_right _ hz
  have fd : ∀ (j : Int) (M : Store), oFdiv (.t (.int j)) (.t (.int (Nat.gcd u.natAbs z : Nat))) M = .ok (.t (.int (j / (Nat.gcd u.natAbs z : Nat)))) M := fun j M => e_fdiv62 (by omega) (by omega)
  simp -implicitDefEqProofs [-List.append_assoc, fd, cutM_same]
end K04


set_option Elab.async false
set_option linter.all false
set_option maxRecDepth 100000
set_option maxHeartbeats 400000
/-! k00: making a curve -/
namespace K04
open PySem PySem.Spec PyProof.Rows L2 VL
/-- a told list: a list, a tuple or a cell -/
inductive SeqW (M : Store) (ns : List Int) : Wv → Prop
  | lst : SeqW M ns (.t (.lst (ns.map .int)))
  | tup : SeqW M ns (.t (.tup (ns.map .int)))
  | cell (n : Nat) (h : M[n]? = some (.lst (ns.map .int))) : SeqW M ns (.l n)
section
variable {M T : Store} {ns : List Int} {w : Wv}
theorem SeqW.app (h : SeqW M ns w) : SeqW (M ++ T) ns w := by
  cases h with
  | lst => exact .lst
  | tup => exact .tup
  | cell n h => exact .cell n (by rw [List.getElem?_append_left (List.getElem?_eq_some_iff.mp h).1]; exact h)
theorem SeqW.len (h : SeqW M ns w) : fLen [w] M = .ok (.t (.int ns.length)) M := by
  cases h with
  | lst => simp
  | tup => simp
  | cell n h => simp [e_lenC h]
theorem SeqW.list (h : SeqW M ns w) : fList [w] M = .ok (.f (.lst (ns.map .int))) M := by
  cases h with
  | lst => simp
  | tup => simp
  | cell n h => simp [e_listC h]
theorem SeqW.enum (h : SeqW M ns w) : ∃ o, ∀ T, kEnumA [w] (M ++ T) = .ok ⟨enumD 0 (ns.map .int), o⟩ (M ++ T) ∧ Src.chk ⟨enumD 0 (ns.map .int), o⟩ (M ++ T) := by
  cases h with
  | lst => exact ⟨none, fun T => ⟨rfl, trivial⟩⟩
  | tup => exact ⟨none, fun T => ⟨rfl, trivial⟩⟩
  | cell n h =>
    refine ⟨some (n, ns.map .int), fun T => ?_⟩
    have e : (M ++ T)[n]? = some (.lst (ns.map .int)) := by rw [List.getElem?_append_left (List.getElem?_eq_some_iff.mp h).1]; exact h
    refine ⟨?_, e⟩
    unfold kEnumA
    dsimp only
    rw [e]
end
theorem bounds_in {M : Store} {x : Str} {v lo hi : Int} (h1 : lo ≤ v) (h2 : v ≤ hi) : ph_bounds [.t (.str x), .t (.int v), .t (.int lo), .t (.int hi)] M = .ok (.t .non) M := by
  unfold ph_bounds
  rw [fnSem_ap]
  unfold m_bounds
  simp -implicitDefEqProofs [h1, h2, cutM_same]
theorem bounds_out {M : Store} {x : Str} {v lo hi : Int} (h : ¬ (lo ≤ v ∧ v ≤ hi)) : ph_bounds [.t (.str x), .t (.int v), .t (.int lo), .t (.int hi)] M = .exc 1 [(0, .str x), (1, .int v)] M := by
  unfold ph_bounds
  rw [fnSem_ap]
  unfold m_bounds
  have e : ∀ (Γ : VEnv), kRaise 1 3 [(0, 1), (1, 2)] [.t (.str x), .t (.int v)] Γ M = .exc 1 [(0, .str x), (1, .int v)] Γ M := fun Γ => kRaise_of rfl rfl
  by_cases h1 : lo ≤ v
  · have h2 : ¬ v ≤ hi := fun q => h ⟨h1, q⟩
    simp -implicitDefEqProofs [h1, h2, e, cutM_same]
  · simp -implicitDefEqProofs [h1, e, cutM_same]
/-- the curve's attributes -/
def curF (g : Nat → Int) (z h : Nat) (u : Int) : List D := [.tup ((rowG g (h + z)).map .int), nD z, .int u, nD h, .tup [.int (u / (Nat.gcd u.natAbs z : Nat)), .int ((z : Int) / (Nat.gcd u.natAbs z : Nat))], .bl (decide (0 ≤ g 0 ∧ ∀ t, t < h + z → g t ≤ g (t + 1)))]
def curD (g : Nat → Int) (z h : Nat) (u : Int) : D := .ins 5 [5, 6, 7, 8, 9, 10] (curF g z h u)
/-- what making a curve brings, by what is due -/
inductive MadeR (M : Store) : D → Res Rv → Prop
  | many (n : Nat) : MadeR M (.tup [.str "many", .str "numbers", nD n]) (.exc 2 [(0, .str "numbers"), (2, nD n)] M)
  | value (k : Nat) : MadeR M (.tup [.str "value", nD k]) (.exc 4 [(4, nD k)] M)
  | range (x : Str) (v : Int) : MadeR M (.tup [.str "range", .str x, .int v]) (.exc 1 [(0, .str x), (1, .int v)] M)
  | good (g : Nat → Int) (z h : Nat) (u : Int) (z0 : 1 ≤ z) (hl : h + z ≤ 1000000) : MadeR M (whole g z h u) (.ok (.f (curD g z h u)) M)
theorem enumD_at {ns : List Int} {i : Nat} {d : D} (h : (enumD 0 (ns.map .int))[i]? = some d) : ∃ hi : i < ns.length, d = .tup [nD i, .int ns[i]] := by
  obtain ⟨e, h1, h2⟩ := enumD_get _ _ _ _ h
  rw [List.getElem?_map] at h1
  obtain ⟨v, h3, rfl⟩ := Option.map_eq_some_iff.mp h1
  obtain ⟨hi, rfl⟩ := List.getElem?_eq_some_iff.mp h3
  exact ⟨hi, by rw [h2, Nat.zero_add]⟩
theorem init_loop {M : Store} {ns : List Int} {w : Wv} {o : Option (Nat × List D)} {p r : Int} (ho : ∀ T, Src.chk ⟨enumD 0 (ns.map .int), o⟩ (M ++ T)) (k : Nat) (hf : Fine ns k) (hk : k = ns.length ∨ ∃ h : k < ns.length, 1000000000 < ns[k].natAbs) :
    (k = ns.length ∧ ∃ x4 x5, forL ⟨enumD 0 (ns.map .int), o⟩ (tgTup 2 (tgsCons (tgN 4) (tgsCons (tgN 5) (tgsNil)))) (vIfS (vNot (vTest (vChain2 oLe oLe (vNeg (vC (.int 1000000000))) (vVar 5) (vC (.int 1000000000))))) (vRaise 4 2 [(4, 1)] (vCons (vVar 4) (vNil))) (vNext)) (M.length + 1) (enumD 0 (ns.map .int)) [some (.l M.length), some w, some (.t (.int p)), some (.t (.int r)), none, none] (M ++ [.obj 5 []]) = .ok .nx [some (.l M.length), some w, some (.t (.int p)), some (.t (.int r)), x4, x5] (M ++ [.obj 5 []])) ∨
    (k < ns.length ∧ ∃ Γ', forL ⟨enumD 0 (ns.map .int), o⟩ (tgTup 2 (tgsCons (tgN 4) (tgsCons (tgN 5) (tgsNil)))) (vIfS (vNot (vTest (vChain2 oLe oLe (vNeg (vC (.int 1000000000))) (vVar 5) (vC (.int 1000000000))))) (vRaise 4 2 [(4, 1)] (vCons (vVar 4) (vNil))) (vNext)) (M.length + 1) (enumD 0 (ns.map .int)) [some (.l M.length), some w, some (.t (.int p)), some (.t (.int r)), none, none] (M ++ [.obj 5 []]) = .exc 4 [(4, nD k)] Γ' (M ++ [.obj 5 []])) := by
  have fr := for_ruleS (s := ⟨enumD 0 (ns.map .int), o⟩) (t := tgTup 2 (tgsCons (tgN 4) (tgsCons (tgN 5) (tgsNil)))) (body := vIfS (vNot (vTest (vChain2 oLe oLe (vNeg (vC (.int 1000000000))) (vVar 5) (vC (.int 1000000000))))) (vRaise 4 2 [(4, 1)] (vCons (vVar 4) (vNil))) (vNext)) (m0 := M.length + 1)
    (fun i Γ M' => i ≤ k ∧ ∃ x4 x5, Γ = [some (.l M.length), some w, some (.t (.int p)), some (.t (.int r)), x4, x5] ∧ M' = M ++ [.obj 5 []])
    (fun x => k < ns.length ∧ ∃ Γ', x = .exc 4 [(4, nD k)] Γ' (M ++ [.obj 5 []]))
    (fun i Γ M' ⟨_, _, _, _, e⟩ => by rw [e]; exact ⟨by simp, ho _⟩)
    (fun i d Γ M' hd ⟨hi, x4, x5, g1, g2⟩ => by
      obtain ⟨hl, rfl⟩ := enumD_at hd
      subst g1 g2
      unfold turnR
      by_cases c : i = k
      · subst c
        obtain ⟨hl', hb⟩ := hk.resolve_left (by omega)
        have e : ∀ (Γ : VEnv) (M : Store), kRaise 4 2 [(4, 1)] [.t (nD i)] Γ M = .exc 4 [(4, nD i)] Γ M := fun Γ M => kRaise_of rfl rfl
        refine .inr (.inr ⟨4, [(4, nD i)], [some (.l M.length), some w, some (.t (.int p)), some (.t (.int r)), some (.t (nD i)), some (.t (.int ns[i]))], _, ?_, hl, _, rfl⟩)
        · by_cases c1 : (-1000000000 : Int) ≤ ns[i]
          · have c2 : ¬ ns[i] ≤ 1000000000 := by omega
            simp -implicitDefEqProofs [-List.append_assoc, c1, c2, e]
          · simp -implicitDefEqProofs [-List.append_assoc, c1, e]
      · have hb := hf i hl (by omega)
        have c1 : (-1000000000 : Int) ≤ ns[i] := by omega
        have c2 : ns[i] ≤ 1000000000 := by omega
        refine .inl ⟨_, _, .inl ?_, by omega, some (.t (nD i)), some (.t (.int ns[i])), rfl, rfl⟩
        simp -implicitDefEqProofs [-List.append_assoc, c1, c2])
    (Γ := [some (.l M.length), some w, some (.t (.int p)), some (.t (.int r)), none, none]) (M := M ++ [.obj 5 []])
    ⟨Nat.zero_le _, none, none, rfl, rfl⟩
  rcases fr with ⟨Γ', M', e, hi, x4, x5, g1, g2⟩ | ⟨hk', Γ', e⟩
  · have hl : (enumD 0 (ns.map D.int)).length = ns.length := by rw [enumD_length, List.length_map]
    simp only [hl] at hi
    refine .inl ⟨?_, x4, x5, ?_⟩
    · rcases hk with h | ⟨h, _⟩
      · exact h
      · omega
    · rw [g1, g2] at e; exact e
  · exact .inr ⟨hk', Γ', e⟩
theorem make_ok {M : Store} {ns : List Int} {p r : Int} {d : D} {w : Wv} (hd : DueR ns p r d) (hM : Pl M) (hw : SeqW M ns w) :
    ∃ R, MadeR M d R ∧ vMakeK true 5 4 ph_Curve_init [w, .t (.int p), .t (.int r)] M = R := by
  have hlen : ∀ T, fLen [w] (M ++ T) = .ok (.t (.int ns.length)) (M ++ T) := fun T => hw.app.len
  have hlist : ∀ T, fList [w] (M ++ T) = .ok (.f (.lst (ns.map .int))) (M ++ T) := fun T => hw.app.list
  obtain ⟨o, ho⟩ := hw.enum
  have hen : ∀ T, kEnumA [w] (M ++ T) = .ok ⟨enumD 0 (ns.map .int), o⟩ (M ++ T) := fun T => (ho T).1
  have hch : ∀ T, Src.chk ⟨enumD 0 (ns.map .int), o⟩ (M ++ T) := fun T => (ho T).2
  have en : ∀ (g : ES (List Wv)) (Γ : VEnv) (M : Store), vEnumA g Γ M = (g Γ M).bind kEnumA := fun _ _ _ => rfl
  have hmk : ∀ {R : Res Rv}, ph_Curve_init [.l M.length, w, .t (.int p), .t (.int r)] (M ++ [.obj 5 []]) = R → vMakeK true 5 4 ph_Curve_init [w, .t (.int p), .t (.int r)] M = (match R with
      | .ok r M2 => kMake true M.length r M2
      | .exc C fs M2 => .exc C fs (cutM M.length M2)
      | .bad => .bad) := fun h => by
    subst h
    unfold vMakeK
    exact if_pos rfl
  have un : ph_Curve_init [.l M.length, w, .t (.int p), .t (.int r)] (M ++ [.obj 5 []]) = fnEnd (M.length + 1) (m_Curve_init [some (.l M.length), some w, some (.t (.int p)), some (.t (.int r)), none, none] (M ++ [.obj 5 []])) := by
    unfold ph_Curve_init
    rw [fnSem_ap]
    simp
  cases hd with
  | many h =>
    refine ⟨_, .many ns.length, ?_⟩
    rw [hmk (R := .exc 2 [(0, .str "numbers"), (2, nD ns.length)] (M ++ [.obj 5 []]))]
    · simp [cutM_app hM]
    · rw [un]
      unfold m_Curve_init
      have e : ∀ (Γ : VEnv) (M : Store), kRaise 2 3 [(0, 1), (2, 2)] [.t (.str "numbers"), .t (nD ns.length)] Γ M = .exc 2 [(0, .str "numbers"), (2, nD ns.length)] Γ M := fun Γ M => kRaise_of rfl rfl
      by_cases c1 : 1 ≤ (ns.length : Int)
      · have c2 : ¬ (ns.length : Int) ≤ 400 := by omega
        simp -implicitDefEqProofs [-List.append_assoc, hlen, c1, c2, e, cutM_same]
      · simp -implicitDefEqProofs [-List.append_assoc, hlen, c1, e, cutM_same]
  | value k l0 l1 hk hb hf =>
    refine ⟨_, .value k, ?_⟩
    rw [hmk (R := .exc 4 [(4, nD k)] (M ++ [.obj 5 []]))]
    · simp [cutM_app hM]
    · rw [un]
      unfold m_Curve_init
      have c1 : 1 ≤ (ns.length : Int) := by omega
      have c2 : (ns.length : Int) ≤ 400 := by omega
      obtain ⟨Γ', e⟩ := ((init_loop (w := w) (p := p) (r := r) hch k hf (.inr ⟨hk, hb⟩)).resolve_left fun h => by omega).2
      simp -implicitDefEqProofs [-List.append_assoc, hlen, c1, c2, en, hen, e, cutM_same]
  | period l0 l1 hf h =>
    refine ⟨_, .range "period" p, ?_⟩
    rw [hmk (R := .exc 1 [(0, .str "period"), (1, .int p)] (M ++ [.obj 5 []]))]
    · simp [cutM_app hM]
    · rw [un]
      unfold m_Curve_init
      have c1 : 1 ≤ (ns.length : Int) := by omega
      have c2 : (ns.length : Int) ≤ 400 := by omega
      obtain ⟨x4, x5, e⟩ := ((init_loop (w := w) (p := p) (r := r) hch ns.length hf (.inl rfl)).resolve_right fun h => by omega).2
      have b1 := bounds_out (M := M ++ [.obj 5 []]) (x := "period") (v := p) (lo := 1) (hi := ns.length) (by omega)
      simp -implicitDefEqProofs [-List.append_assoc, hlen, c1, c2, en, hen, e, b1, cutM_same]
  | rise l0 l1 hf p0 p1 h =>
    refine ⟨_, .range "rise" r, ?_⟩
    rw [hmk (R := .exc 1 [(0, .str "rise"), (1, .int r)] (M ++ [.obj 5 []]))]
    · simp [cutM_app hM]
    · rw [un]
      unfold m_Curve_init
      have c1 : 1 ≤ (ns.length : Int) := by omega
      have c2 : (ns.length : Int) ≤ 400 := by omega
      obtain ⟨x4, x5, e⟩ := ((init_loop (w := w) (p := p) (r := r) hch ns.length hf (.inl rfl)).resolve_right fun h => by omega).2
      have b1 := bounds_in (M := M ++ [.obj 5 []]) (x := "period") (v := p) (lo := 1) (hi := ns.length) (by omega) (by omega)
      have b2 := bounds_out (M := M ++ [.obj 5 []]) (x := "rise") (v := r) (lo := -1000000000) (hi := 1000000000) (by omega)
      simp -implicitDefEqProofs [-List.append_assoc, hlen, c1, c2, en, hen, e, b1, b2, cutM_same]
  | good q z h l0 l1 hf p0 q0 q1 hr hz hh =>
    subst p0
    have zp := hz.pos
    have zl := hz.le
    have hl := hh.le
    generalize hu : fS ns q r (ns.length - q + z) - fS ns q r (ns.length - q) = u at *
    refine ⟨_, .good (fS ns q r) z h u zp (by omega), ?_⟩
    rw [hmk (R := .ok (.t .non) (M ++ [.obj 5 ([5, 6, 7, 8, 9, 10].zip ((curF (fS ns q r) z h u).map .t))]))]
    · unfold kMake curD curF
      simp [Cel.d, hM.ok]
    · rw [un]
      unfold m_Curve_init
      have c1 : 1 ≤ (ns.length : Int) := by omega
      have c2 : (ns.length : Int) ≤ 400 := by omega
      obtain ⟨x4, x5, e⟩ := ((init_loop (w := w) (p := (q : Int)) (r := r) hch ns.length hf (.inl rfl)).resolve_right fun h => by omega).2
      have b1 := bounds_in (M := M ++ [.obj 5 []]) (x := "period") (v := (q : Int)) (lo := 1) (hi := ns.length) (by omega) (by omega)
      have b2 := bounds_in (M := M ++ [.obj 5 []]) (x := "rise") (v := r) (lo := -1000000000) (hi := 1000000000) (by omega) (by omega)
      obtain ⟨z', h', hz', hh', ec⟩ := canonical_ok (M := M ++ [.obj 5 []]) (ns := ns) (q := q) (r := r) (hM.append (show Pl [Cel.obj 5 []] from rfl)) q0 q1 (by omega) (Nat.lt_of_le_of_lt hr (Nat.lt_of_lt_of_le (show 1000000000 < 2 ^ 30 by decide) (Nat.pow_le_pow_right (by omega) (by omega))))
      have ez := hz'.uniq hz
      subst ez
      rw [hu] at hh' ec
      have eh := hh'.uniq hh
      subst eh
      generalize fS ns q r = g at *
      have hgu : g (h' + z') = g h' + u := by
        by_cases c : h' < ns.length - q
        · exact hh.go h' (Nat.le_refl _) c
        · have : h' = ns.length - q := by omega
          rw [this]; omega
      have red : ∀ M, ph_reduced [.t (.int u), .t (nD z')] M = _ := fun M => reduced_ok zp (by omega)
      obtain ⟨wv, hfl, _⟩ := fall_ok (M := M) (h := h') zp (by omega) hgu
      have efl : ∀ M, ph_first_fall [.t (.tup ((rowG g (h' + z')).map .int)), .t (nD h'), .t (.int u)] M = .ok (.t wv) M := fun M => by
        obtain ⟨wv', hfl', e'⟩ := fall_ok (M := M) (h := h') zp (by omega) hgu
        rw [hfl.uniq hfl']; exact e'
      have ehd : ((h' : Int) + (z' : Int)) - (z' : Int) = (h' : Int) := by omega
      unfold curF
      simp -implicitDefEqProofs [-List.append_assoc, hlen, hlist, c1, c2, en, hen, e, b1, b2, ec, cell0, set0, putW, List.lookup, red, efl, ehd, hfl.non_iff, cutM_same]
end K04


set_option Elab.async false
set_option linter.all false
set_option maxRecDepth 100000
set_option maxHeartbeats 400000
/-! k00: what is shown, asked, met -/
namespace K04
open PySem PySem.Spec PyProof.Rows L2 VL
theorem number_ok {M : Store} {i : Int} : ph_law_number [.t (.int i)] M = .ok (.t (.int i)) M := by
  unfold ph_law_number
  rw [fnSem_ap]
  unfold m_law_number
  have e1 : fIsTy "int" [.t (.int i)] M = .ok (.t (.bl true)) M := rfl
  have e2 : fIsTy "bool" [.t (.int i)] M = .ok (.t (.bl false)) M := rfl
  simp -implicitDefEqProofs [e1, e2, cutM_same]
theorem shown_ok {M : Store} {g : Nat → Int} {z h : Nat} {u : Int} (hl : h + z ≤ 1000000) : ph_law_shown [.t (curD g z h u)] M = .ok (.t (whole g z h u)) M := by
  unfold ph_law_shown
  rw [fnSem_ap]
  unfold m_law_shown curD curF whole
  have e1 : ∀ xs M, fIsTy "tuple" [.t (.tup xs)] M = .ok (.t (.bl true)) M := fun _ _ => rfl
  have e2 : ∀ b M, fIsTy "bool" [.t (.bl b)] M = .ok (.t (.bl true)) M := fun _ _ => rfl
  have e3 : ∀ xs ys M, fIsC ok_Curve [.t (.ins 5 xs ys)] M = .ok (.t (.bl true)) M := fun _ _ _ => rfl
  generalize hg : (Nat.gcd u.natAbs z : Int) = gc
  generalize decide (0 ≤ g 0 ∧ ∀ t, t < h + z → g t ≤ g (t + 1)) = ri
  have hlen : (rowG g (h + z)).length = h + z := by simp
  generalize hns : rowG g (h + z) = ns at *
  have ap1 : ∀ M, oPlus (.t (.tup (ns.map .int))) (.t (.tup [.int (u / gc), .int ((z : Int) / gc)])) M = .ok (.t (.tup ((ns ++ [u / gc, (z : Int) / gc]).map .int))) M := fun M => by
    rw [e_plusT (by simp; omega)]; simp
  have ap2 : ∀ M, oPlus (.t (.tup ((ns ++ [u / gc, (z : Int) / gc]).map .int))) (.t (.tup [nD h, nD z, .int u])) M = .ok (.t (.tup ((ns ++ [u / gc, (z : Int) / gc] ++ [(h : Int), (z : Int), u]).map .int))) M := fun M => by
    rw [e_plusT (by simp; omega)]; simp
  simp -implicitDefEqProofs [-List.append_assoc, -List.map_append, List.lookup, e1, e2, e3, ap1, ap2]
  generalize ns ++ [u / gc, (z : Int) / gc] ++ [(h : Int), (z : Int), u] = ps
  obtain ⟨Γ', M', e, x1, g1, g2⟩ := for_all (ds := ps.map .int) (t := tgN 1) (m0 := M.length) (body := vIfS (vTest (vIsN (vDef 1 ph_law_number (vCons (vVar 1) (vNil))))) (vRet (vTup (vNil))) (vNext))
    (fun i Γ M' => ∃ x1, Γ = [some (.t (.ins 5 [5, 6, 7, 8, 9, 10] [.tup (ns.map .int), nD z, .int u, nD h, .tup [.int (u / gc), .int ((z : Int) / gc)], .bl ri])), x1, none] ∧ M' = M)
    (fun i Γ M' ⟨_, _, e⟩ => by rw [e])
    (fun i d Γ M' hd ⟨x1, g1, g2⟩ => by
      subst g1 g2
      obtain ⟨v, rfl⟩ : ∃ v : Int, d = .int v := by
        rw [List.getElem?_map] at hd
        obtain ⟨v, _, rfl⟩ := Option.map_eq_some_iff.mp hd
        exact ⟨v, rfl⟩
      refine ⟨_, _, ?_, some (.t (.int v)), rfl, rfl⟩
      unfold turnR
      simp -implicitDefEqProofs [number_ok])
    (Γ := [some (.t (.ins 5 [5, 6, 7, 8, 9, 10] [.tup (ns.map .int), nD z, .int u, nD h, .tup [.int (u / gc), .int ((z : Int) / gc)], .bl ri])), none, none]) (M := M)
    ⟨none, rfl, rfl⟩
  rw [e]
  subst g1 g2
  simp -implicitDefEqProofs [-List.append_assoc, List.lookup, cutM_same]
/-- == and != of the same data -/
theorem eq_self {M : Store} {d : D} (h : shp 3 d = true) : oEq (.t d) (.t d) M = .ok (.t (.bl true)) M := by
  rw [e_eqD (d := d) (e := d) rfl rfl (shaped_of h (by omega)) (shaped_of h (by omega)), eqv_self 3 d h]
theorem ne_self {M : Store} {w : Wv} {d : D} (hw : dr M w = some d) (h : shp 3 d = true) : oNe w (.t d) M = .ok (.t (.bl false)) M := by
  rw [e_neD (d := d) (e := d) hw rfl (shaped_of h (by omega)) (shaped_of h (by omega)), eqv_self 3 d h]; rfl
theorem shp_whole (g : Nat → Int) (z h : Nat) (u : Int) : shp 3 (whole g z h u) = true := by
  unfold whole
  simp [shp, shps, shps_ints]
theorem MadeR.shp {M : Store} {d : D} {R : Res Rv} (h : MadeR M d R) (hs : ∀ x v, d = .tup [.str "range", .str x, .int v] → PyData.strOk x = true) : shp 3 d = true := by
  cases h with
  | many n => simp [VL.shp, shps]; decide +kernel
  | value k => simp [VL.shp, shps]; decide +kernel
  | range x v => simp [VL.shp, shps, hs x v rfl]; decide +kernel
  | good g z h u z0 hl => exact shp_whole g z h u
theorem DueR.shp {ns : List Int} {p r : Int} {d : D} (h : DueR ns p r d) : shp 3 d = true := by
  cases h with
  | good => exact shp_whole _ _ _ _
  | _ => simp [VL.shp, shps]; decide +kernel
end K04


set_option Elab.async false
set_option linter.all false
set_option maxRecDepth 100000
set_option maxHeartbeats 400000
/-! k00: good rows, values -/
namespace K04
open PySem PySem.Spec PyProof.Rows L2 VL
/-! ### good rows -/
structure Gd where
  ns : List Int
  q : Nat
  r : Int
  z : Nat
  h : Nat
namespace Gd
def s (x : Gd) : Nat := x.ns.length - x.q
def g (x : Gd) : Nat → Int := fS x.ns x.q x.r
def u (x : Gd) : Int := x.g (x.s + x.z) - x.g x.s
def row (x : Gd) : D := T3 x.ns x.q x.r
def cur (x : Gd) : D := curD x.g x.z x.h x.u
def due (x : Gd) : D := whole x.g x.z x.h x.u
structure Ok (x : Gd) : Prop where
  l0 : 1 ≤ x.ns.length
  l1 : x.ns.length ≤ 400
  hf : Fine x.ns x.ns.length
  q0 : 1 ≤ x.q
  q1 : x.q ≤ x.ns.length
  hr : x.r.natAbs ≤ 1000000000
  hz : IsSz x.g x.s x.q x.z
  hh : IsHd x.g x.s x.z x.u x.h
theorem Ok.dueR {x : Gd} (k : x.Ok) : DueR x.ns x.q x.r x.due := .good x.q x.z x.h k.l0 k.l1 k.hf rfl k.q0 k.q1 k.hr k.hz k.hh
theorem Ok.uniq {x : Gd} (k : x.Ok) {d : D} (h : DueR x.ns x.q x.r d) : d = x.due := by
  cases h with
  | many h => have := k.l0; have := k.l1; omega
  | value j l0 l1 hk hb hf => have := k.hf j hk hk; omega
  | period l0 l1 hf h => have := k.q0; have := k.q1; omega
  | rise l0 l1 hf p0 p1 h => have := k.hr; omega
  | good q z h l0 l1 hf p0 q0 q1 hr hz hh =>
    have e : q = x.q := by omega
    subst e
    have e := hz.uniq k.hz
    subst e
    have e := hh.uniq k.hh
    subst e
    rfl
theorem Ok.made {x : Gd} (k : x.Ok) {M : Store} (hM : Pl M) {w : Wv} (hw : SeqW M x.ns w) : vMakeK true 5 4 ph_Curve_init [w, .t (.int x.q), .t (.int x.r)] M = .ok (.f x.cur) M := by
  obtain ⟨R, hR, mk⟩ := make_ok k.dueR hM hw
  rw [mk]
  generalize hd : x.due = d at hR
  cases hR with
  | good g z h u z0 hl =>
    unfold due whole at hd
    unfold cur curD curF
    simp only [D.tup.injEq, List.cons.injEq, D.int.injEq, D.bl.injEq, nD] at hd ⊢
    obtain ⟨a, b, c, e, f, i, _⟩ := hd
    have b' : x.h = h := by omega
    have c' : x.z = z := by omega
    rw [a, i, b', c', e]
  | _ => unfold due whole at hd; simp at hd
theorem Ok.per {x : Gd} (k : x.Ok) (t : Nat) (ht : x.s ≤ t) : x.g (t + x.q) = x.g t + x.r := fS_per k.q0 k.q1 t ht
theorem Ok.stepS {x : Gd} (k : x.Ok) : ∀ t, x.s ≤ t → x.g (t + x.z) = x.g t + x.u := by
  intro t
  induction t using Nat.strongRecOn with
  | _ t ih =>
    intro ht
    by_cases c : t < x.s + x.q
    · rcases k.hz.rep with e | h
      · have a := k.per t ht
        have b := k.per x.s (Nat.le_refl _)
        unfold Gd.u
        rw [e]; omega
      · have := h t ht c
        unfold Gd.u
        omega
    · have a := ih (t - x.q) (by have := k.q0; omega) (by omega)
      have b := k.per (t - x.q) (by omega)
      have c := k.per (t - x.q + x.z) (by omega)
      rw [show t - x.q + x.q = t by omega] at b
      rw [show t - x.q + x.z + x.q = t + x.z by omega] at c
      omega
theorem Ok.step {x : Gd} (k : x.Ok) (t : Nat) (ht : x.h ≤ t) : x.g (t + x.z) = x.g t + x.u := by
  by_cases c : t < x.s
  · exact k.hh.go t ht c
  · exact k.stepS t (by omega)
theorem Ok.steps {x : Gd} (k : x.Ok) (t : Nat) (ht : x.h ≤ t) : ∀ n : Nat, x.g (t + n * x.z) = x.g t + (n : Int) * x.u := by
  intro n
  induction n with
  | zero => simp
  | succ n ih =>
    rw [Nat.succ_mul, ← Nat.add_assoc, k.step _ (by omega), ih]
    push_cast
    rw [Int.add_mul]; omega
theorem Ok.hz_len {x : Gd} (k : x.Ok) : 1 ≤ x.z ∧ x.h + x.z ≤ 400 := by
  have := k.hz.pos; have := k.hz.le; have := k.hh.le; have := k.l1; have := k.q1
  unfold Gd.s at *
  omega
theorem Ok.u_bd {x : Gd} (k : x.Ok) : x.u.natAbs ≤ 2000000000 := by
  have fl : ∀ t, t < x.ns.length → (x.g t).natAbs ≤ 1000000000 := fun t ht => by
    unfold Gd.g
    rw [fS_lt ht]
    exact k.hf t ht ht
  by_cases e : x.z = x.q
  · have := k.per x.s (Nat.le_refl _)
    have := k.hr
    unfold Gd.u
    rw [e]; omega
  · have := k.hz.le; have := k.q1; have := k.l0; have := k.q0
    have a := fl (x.s + x.z) (by unfold Gd.s; omega)
    have b := fl x.s (by unfold Gd.s; omega)
    unfold Gd.u
    omega
end Gd
/-! ### values -/
theorem e_divmod {M : Store} {i j : Int} (h0 : 0 < j) (h1 : j < 1073741824) : fDivmod [.t (.int i), .t (.int j)] M = .ok (.t (.tup [.int (i / j), .int (i % j)])) M := by
  unfold fDivmod
  exact if_pos ⟨h0, PyProof.noPylong_small (by omega)⟩
end K04


set_option Elab.async false
set_option linter.all false
set_option maxRecDepth 100000
set_option maxHeartbeats 400000
/-! k00: both sides of == -/
namespace K04
open PySem PySem.Spec PyProof.Rows L2 VL
theorem eq_bl {M : Store} (a b : Bool) : oEq (.t (.bl a)) (.t (.bl b)) M = .ok (.t (.bl (a == b))) M := by
  rw [e_eqD (d := .bl a) (e := .bl b) rfl rfl (shaped_of (n := 1) (by rw [shp]) (by omega)) (shaped_of (n := 1) (by rw [shp]) (by omega)), D.py, D.py, PyData.eqv]
theorem ne_bl {M : Store} (a b : Bool) : oNe (.t (.bl a)) (.t (.bl b)) M = .ok (.t (.bl (!(a == b)))) M := by
  rw [e_neD (d := .bl a) (e := .bl b) rfl rfl (shaped_of (n := 1) (by rw [shp]) (by omega)) (shaped_of (n := 1) (by rw [shp]) (by omega)), D.py, D.py, PyData.eqv]
/-- a comprehension over a list of our own -/
theorem comp_map {α : Type} {xs : List α} (f g : α → D) {j : Nat} {elt : SemE} {Γ : VEnv} {M : Store} (hM : Pl M) (hl : xs.length ≤ 16777216)
    (step : ∀ x acc, x ∈ xs → ∃ r, elt (Γ.set j (some (.t (f x)))) (M ++ [.lst acc]) = .ok r (M ++ [.lst acc]) ∧ r.w = .t (g x)) :
    compL ⟨xs.map f, none⟩ (.nm j) vYes elt M.length Γ (xs.map f) (M ++ [.lst []]) = .ok (.f (.lst (xs.map g))) M := by
  obtain ⟨acc, M', h1, h2, h3⟩ := comp_rule (ds := xs.map f) (b := .nm j) (cond := vYes) (elt := elt) (k := M.length) (Γ := Γ) (fun i acc M' => acc = (xs.take i).map g ∧ M' = M)
    (fun i acc M' ⟨h1, h2⟩ => ⟨by rw [h2], by rw [h2]; exact hM, by
      rw [h1, List.length_map, List.length_take]
      exact Nat.min_le_left _ _⟩) (by simpa using hl)
    (fun i d acc M' hd ⟨h1, h2⟩ => by
      subst h2
      rw [List.getElem?_map] at hd
      obtain ⟨x, hx, rfl⟩ := Option.map_eq_some_iff.mp hd
      obtain ⟨r, q1, q2⟩ := step x acc (List.mem_of_getElem? hx)
      refine ⟨_, rfl, .inr ⟨_, r, g x, M', rfl, q1, q2, ?_, rfl⟩⟩
      rw [List.take_add_one, hx, h1]
      simp)
    (M := M) ⟨by simp, rfl⟩
  rw [h1, h2, h3, List.length_map, List.take_length]
/-- a loop whose turns change nothing but its own name -/
theorem for_keep {ds : List D} {j : Nat} {body : SemS} {Γ : VEnv} {M : Store} (step : ∀ d ∈ ds, body (Γ.set j (some (.t d))) M = .ok .nx (Γ.set j (some (.t d))) M) :
    ∃ Γ', (Γ' = Γ ∨ ∃ d, Γ' = Γ.set j (some (.t d))) ∧ forL ⟨ds, none⟩ (tgN j) body M.length ds Γ M = .ok .nx Γ' M := by
  obtain ⟨Γ', M', e, h1, h2⟩ := for_all (ds := ds) (t := tgN j) (m0 := M.length) (body := body) (fun i Γ' M' => (Γ' = Γ ∨ ∃ d, Γ' = Γ.set j (some (.t d))) ∧ M' = M)
    (fun i Γ' M' ⟨_, e⟩ => by rw [e])
    (fun i d Γ' M' hd ⟨h1, h2⟩ => by
      subst h2
      have hm := List.mem_of_getElem? hd
      refine ⟨Γ.set j (some (.t d)), M', ?_, .inr ⟨d, rfl⟩, rfl⟩
      unfold turnR
      rcases h1 with rfl | ⟨d', rfl⟩
      · exact step d hm
      · simp only [e_tgN, List.set_set]
        exact step d hm)
    (Γ := Γ) (M := M) ⟨.inl rfl, rfl⟩
  subst h2
  exact ⟨Γ', h1, e⟩
end K04


set_option Elab.async false
set_option linter.all false
set_option maxRecDepth 100000
set_option maxHeartbeats 400000
/-! k00: the sides -/
namespace K04
open PySem PySem.Spec PyProof.Rows L2 VL
theorem shp_wholeN (n : Nat) (g : Nat → Int) (z h : Nat) (u : Int) : shp (n + 2) (whole g z h u) = true := by
  unfold whole
  simp [shp, shps, shps_ints]
theorem shps_map {α : Type} {n : Nat} {f : α → D} (h : ∀ x, shp n (f x) = true) : ∀ xs : List α, shps n (xs.map f) = true
  | [] => by rw [List.map_nil, shps]
  | x :: xs => by rw [List.map_cons, shps, h x, shps_map h xs]; rfl
theorem ne_int {M : Store} (i : Int) : oNe (.t (.int i)) (.t (.int i)) M = .ok (.t (.bl false)) M := by simp
end K04


set_option Elab.async false
set_option linter.all false
set_option maxRecDepth 100000
set_option maxHeartbeats 400000
/-! k00: flat -/
namespace K04
open PySem PySem.Spec PyProof.Rows L2 VL
/-! ### comprehensions over cells -/
theorem comp_ruleS {s : Src} {b : Bd} {cond : ES Bool} {elt : SemE} {k : Nat} {Γ : VEnv} (J : Nat → List D → Store → Prop) (hm : ∀ i acc M, J i acc M → M.length = k ∧ Pl M ∧ acc.length ≤ i ∧ s.chk M ∧ s.chk (M ++ [.lst acc])) (hl : s.ds.length ≤ 16777216)
    (step : ∀ i d acc M, s.ds[i]? = some d → J i acc M → ∃ Γ1, b.bind d Γ = some Γ1 ∧ ((∃ M1, cond Γ1 (M ++ [.lst acc]) = .ok false (M1 ++ [.lst acc]) ∧ J (i + 1) acc M1) ∨
      ∃ M1 r e M2, cond Γ1 (M ++ [.lst acc]) = .ok true M1 ∧ elt Γ1 M1 = .ok r (M2 ++ [.lst acc]) ∧ r.w = .t e ∧ J (i + 1) (acc ++ [e]) M2)) :
    ∀ {M : Store}, J 0 [] M → ∃ acc M', compL s b cond elt k Γ s.ds (M ++ [.lst []]) = .ok (.f (.lst acc)) M' ∧ J s.ds.length acc M' := by
  have key : ∀ (n i : Nat), i + n = s.ds.length → ∀ {acc : List D} {M : Store}, J i acc M → ∃ acc' M', compL s b cond elt k Γ (s.ds.drop i) (M ++ [.lst acc]) = .ok (.f (.lst acc')) M' ∧ J s.ds.length acc' M' := by
    intro n
    induction n with
    | zero =>
      intro i hi acc M hJ
      have e : i = s.ds.length := by omega
      subst e
      rw [List.drop_length]
      unfold compL
      obtain ⟨h1, h2, h3, h4, h5⟩ := hm _ _ _ hJ
      rw [cIf_pos h5]
      have g1 : (M ++ [Cel.lst acc])[k]? = some (.lst acc) := by rw [← h1]; simp
      rw [g1]
      dsimp only
      have g2 : (M ++ [Cel.lst acc]).take k = M := by rw [← h1]; simp
      rw [if_pos ⟨by simp [h1], by rw [g2]; exact h2.ok _⟩, g2]
      exact ⟨acc, M, rfl, hJ⟩
    | succ n ih =>
      intro i hi acc M hJ
      have hlt : i < s.ds.length := by omega
      rw [List.drop_eq_getElem_cons hlt]
      unfold compL
      obtain ⟨h1, h2, h3, h4, h5⟩ := hm _ _ _ hJ
      rw [cIf_pos h5]
      obtain ⟨Γ1, eb, ⟨M1, ec, hJ1⟩ | ⟨M1, r, e, M2, ec, ee, er, hJ2⟩⟩ := step i s.ds[i] acc M (List.getElem?_eq_getElem hlt) hJ
      · rw [eb]
        dsimp only
        rw [ec]
        dsimp only
        obtain ⟨q1, q2, q3, _⟩ := hm _ _ _ hJ1
        rw [if_pos (by simp [q1])]
        exact ih (i + 1) (by omega) hJ1
      · rw [eb]
        dsimp only
        rw [ec]
        dsimp only
        rw [ee]
        dsimp only
        obtain ⟨q1, q2, q3, _⟩ := hm _ _ _ hJ2
        unfold kElt
        have g1 : (M2 ++ [Cel.lst acc])[k]? = some (.lst acc) := by rw [← q1]; simp
        rw [er, g1]
        dsimp only
        rw [if_pos (by omega), if_pos (by simp [q1])]
        have g2 : (M2 ++ [Cel.lst acc]).set k (.lst (acc ++ [e])) = M2 ++ [.lst (acc ++ [e])] := by rw [← q1]; simp
        rw [g2]
        exact ih (i + 1) (by omega) hJ2
  intro M hJ
  exact key s.ds.length 0 (by omega) hJ
end K04


set_option Elab.async false
set_option linter.all false
set_option maxRecDepth 100000
set_option maxHeartbeats 400000
/-! curves as functions: the canonical form is the function's alone -/
namespace K04
open PySem PySem.Spec PyProof.Rows L2 VL
/-- from some tick on the function goes up by the same in each p ticks -/
def Ev (g : Nat → Int) (p : Nat) : Prop := ∃ (s : Nat) (r : Int), ∀ t, s ≤ t → g (t + p) = g t + r
/-- z, h, u are the canonical period, head, rise of g -/
structure Cv (g : Nat → Int) (z h : Nat) (u : Int) : Prop where
  pos : 1 ≤ z
  step : ∀ t, h ≤ t → g (t + z) = g t + u
  zmin : ∀ p, 1 ≤ p → Ev g p → z ≤ p
  hmin : h = 0 ∨ g (h - 1 + z) ≠ g (h - 1) + u
theorem Ev.sub {g : Nat → Int} {p q : Nat} (hp : Ev g p) (hq : Ev g q) (h : p ≤ q) : Ev g (q - p) := by
  obtain ⟨s, r, e⟩ := hp
  obtain ⟨s', r', e'⟩ := hq
  refine ⟨max s s', r' - r, fun t ht => ?_⟩
  have a := e' t (by omega)
  have b := e (t + (q - p)) (by omega)
  rw [show t + (q - p) + p = t + q by omega] at b
  omega
theorem Ev.gcd {g : Nat → Int} : ∀ n p q, p + q ≤ n → 1 ≤ p → 1 ≤ q → Ev g p → Ev g q → Ev g (Nat.gcd p q) := by
  intro n
  induction n with
  | zero => intro p q h h1; omega
  | succ n ih =>
    intro p q h h1 h2 hp hq
    rcases Nat.lt_trichotomy p q with c | c | c
    · have := ih p (q - p) (by omega) h1 (by omega) hp (hp.sub hq (by omega))
      rwa [Nat.gcd_sub_self_right (by omega)] at this
    · subst c; rw [Nat.gcd_self]; exact hp
    · have := ih (p - q) q (by omega) (by omega) h2 (hq.sub hp (by omega)) hq
      rwa [Nat.gcd_sub_self_left (by omega)] at this
theorem per_mul {g : Nat → Int} {s p : Nat} {r : Int} (h : ∀ t, s ≤ t → g (t + p) = g t + r) (t : Nat) (ht : s ≤ t) : ∀ n : Nat, g (t + n * p) = g t + (n : Int) * r := by
  intro n
  induction n with
  | zero => simp
  | succ n ih =>
    rw [Nat.succ_mul, ← Nat.add_assoc, h _ (by omega), ih]
    push_cast
    rw [Int.add_mul]; omega
theorem Ev.rep {g : Nat → Int} {s p d : Nat} {r : Int} (h : ∀ t, s ≤ t → g (t + p) = g t + r) (p0 : 1 ≤ p) (hd : Ev g d) : ∀ t, s ≤ t → g (t + d) - g t = g (s + d) - g s := by
  obtain ⟨s', r', e⟩ := hd
  have key : ∀ t, s ≤ t → g (t + d) - g t = r' := fun t ht => by
    have a := per_mul h t ht s'
    have b := per_mul h (t + d) (by omega) s'
    have c := e (t + s' * p) (by have : s' ≤ s' * p := Nat.le_mul_of_pos_right _ p0; omega)
    rw [show t + s' * p + d = t + d + s' * p by omega] at c
    omega
  intro t ht
  rw [key t ht, key s (Nat.le_refl _)]
/-- what the program and the law reckon is canonical -/
theorem cv_of {g : Nat → Int} {s p z h : Nat} {r : Int} (p0 : 1 ≤ p) (per : ∀ t, s ≤ t → g (t + p) = g t + r) (hz : IsSz g s p z) (hh : IsHd g s z (g (s + z) - g s) h) : Cv g z h (g (s + z) - g s) := by
  have stepS : ∀ t, s ≤ t → g (t + z) = g t + (g (s + z) - g s) := by
    intro t
    induction t using Nat.strongRecOn with
    | _ t ih =>
      intro ht
      by_cases c : t < s + p
      · rcases hz.rep with e | q
        · have a := per t ht
          have b := per s (Nat.le_refl _)
          rw [e]; omega
        · have := q t ht c; omega
      · have a := ih (t - p) (by omega) (by omega)
        have b := per (t - p) (by omega)
        have c := per (t - p + z) (by omega)
        rw [show t - p + p = t by omega] at b
        rw [show t - p + z + p = t + z by omega] at c
        omega
  refine ⟨hz.pos, fun t ht => ?_, fun q q0 hq => ?_, hh.stop⟩
  · by_cases c : t < s
    · exact hh.go t ht c
    · exact stepS t (by omega)
  · have hp : Ev g p := ⟨s, r, per⟩
    have hd := Ev.gcd _ p q (Nat.le_refl _) p0 q0 hp hq
    have dp := Nat.gcd_dvd_left p q
    have dq := Nat.gcd_dvd_right p q
    have d0 : 1 ≤ Nat.gcd p q := Nat.gcd_pos_of_pos_left _ p0
    have dle : Nat.gcd p q ≤ p := Nat.le_of_dvd p0 dp
    have dleq : Nat.gcd p q ≤ q := Nat.le_of_dvd q0 dq
    by_cases c : Nat.gcd p q < z
    · exact absurd (fun t ht _ => Ev.rep per p0 hd t ht) (hz.least _ d0 c (Nat.mod_eq_zero_of_dvd dp))
    · omega
theorem Cv.uniq {g : Nat → Int} {z h z' h' : Nat} {u u' : Int} (a : Cv g z h u) (b : Cv g z' h' u') : z = z' ∧ h = h' ∧ u = u' := by
  have e : z = z' := Nat.le_antisymm (a.zmin z' b.pos ⟨h', u', b.step⟩) (b.zmin z a.pos ⟨h, u, a.step⟩)
  subst e
  have eu : u = u' := by
    have x := a.step (max h h') (by omega)
    have y := b.step (max h h') (by omega)
    omega
  subst eu
  refine ⟨rfl, ?_, rfl⟩
  rcases Nat.lt_trichotomy h h' with c | c | c
  · exact absurd (a.step (h' - 1) (by omega)) (b.hmin.resolve_left (by omega))
  · exact c
  · exact absurd (b.step (h - 1) (by omega)) (a.hmin.resolve_left (by omega))
theorem Cv.dvd {g : Nat → Int} {z h p : Nat} {u : Int} (a : Cv g z h u) (p0 : 1 ≤ p) (hp : Ev g p) : z ∣ p := by
  have hd := Ev.gcd _ z p (Nat.le_refl _) a.pos p0 ⟨h, u, a.step⟩ hp
  have le := a.zmin _ (Nat.gcd_pos_of_pos_left _ a.pos) hd
  have := Nat.le_of_dvd a.pos (Nat.gcd_dvd_left z p)
  have e : Nat.gcd z p = z := by omega
  rw [← e]; exact Nat.gcd_dvd_right z p
theorem Cv.head_le {g : Nat → Int} {z h s p : Nat} {u r : Int} (a : Cv g z h u) (p0 : 1 ≤ p) (per : ∀ t, s ≤ t → g (t + p) = g t + r) : h ≤ s := by
  by_cases c : h ≤ s
  · exact c
  · exfalso
    refine a.hmin.resolve_left (by omega) ?_
    have := Ev.rep per p0 ⟨h, u, a.step⟩
    have x := this (h - 1) (by omega)
    have y := this h (by omega)
    have w := a.step h (Nat.le_refl _)
    omega
theorem Cv.mul {g : Nat → Int} {z h : Nat} {u : Int} (a : Cv g z h u) (t : Nat) (ht : h ≤ t) (n : Nat) : g (t + n * z) = g t + (n : Int) * u := per_mul a.step t ht n
/-- the gain in P ticks -/
def gain (u : Int) (z P : Nat) : Int := u * ((P / z : Nat) : Int)
theorem Cv.gain {g : Nat → Int} {z h P : Nat} {u : Int} (a : Cv g z h u) (hd : z ∣ P) (t : Nat) (ht : h ≤ t) : g (t + P) = g t + gain u z P := by
  have := a.mul t ht (P / z)
  rw [Nat.div_mul_cancel hd] at this
  rw [this]
  unfold K04.gain
  rw [Int.mul_comm]
/-- a told row goes on as its function -/
theorem fS_row {g : Nat → Int} {s p : Nat} {r : Int} (p0 : 1 ≤ p) (per : ∀ t, s ≤ t → g (t + p) = g t + r) : fS (rowG g (s + p)) p r = g := by
  funext t
  induction t using Nat.strongRecOn with
  | _ t ih =>
    by_cases c : t < s + p
    · rw [fS_lt (by rw [rowG_len]; exact c)]
      unfold rowG
      simp
    · rw [fS_ge p0 (by rw [rowG_len]; omega) (by rw [rowG_len]; omega), ih (t - p) (by omega)]
      have := per (t - p) (by omega)
      rw [show t - p + p = t by omega] at this
      omega
end K04

set_option Elab.async false
set_option linter.all false
set_option maxRecDepth 100000
set_option maxHeartbeats 400000
/-! curves made of rows -/
namespace K04
open PySem PySem.Spec PyProof.Rows L2 VL
section
variable {M : Store} {g : Nat → Int} {s p : Nat} {r : Int}
theorem canon_row (hM : Pl M) (p0 : 1 ≤ p) (hl : s + p ≤ 1000000) (hr : r.natAbs < 2 ^ 5000) (per : ∀ t, s ≤ t → g (t + p) = g t + r) :
    ∃ z h u, Cv g z h u ∧ h + z ≤ s + p ∧ z ≤ p ∧ h ≤ s ∧ ∀ M, Pl M → ph_canonical [.t (.lst ((rowG g (s + p)).map .int)), .t (nD p), .t (.int r)] M = .ok (.t (.tup [.tup ((rowG g (h + z)).map .int), nD z, .int u])) M := by
  have ef := fS_row p0 per
  have el : (rowG g (s + p)).length - p = s := by rw [rowG_len]; omega
  obtain ⟨z, h, hz, hh, e⟩ := canonical_ok (M := M) (ns := rowG g (s + p)) (q := p) (r := r) hM p0 (by rw [rowG_len]; omega) (by rw [rowG_len]; exact hl) hr
  rw [ef, el] at hz hh e
  have cv := cv_of p0 per hz hh
  refine ⟨z, h, _, cv, ?_, hz.le, hh.le, fun M' hM' => ?_⟩
  · have := hz.le; have := hh.le; omega
  · obtain ⟨z', h', hz', hh', e'⟩ := canonical_ok (M := M') (ns := rowG g (s + p)) (q := p) (r := r) hM' p0 (by rw [rowG_len]; omega) (by rw [rowG_len]; exact hl) hr
    rw [ef, el] at hz' hh' e'
    have := hz'.uniq hz
    subst this
    have := hh'.uniq hh
    subst this
    exact e'
theorem cv_full (p0 : 1 ≤ p) (hl : s + p ≤ 1000000) (hr : r.natAbs < 2 ^ 5000) (per : ∀ t, s ≤ t → g (t + p) = g t + r) : ∃ z h u, Cv g z h u ∧ h + z ≤ s + p ∧ z ≤ p ∧ h ≤ s := by
  obtain ⟨z, h, u, a, b, c, d, _⟩ := canon_row (M := []) Pl.nil p0 hl hr per
  exact ⟨z, h, u, a, b, c, d⟩
theorem canon_is {z h : Nat} {u : Int} (hM : Pl M) (p0 : 1 ≤ p) (hl : s + p ≤ 1000000) (hr : r.natAbs < 2 ^ 5000) (per : ∀ t, s ≤ t → g (t + p) = g t + r) (cv : Cv g z h u) :
    ph_canonical [.t (.lst ((rowG g (s + p)).map .int)), .t (nD p), .t (.int r)] M = .ok (.t (.tup [.tup ((rowG g (h + z)).map .int), nD z, .int u])) M := by
  obtain ⟨z', h', u', cv', _, _, _, e⟩ := canon_row hM p0 hl hr per
  obtain ⟨rfl, rfl, rfl⟩ := cv'.uniq cv
  exact e M hM
theorem Cv.next {z h : Nat} {u : Int} (cv : Cv g z h u) : g (h + z) = g h + u := cv.step h (Nat.le_refl _)
theorem whole_is {z h K : Nat} {u : Int} (hM : Pl M) (p0 : 1 ≤ p) (hK : s + p + p ≤ K) (hl : K ≤ 1000000) (per : ∀ t, s ≤ t → g (t + p) = g t + r) (cv : Cv g z h u) :
    ph_law_whole [.t (.lst ((rowG g K).map .int)), .t (nD s), .t (nD p)] M = .ok (.t (whole g z h u)) M := by
  obtain ⟨z', h', hz', hh', e⟩ := whole_ok (M := M) (g := g) (K := K) (s := s) (p := p) hM p0 hK hl
  have cv' := cv_of p0 per hz' hh'
  obtain ⟨rfl, rfl, eu⟩ := cv'.uniq cv
  rw [eu] at e
  exact e
end
/-- the curve [0, 0, ..] -/
theorem zero_cv : Cv (fun _ => 0) 1 0 0 := ⟨Nat.le_refl _, fun _ _ => rfl, fun _ h _ => h, .inl rfl⟩
theorem zero_made {M : Store} (hM : Pl M) : ∃ d, vMakeK true 5 4 ph_Curve_init [.t (.tup [.int 0]), .t (.int 1), .t (.int 0)] M = .ok (.f (.ins 5 [5, 6, 7, 8, 9, 10] d)) M ∧ d.length = 6 := by
  have k : (⟨[0], 1, 0, 1, 0⟩ : Gd).Ok := {
    l0 := Nat.le_refl _
    l1 := by show 1 ≤ 400; omega
    hf := fun j hj _ => by
      have : j = 0 := by have : j < 1 := hj; omega
      subst this
      show (0 : Int).natAbs ≤ _; omega
    q0 := Nat.le_refl _
    q1 := Nat.le_refl _
    hr := by show (0 : Int).natAbs ≤ _; omega
    hz := ⟨Nat.le_refl _, Nat.le_refl _, Nat.mod_self 1, .inl rfl, fun k k1 k2 => by have : k < 1 := k2; omega⟩
    hh := ⟨Nat.zero_le _, fun j _ hj => by have : j < 1 - 1 := hj; omega, .inl rfl⟩ }
  have mk : vMakeK true 5 4 ph_Curve_init [.t (.tup [.int 0]), .t (.int 1), .t (.int 0)] M = .ok (.f (Gd.cur ⟨[0], 1, 0, 1, 0⟩)) M := k.made hM (w := .t (.tup ([(0 : Int)].map .int))) .tup
  exact ⟨_, mk, rfl⟩
theorem loose_is {M : Store} {g : Nat → Int} {s p z h : Nat} {r u : Int} {w : D} (hw : w = .lst ((rowG g (s + p)).map .int) ∨ w = .tup ((rowG g (s + p)).map .int)) (hM : Pl M) (p0 : 1 ≤ p) (hl : s + p ≤ 1000000) (hr : r.natAbs < 2 ^ 5000) (per : ∀ t, s ≤ t → g (t + p) = g t + r) (cv : Cv g z h u) (hz : h + z ≤ 1000000) :
    ph_loose [.t w, .t (nD p), .t (.int r)] M = .ok (.f (curD g z h u)) M := by
  unfold ph_loose
  rw [fnSem_ap]
  unfold m_loose
  have hli : ∀ M, fList [.t w] M = .ok (.f (.lst ((rowG g (s + p)).map .int))) M := fun M => by
    rcases hw with rfl | rfl
    · exact e_listL _
    · exact e_listT _
  have ec := canon_is hM p0 hl hr per cv
  obtain ⟨d, mk, dl⟩ := zero_made hM
  obtain ⟨d0, d1, d2, d3, d4, d5, rfl⟩ : ∃ d0 d1 d2 d3 d4 d5, d = [d0, d1, d2, d3, d4, d5] := by
    match d, dl with
    | [d0, d1, d2, d3, d4, d5], _ => exact ⟨d0, d1, d2, d3, d4, d5, rfl⟩
  have zp := cv.pos
  have red : ∀ M, ph_reduced [.t (.int u), .t (nD z)] M = _ := fun M => reduced_ok zp (by omega)
  obtain ⟨wv, hfl, _⟩ := fall_ok (M := M) (h := h) (z := z) zp hz cv.next
  have efl : ∀ M, ph_first_fall [.t (.tup ((rowG g (h + z)).map .int)), .t (nD h), .t (.int u)] M = .ok (.t wv) M := fun M => by
    obtain ⟨wv', hfl', e'⟩ := fall_ok (M := M) (h := h) zp hz cv.next
    rw [hfl.uniq hfl']; exact e'
  have ehd : ((h : Int) + (z : Int)) - (z : Int) = (h : Int) := by omega
  have kn : ∀ (Γ : VEnv) (M : Store), kNew 6 (.f (.ins 5 [5, 6, 7, 8, 9, 10] [d0, d1, d2, d3, d4, d5])) Γ M = .ok .nx (Γ.set 6 (some (.l M.length))) (M ++ [.obj 5 [(5, .t d0), (6, .t d1), (7, .t d2), (8, .t d3), (9, .t d4), (10, .t d5)]]) := fun Γ M => rfl
  have tk : ∀ (n : Nat) (N : Store) (a b c d e f : D), kTakeC n N (some (.obj 5 [(5, .t a), (6, .t b), (7, .t c), (8, .t d), (9, .t e), (10, .t f)])) = .ok (.f (.ins 5 [5, 6, 7, 8, 9, 10] [a, b, c, d, e, f])) (N.set n .dead) := fun n N a b c d e f => rfl
  simp -implicitDefEqProofs [-List.append_assoc, hli, ec, mk, kn, cell0, set0, putW, List.lookup, red, efl, ehd, hfl.non_iff, tk, cutM_app hM]
  unfold curD curF
  simp
theorem made_is {M : Store} {g : Nat → Int} {s p z h : Nat} {r u : Int} {w : D} (hw : w = .lst ((rowG g (s + p)).map .int) ∨ w = .tup ((rowG g (s + p)).map .int)) (hM : Pl M) (p0 : 1 ≤ p) (hl : s + p ≤ 1000000) (hr : r.natAbs < 2 ^ 5000) (per : ∀ t, s ≤ t → g (t + p) = g t + r) (cv : Cv g z h u) (hz : h + z ≤ 1000000) :
    ph_made [.t w, .t (nD p), .t (.int r)] M = if h + z ≤ 400 then .ok (.t (curD g z h u)) M else .exc 3 [(3, nD (h + z))] M := by
  unfold ph_made
  rw [fnSem_ap]
  unfold m_made
  have el := loose_is hw hM p0 hl hr per cv hz
  have fl : ∀ M, fFld [5] 5 (.t (curD g z h u)) M = .ok (.t (.tup ((rowG g (h + z)).map .int))) M := fun M => rfl
  by_cases c : h + z ≤ 400
  · have c' : ¬ (400 : Int) < (h : Int) + (z : Int) := by omega
    rw [if_pos c]
    simp -implicitDefEqProofs [-List.append_assoc, el, fl, c', cutM_same]
  · have c' : (400 : Int) < (h : Int) + (z : Int) := by omega
    rw [if_neg c]
    have kr : ∀ (Γ : VEnv) (M : Store), kRaise 3 2 [(3, 1)] [.t (.int ((h : Int) + (z : Int)))] Γ M = .exc 3 [(3, nD (h + z))] Γ M := fun Γ M => by
      have e : kRaise 3 2 [(3, 1)] [.t (.int ((h : Int) + (z : Int)))] Γ M = .exc 3 [(3, .int ((h : Int) + (z : Int)))] Γ M := kRaise_of rfl rfl
      rw [e]
      simp [nD]
    simp -implicitDefEqProofs [-List.append_assoc, el, fl, c', kr, cutM_same]
end K04

set_option Elab.async false
set_option linter.all false
set_option maxRecDepth 100000
set_option maxHeartbeats 400000
/-! first numbers, gains, common periods; the law's own -/
namespace K04
open PySem PySem.Spec PyProof.Rows L2 VL
/-- a canonical curve of no great numbers -/
structure Cur (B : Nat) (g : Nat → Int) (z h : Nat) (u : Int) : Prop where
  cv : Cv g z h u
  len : h + z ≤ 2500
  ub : u.natAbs ≤ B
  vb : ∀ t, t ≤ 6000 → (g t).natAbs ≤ B
section
variable {M : Store} {g : Nat → Int} {z h : Nat} {u : Int}
theorem row_succ (g : Nat → Int) (k : Nat) : rowG g (k + 1) = rowG g k ++ [g k] := by
  unfold rowG
  rw [List.range_succ, List.map_append]
  rfl
theorem take_rowG {g : Nat → Int} {k n : Nat} (h : k ≤ n) : (rowG g n).take k = rowG g k := by
  unfold rowG
  rw [← List.map_take, List.take_range, Nat.min_eq_left h]
theorem first_ok (cv : Cv g z h u) (hM : Pl M) {n : Nat} (hn : n ≤ 1000000) (hz : h + z ≤ 1000000) : ph_first_numbers [.t (curD g z h u), .t (nD n)] M = .ok (.f (.lst ((rowG g n).map .int))) M := by
  unfold ph_first_numbers
  rw [fnSem_ap]
  unfold m_first_numbers
  have f5 : ∀ M, fFld [5] 5 (.t (curD g z h u)) M = .ok (.t (.tup ((rowG g (h + z)).map .int))) M := fun M => rfl
  have f6 : ∀ M, fFld [5] 6 (.t (curD g z h u)) M = .ok (.t (nD z)) M := fun M => rfl
  have f7 : ∀ M, fFld [5] 7 (.t (curD g z h u)) M = .ok (.t (.int u)) M := fun M => rfl
  have zp := cv.pos
  have cut := cutD_to (xs := (rowG g (h + z)).map D.int) (i := (n : Int)) (k := n) rfl
  rw [← List.map_take] at cut
  by_cases c : n ≤ h + z
  · rw [take_rowG c] at cut
    simp -implicitDefEqProofs [-List.append_assoc, f5, f6, f7, cut, cell0, e_lenC (cell0 (M := M) rfl)]
    rw [kRange2_of (by omega) (by omega) (by omega) (by omega)]
    simp -implicitDefEqProofs [-List.append_assoc]
    have : rangeD (n : Int) 0 = [] := rfl
    rw [this]
    unfold forL
    rw [cIf_pos (chk_none _ _)]
    simp -implicitDefEqProofs [-List.append_assoc, cell0, set0, cutM_app hM]
  · rw [List.take_of_length_le (by rw [rowG_len]; omega)] at cut
    simp -implicitDefEqProofs [-List.append_assoc, f5, f6, f7, cut, cell0, e_lenC (cell0 (M := M) rfl)]
    rw [kRange2_of (by omega) (by omega) (by omega) (by omega)]
    have hk : ((n : Int) - ((h : Int) + (z : Int))).toNat = n - (h + z) := by omega
    simp -implicitDefEqProofs [-List.append_assoc, hk]
    obtain ⟨Γ', M', e4, x3, g1, g2⟩ := for_all (ds := rangeD ((h : Int) + (z : Int)) (n - (h + z))) (t := tgN 3) (m0 := M.length + 1) (body := vDrop (vMt mAppend (vVar 2) (vCons (vOp oPlus (vOp oIx (vVar 2) (vOp oSub (vVar 3) (vFld [5] 6 (vVar 0)))) (vFld [5] 7 (vVar 0))) (vNil))))
      (fun i Γ M' => ∃ x3, Γ = [some (.t (curD g z h u)), some (.t (nD n)), some (.l M.length), x3] ∧ M' = M ++ [.lst ((rowG g (h + z + i)).map .int)])
      (fun i Γ M' ⟨_, _, e⟩ => by rw [e]; simp)
      (fun i d Γ M' hd ⟨x3, g1, g2⟩ => by
        obtain ⟨hi, rfl⟩ := rangeD_get hd
        subst g1 g2
        refine ⟨[some (.t (curD g z h u)), some (.t (nD n)), some (.l M.length), some (.t (.int ((h : Int) + (z : Int) + (i : Int))))], M ++ [.lst ((rowG g (h + z + (i + 1))).map .int)], ?_, _, rfl, rfl⟩
        have ha : L2.atI ((rowG g (h + z + i)).map D.int) ((h : Int) + (z : Int) + (i : Int) - (z : Int)) = some (.int (g (h + i))) := rowG_at (k := h + i) (by omega) (by omega)
        have st := cv.step (h + i) (by omega)
        rw [show h + i + z = h + z + i by omega] at st
        have ap : mAppend M.length [.t (.int (g (h + i) + u))] (M ++ [Cel.lst ((rowG g (h + z + i)).map .int)]) = .ok (.t .non) (M ++ [.lst ((rowG g (h + z + (i + 1))).map .int)]) := by
          rw [e_append (cell0 rfl) (by simp; omega), set0 rfl, ← Nat.add_assoc, row_succ, ← st]
          simp
        rw [turn_nm]
        simp -implicitDefEqProofs [-List.append_assoc, e_ixC (cell0 rfl), cell0, f6, f7, ha, ap])
      (Γ := [some (.t (curD g z h u)), some (.t (nD n)), some (.l M.length), none]) (M := M ++ [.lst ((rowG g (h + z)).map .int)])
      ⟨none, rfl, rfl⟩
    rw [e4]
    subst g1 g2
    rw [rangeD_len, show h + z + (n - (h + z)) = n by omega]
    simp -implicitDefEqProofs [-List.append_assoc, cell0, set0, cutM_app hM]
theorem gain_ok {P : Nat} (zp : 1 ≤ z) (hz : z ≤ 1000000) (hP : P ≤ 1000000) (hu : u.natAbs < 4611686018427387904) : ph_gain_in [.t (curD g z h u), .t (nD P)] M = .ok (.t (.int (gain u z P))) M := by
  unfold ph_gain_in
  rw [fnSem_ap]
  unfold m_gain_in
  have f6 : ∀ M, fFld [5] 6 (.t (curD g z h u)) M = .ok (.t (nD z)) M := fun M => rfl
  have f7 : ∀ M, fFld [5] 7 (.t (curD g z h u)) M = .ok (.t (.int u)) M := fun M => rfl
  have fd := e_fdiv62 (M := M) (i := (P : Int)) (j := (z : Int)) (by omega) (by omega)
  have ed : (P : Int) / (z : Int) = ((P / z : Nat) : Int) := by rw [Int.natCast_ediv]
  rw [ed] at fd
  have hb : P / z ≤ P := Nat.div_le_self _ _
  have tm := e_times62 (M := M) (i := u) (j := ((P / z : Nat) : Int)) hu (by rw [Int.natAbs_natCast]; omega)
  simp -implicitDefEqProofs [-List.append_assoc, -Int.natCast_ediv, f6, f7, fd, tm, cutM_same, gain]
theorem common_per {g' : Nat → Int} {z' h' : Nat} {u' : Int} (hz : z ≤ 1000000) (hz' : z' ≤ 1000000) :
    ph_common_period [.t (curD g z h u), .t (curD g' z' h' u')] M = if Nat.lcm z z' ≤ 400 then .ok (.t (nD (Nat.lcm z z'))) M else .exc 3 [(3, nD (Nat.lcm z z'))] M := by
  unfold ph_common_period
  rw [fnSem_ap]
  unfold m_common_period
  have f6 : ∀ M, fFld [5] 6 (.t (curD g z h u)) M = .ok (.t (nD z)) M := fun M => rfl
  have f6' : ∀ M, fFld [5] 6 (.t (curD g' z' h' u')) M = .ok (.t (nD z')) M := fun M => rfl
  have el : fLcm [.t (nD z), .t (nD z')] M = .ok (.t (nD (Nat.lcm z z'))) M := by
    rw [nD, nD, e_lcm (by omega) (by omega)]
    simp
  have kr : ∀ (Γ : VEnv) (M : Store) (k : Nat), kRaise 3 2 [(3, 1)] [.t (nD k)] Γ M = .exc 3 [(3, nD k)] Γ M := fun Γ M k => kRaise_of rfl rfl
  generalize Nat.lcm z z' = k at *
  by_cases c : k ≤ 400
  · have c' : ¬ (400 : Int) < (k : Int) := by omega
    rw [if_pos c]
    simp -implicitDefEqProofs [-List.append_assoc, f6, f6', el, c', cutM_same]
  · have c' : (400 : Int) < (k : Int) := by omega
    rw [if_neg c]
    simp -implicitDefEqProofs [-List.append_assoc, f6, f6', el, c', kr, cutM_same]
/-! ### the law's own -/
theorem due_at (g : Nat → Int) (z h : Nat) (u : Int) (M : Store) : oIx (.t (whole g z h u)) (.t (.int 0)) M = .ok (.t (.tup ((rowG g (h + z)).map .int))) M ∧ oIx (.t (whole g z h u)) (.t (.int 1)) M = .ok (.t (nD h)) M ∧
    oIx (.t (whole g z h u)) (.t (.int 2)) M = .ok (.t (nD z)) M ∧ oIx (.t (whole g z h u)) (.t (.int 3)) M = .ok (.t (.int u)) M := by
  unfold whole
  simp
theorem lrow_ok (cv : Cv g z h u) (hM : Pl M) {n : Nat} (hn : n ≤ 1000000) (hz : h + z ≤ 1000000) : ph_law_row [.t (whole g z h u), .t (nD n)] M = .ok (.f (.lst ((rowG g (max (h + z) n)).map .int))) M := by
  unfold ph_law_row
  rw [fnSem_ap]
  unfold m_law_row
  have d0 : ∀ M, oIx (.t (whole g z h u)) (.t (.int 0)) M = _ := fun M => (due_at g z h u M).1
  have d2 : ∀ M, oIx (.t (whole g z h u)) (.t (.int 2)) M = _ := fun M => (due_at g z h u M).2.2.1
  have d3 : ∀ M, oIx (.t (whole g z h u)) (.t (.int 3)) M = _ := fun M => (due_at g z h u M).2.2.2
  have zp := cv.pos
  simp -implicitDefEqProofs [-List.append_assoc, d0, e_lenC (cell0 (M := M) rfl)]
  rw [kRange2_of (by omega) (by omega) (by omega) (by omega)]
  have hk : ((n : Int) - ((h : Int) + (z : Int))).toNat = n - (h + z) := by omega
  simp -implicitDefEqProofs [-List.append_assoc, hk]
  obtain ⟨Γ', M', e4, x3, g1, g2⟩ := for_all (ds := rangeD ((h : Int) + (z : Int)) (n - (h + z))) (t := tgN 3) (m0 := M.length + 1) (body := vDrop (vMt mAppend (vVar 2) (vCons (vOp oPlus (vOp oIx (vVar 2) (vOp oSub (vVar 3) (vOp oIx (vVar 0) (vC (.int 2))))) (vOp oIx (vVar 0) (vC (.int 3)))) (vNil))))
    (fun i Γ M' => ∃ x3, Γ = [some (.t (whole g z h u)), some (.t (nD n)), some (.l M.length), x3] ∧ M' = M ++ [.lst ((rowG g (h + z + i)).map .int)])
    (fun i Γ M' ⟨_, _, e⟩ => by rw [e]; simp)
    (fun i d Γ M' hd ⟨x3, g1, g2⟩ => by
      obtain ⟨hi, rfl⟩ := rangeD_get hd
      subst g1 g2
      refine ⟨[some (.t (whole g z h u)), some (.t (nD n)), some (.l M.length), some (.t (.int ((h : Int) + (z : Int) + (i : Int))))], M ++ [.lst ((rowG g (h + z + (i + 1))).map .int)], ?_, _, rfl, rfl⟩
      have ha : L2.atI ((rowG g (h + z + i)).map D.int) ((h : Int) + (z : Int) + (i : Int) - (z : Int)) = some (.int (g (h + i))) := rowG_at (k := h + i) (by omega) (by omega)
      have st := cv.step (h + i) (by omega)
      rw [show h + i + z = h + z + i by omega] at st
      have ap : mAppend M.length [.t (.int (g (h + i) + u))] (M ++ [Cel.lst ((rowG g (h + z + i)).map .int)]) = .ok (.t .non) (M ++ [.lst ((rowG g (h + z + (i + 1))).map .int)]) := by
        rw [e_append (cell0 rfl) (by simp; omega), set0 rfl, ← Nat.add_assoc, row_succ, ← st]
        simp
      rw [turn_nm]
      simp -implicitDefEqProofs [-List.append_assoc, e_ixC (cell0 rfl), cell0, d2, d3, ha, ap])
    (Γ := [some (.t (whole g z h u)), some (.t (nD n)), some (.l M.length), none]) (M := M ++ [.lst ((rowG g (h + z)).map .int)])
    ⟨none, rfl, rfl⟩
  rw [e4]
  subst g1 g2
  rw [rangeD_len, show h + z + (n - (h + z)) = max (h + z) n by omega]
  simp -implicitDefEqProofs [-List.append_assoc, cell0, set0, cutM_app hM]
theorem limit_ok : ph_law_limit [.t (whole g z h u)] M = .ok (.t (if h + z ≤ 400 then whole g z h u else .tup [.str "long", nD (h + z)])) M := by
  unfold ph_law_limit
  rw [fnSem_ap]
  unfold m_law_limit
  have d1 : ∀ M, oIx (.t (whole g z h u)) (.t (.int 1)) M = _ := fun M => (due_at g z h u M).2.1
  have d2 : ∀ M, oIx (.t (whole g z h u)) (.t (.int 2)) M = _ := fun M => (due_at g z h u M).2.2.1
  by_cases c : h + z ≤ 400
  · have c' : ¬ (400 : Int) < (h : Int) + (z : Int) := by omega
    rw [if_pos c]
    simp -implicitDefEqProofs [-List.append_assoc, d1, d2, c', cutM_same]
  · have c' : (400 : Int) < (h : Int) + (z : Int) := by omega
    rw [if_neg c]
    simp -implicitDefEqProofs [-List.append_assoc, d1, d2, c', cutM_same, nD]
theorem lcommon_ok {a b : Nat} (a0 : 1 ≤ a) (b0 : 1 ≤ b) (ha : a ≤ 1000000) (hb : b ≤ 1000000) : ph_law_common [.t (nD a), .t (nD b)] M = .ok (.t (nD (Nat.lcm a b))) M := by
  unfold ph_law_common
  rw [fnSem_ap]
  unfold m_law_common
  have lc : ∀ k, (a * k) % b = 0 → Nat.lcm a b ∣ a * k := fun k h => Nat.lcm_dvd (Nat.dvd_mul_right a k) (Nat.dvd_of_mod_eq_zero h)
  have tm : ∀ (k : Nat), k ≤ 1000000 → ∀ M : Store, oTimes (.t (nD a)) (.t (nD k)) M = .ok (.t (nD (a * k))) M := fun k hk M => by
    rw [nD, nD, e_times62 (by omega) (by omega)]
    simp
  have md : ∀ (k : Nat) (M : Store), oMod (.t (nD k)) (.t (nD b)) M = .ok (.t (nD (k % b))) M := fun k M => by
    rw [nD, nD, e_mod (by omega)]
    simp
  simp -implicitDefEqProofs [-List.append_assoc]
  rw [kRange2_of (by omega) (by omega) (by omega) (by omega)]
  simp -implicitDefEqProofs [-List.append_assoc]
  have fr := for_rule (ds := rangeD 1 (b - 1)) (t := tgN 2) (m0 := M.length) (body := (vIfS (vTest (vOp oEq (vOp oMod (vCall fInt (vCons (vOp oTimes (vVar 0) (vVar 2)) (vNil))) (vVar 1)) (vC (.int 0)))) (vRet (vOp oTimes (vVar 0) (vVar 2))) (vNext)))
    (fun i Γ M' => ∃ x2, Γ = [some (.t (nD a)), some (.t (nD b)), x2] ∧ M' = M ∧ ∀ k, 1 ≤ k → k < 1 + i → (a * k) % b ≠ 0)
    (fun x => ∃ (k : Nat) (Γ' : VEnv), x = .ok (.rt (.t (nD (a * k)))) Γ' M ∧ 1 ≤ k ∧ k < b ∧ (a * k) % b = 0 ∧ ∀ j, 1 ≤ j → j < k → (a * j) % b ≠ 0)
    (fun i Γ M' ⟨_, _, e, _⟩ => by rw [e])
    (fun i d Γ M' hd ⟨x2, g1, g2, g3⟩ => by
      obtain ⟨hi, rfl⟩ := rangeD_get hd
      subst g1 g2
      rw [show (1 : Int) + (i : Int) = ((1 + i : Nat) : Int) by omega]
      generalize hk : 1 + i = k at *
      have t2 := tm k (by omega) M'
      rw [turn_nm]
      by_cases c : (a * k) % b = 0
      · refine .inr (.inl ⟨.t (nD (a * k)), [some (.t (nD a)), some (.t (nD b)), some (.t (nD k))], M', ?_, k, _, rfl, by omega, by omega, c, fun j j1 j2 => g3 j j1 j2⟩)
        simp -implicitDefEqProofs [-List.append_assoc, -Int.natCast_mul, -Int.natCast_emod, t2, md, c]
      · have c' : ¬ (((a * k) % b : Nat) : Int) = 0 := by omega
        refine .inl ⟨_, _, .inl ?_, some (.t (nD k)), rfl, rfl, fun j j1 j2 => ?_⟩
        · simp -implicitDefEqProofs [-List.append_assoc, -Int.natCast_mul, -Int.natCast_emod, t2, md, c', c]
        · by_cases e : j = k
          · subst e; exact c
          · exact g3 j j1 (by omega))
    (Γ := [some (.t (nD a)), some (.t (nD b)), none]) (M := M)
    ⟨none, rfl, rfl, fun k k1 k2 => by omega⟩
  have kb : ∃ k, 1 ≤ k ∧ k ≤ b ∧ Nat.lcm a b = a * k := by
    obtain ⟨k, hk⟩ := Nat.dvd_lcm_left a b
    refine ⟨k, ?_, ?_, hk⟩
    · rcases Nat.eq_zero_or_pos k with e | e
      · subst e
        have : 0 < Nat.lcm a b := Nat.lcm_pos a0 b0
        omega
      · exact e
    · have h1 : Nat.lcm a b ≤ a * b := Nat.div_le_self _ _
      rw [hk] at h1
      exact Nat.le_of_mul_le_mul_left h1 a0
  obtain ⟨k0, k1, k2, k3⟩ := kb
  have k4 : (a * k0) % b = 0 := by rw [← k3]; exact Nat.mod_eq_zero_of_dvd (Nat.dvd_lcm_right a b)
  rw [rangeD_len] at fr
  rcases fr with ⟨Γ', M', e, x2, g1, g2, g3⟩ | ⟨k, Γ', e, c1, c2, c3, c4⟩
  · subst g1 g2
    have : k0 = b := by
      by_cases c : k0 < b
      · exact absurd k4 (g3 k0 k1 (by omega))
      · omega
    rw [e, k3, this]
    have t2 := tm b (by omega) M'
    simp -implicitDefEqProofs [-List.append_assoc, -Int.natCast_mul, t2, cutM_same]
  · have : Nat.lcm a b = a * k := by
      have h1 := Nat.le_of_dvd (Nat.mul_pos a0 c1) (lc k c3)
      rw [k3] at h1
      have h2 : k0 ≤ k := Nat.le_of_mul_le_mul_left h1 a0
      by_cases c : k0 < k
      · exact absurd k4 (c4 k0 k1 c)
      · rw [k3, show k0 = k by omega]
    rw [e, this]
    simp -implicitDefEqProofs [cutM_same]
end
end K04

set_option Elab.async false
set_option linter.all false
set_option maxRecDepth 100000
set_option maxHeartbeats 400000
/-! greatest and least of rows; comprehensions of rows -/
namespace K04
open PySem PySem.Spec PyProof.Rows L2 VL
theorem maxL_spec : ∀ (xs : List Int) (x : Int), x ≤ maxL x xs ∧ (∀ y ∈ xs, y ≤ maxL x xs) ∧ (maxL x xs = x ∨ maxL x xs ∈ xs)
  | [], x => ⟨Int.le_refl _, fun y hy => (List.not_mem_nil hy).elim, .inl rfl⟩
  | y :: ys, x => by
    have e : maxL x (y :: ys) = maxL (if x < y then y else x) ys := rfl
    obtain ⟨h1, h2, h3⟩ := maxL_spec ys (if x < y then y else x)
    rw [e]
    by_cases c : x < y
    · rw [if_pos c] at h1 h2 h3 ⊢
      refine ⟨by omega, fun z hz => ?_, ?_⟩
      · rcases List.mem_cons.mp hz with rfl | hz
        · exact h1
        · exact h2 z hz
      · rcases h3 with h | h
        · exact .inr (by rw [h]; simp)
        · exact .inr (List.mem_cons_of_mem _ h)
    · rw [if_neg c] at h1 h2 h3 ⊢
      refine ⟨h1, fun z hz => ?_, ?_⟩
      · rcases List.mem_cons.mp hz with rfl | hz
        · omega
        · exact h2 z hz
      · rcases h3 with h | h
        · exact .inl h
        · exact .inr (List.mem_cons_of_mem _ h)
theorem minL_spec : ∀ (xs : List Int) (x : Int), minL x xs ≤ x ∧ (∀ y ∈ xs, minL x xs ≤ y) ∧ (minL x xs = x ∨ minL x xs ∈ xs)
  | [], x => ⟨Int.le_refl _, fun y hy => (List.not_mem_nil hy).elim, .inl rfl⟩
  | y :: ys, x => by
    have e : minL x (y :: ys) = minL (if y < x then y else x) ys := rfl
    obtain ⟨h1, h2, h3⟩ := minL_spec ys (if y < x then y else x)
    rw [e]
    by_cases c : y < x
    · rw [if_pos c] at h1 h2 h3 ⊢
      refine ⟨by omega, fun z hz => ?_, ?_⟩
      · rcases List.mem_cons.mp hz with rfl | hz
        · exact h1
        · exact h2 z hz
      · rcases h3 with h | h
        · exact .inr (by rw [h]; simp)
        · exact .inr (List.mem_cons_of_mem _ h)
    · rw [if_neg c] at h1 h2 h3 ⊢
      refine ⟨h1, fun z hz => ?_, ?_⟩
      · rcases List.mem_cons.mp hz with rfl | hz
        · omega
        · exact h2 z hz
      · rcases h3 with h | h
        · exact .inl h
        · exact .inr (List.mem_cons_of_mem _ h)
/-- the greatest, the least of f at 0 .. n - 1 -/
def mx (f : Nat → Int) (n : Nat) : Int := match rowG f n with
  | [] => 0
  | x :: xs => maxL x xs
def mn (f : Nat → Int) (n : Nat) : Int := match rowG f n with
  | [] => 0
  | x :: xs => minL x xs
theorem row_cons {f : Nat → Int} {n : Nat} (hn : 1 ≤ n) : ∃ xs, rowG f n = f 0 :: xs ∧ (∀ y, y ∈ f 0 :: xs ↔ ∃ s, s < n ∧ y = f s) := by
  cases e : rowG f n with
  | nil =>
    have := rowG_len f n
    rw [e] at this
    simp at this
    omega
  | cons x xs =>
    have h0 : x = f 0 := by
      have := congrArg List.head? e
      unfold rowG at this
      rw [List.head?_map, List.head?_range, if_neg (by omega)] at this
      simpa using this.symm
    subst h0
    refine ⟨xs, rfl, fun y => ?_⟩
    rw [← e]
    unfold rowG
    rw [List.mem_map]
    constructor
    · rintro ⟨s, hs, rfl⟩
      exact ⟨s, List.mem_range.mp hs, rfl⟩
    · rintro ⟨s, hs, rfl⟩
      exact ⟨s, List.mem_range.mpr hs, rfl⟩
theorem mx_spec {f : Nat → Int} {n : Nat} (hn : 1 ≤ n) : (∃ s, s < n ∧ mx f n = f s) ∧ ∀ s, s < n → f s ≤ mx f n := by
  obtain ⟨xs, e, h⟩ := row_cons (f := f) hn
  have em : mx f n = maxL (f 0) xs := by unfold mx; rw [e]
  obtain ⟨h1, h2, h3⟩ := maxL_spec xs (f 0)
  rw [em]
  refine ⟨?_, fun s hs => ?_⟩
  · rcases h3 with q | q
    · exact ⟨0, by omega, q⟩
    · exact (h _).mp (List.mem_cons_of_mem _ q)
  · rcases List.mem_cons.mp ((h (f s)).mpr ⟨s, hs, rfl⟩) with q | q
    · rw [q]; exact h1
    · exact h2 _ q
theorem mn_spec {f : Nat → Int} {n : Nat} (hn : 1 ≤ n) : (∃ s, s < n ∧ mn f n = f s) ∧ ∀ s, s < n → mn f n ≤ f s := by
  obtain ⟨xs, e, h⟩ := row_cons (f := f) hn
  have em : mn f n = minL (f 0) xs := by unfold mn; rw [e]
  obtain ⟨h1, h2, h3⟩ := minL_spec xs (f 0)
  rw [em]
  refine ⟨?_, fun s hs => ?_⟩
  · rcases h3 with q | q
    · exact ⟨0, by omega, q⟩
    · exact (h _).mp (List.mem_cons_of_mem _ q)
  · rcases List.mem_cons.mp ((h (f s)).mpr ⟨s, hs, rfl⟩) with q | q
    · rw [q]; exact h1
    · exact h2 _ q
theorem e_maxL {M : Store} {f : Nat → Int} {n : Nat} (hn : 1 ≤ n) : fMaxL [.t (.lst ((rowG f n).map .int))] M = .ok (.t (.int (mx f n))) M := by
  obtain ⟨xs, e, _⟩ := row_cons (f := f) hn
  unfold mx
  rw [e]
  unfold fMaxL drN'
  simp only [dr_t, VL.ints_map]
theorem e_minL {M : Store} {f : Nat → Int} {n : Nat} (hn : 1 ≤ n) : fMinL [.t (.lst ((rowG f n).map .int))] M = .ok (.t (.int (mn f n))) M := by
  obtain ⟨xs, e, _⟩ := row_cons (f := f) hn
  unfold mn
  rw [e]
  unfold fMinL drN'
  simp only [dr_t, VL.ints_map]
/-- a comprehension over a list of our own, any binder -/
theorem comp_mapB {α : Type} {xs : List α} (f g : α → D) {b : Bd} {elt : SemE} {Γ : VEnv} {M : Store} (hM : Pl M) (hl : xs.length ≤ 16777216)
    (step : ∀ x acc, x ∈ xs → ∃ Γ1 r, b.bind (f x) Γ = some Γ1 ∧ elt Γ1 (M ++ [.lst acc]) = .ok r (M ++ [.lst acc]) ∧ r.w = .t (g x)) :
    compL ⟨xs.map f, none⟩ b vYes elt M.length Γ (xs.map f) (M ++ [.lst []]) = .ok (.f (.lst (xs.map g))) M := by
  obtain ⟨acc, M', h1, h2, h3⟩ := comp_rule (ds := xs.map f) (b := b) (cond := vYes) (elt := elt) (k := M.length) (Γ := Γ) (fun i acc M' => acc = (xs.take i).map g ∧ M' = M)
    (fun i acc M' ⟨h1, h2⟩ => ⟨by rw [h2], by rw [h2]; exact hM, by
      rw [h1, List.length_map, List.length_take]
      exact Nat.min_le_left _ _⟩) (by simpa using hl)
    (fun i d acc M' hd ⟨h1, h2⟩ => by
      subst h2
      rw [List.getElem?_map] at hd
      obtain ⟨x, hx, rfl⟩ := Option.map_eq_some_iff.mp hd
      obtain ⟨Γ1, r, q0, q1, q2⟩ := step x acc (List.mem_of_getElem? hx)
      refine ⟨Γ1, q0, .inr ⟨_, r, g x, M', rfl, q1, q2, ?_, rfl⟩⟩
      rw [List.take_add_one, hx, h1]
      simp)
    (M := M) ⟨by simp, rfl⟩
  rw [h1, h2, h3, List.length_map, List.take_length]
theorem zip_rows (f g : Nat → Int) : ∀ n, zipD ((rowG f n).map .int) ((rowG g n).map .int) = (List.range n).map fun s => D.tup [.int (f s), .int (g s)] := by
  intro n
  refine List.ext_getElem? fun i => ?_
  by_cases c : i < n
  · have hl : i < (zipD ((rowG f n).map D.int) ((rowG g n).map D.int)).length := by rw [zipD_length]; simp; exact c
    obtain ⟨a, b, h1, h2, h3⟩ := zipD_get _ _ _ _ (List.getElem?_eq_getElem hl)
    rw [List.getElem?_eq_getElem hl, h3]
    unfold rowG at h1 h2
    rw [List.getElem?_map, List.getElem?_map, List.getElem?_range c] at h1 h2
    rw [List.getElem?_map, List.getElem?_range c]
    cases h1
    cases h2
    rfl
  · rw [List.getElem?_eq_none (by rw [zipD_length]; simp; omega), List.getElem?_eq_none (by simp; omega)]
theorem comp_zip {f g : Nat → Int} {n : Nat} (F : Nat → Int) {i j : Nat} {elt : SemE} {Γ : VEnv} {M : Store} (hM : Pl M) (hl : n ≤ 16777216)
    (step : ∀ s acc, s < n → elt ((Γ.set i (some (.t (.int (f s))))).set j (some (.t (.int (g s))))) (M ++ [.lst acc]) = .ok (.t (.int (F s))) (M ++ [.lst acc])) :
    compL ⟨zipD ((rowG f n).map .int) ((rowG g n).map .int), none⟩ (.tup [i, j]) vYes elt M.length Γ (zipD ((rowG f n).map .int) ((rowG g n).map .int)) (M ++ [.lst []]) = .ok (.f (.lst ((rowG F n).map .int))) M := by
  rw [zip_rows]
  have e := comp_mapB (xs := List.range n) (fun s => D.tup [.int (f s), .int (g s)]) (fun s => .int (F s)) (b := .tup [i, j]) (elt := elt) (Γ := Γ) hM (by simpa using hl) (fun s acc hs => ⟨_, _, rfl, step s acc (List.mem_range.mp hs), rfl⟩)
  rw [e]
  unfold rowG
  rw [List.map_map]
  rfl
theorem comp_range {n : Nat} (F : Nat → Int) {j : Nat} {elt : SemE} {Γ : VEnv} {M : Store} (hM : Pl M) (hl : n ≤ 16777216)
    (step : ∀ s acc, s < n → ∃ r, elt (Γ.set j (some (.t (nD s)))) (M ++ [.lst acc]) = .ok r (M ++ [.lst acc]) ∧ r.w = .t (.int (F s))) :
    compL ⟨rangeD 0 n, none⟩ (.nm j) vYes elt M.length Γ (rangeD 0 n) (M ++ [.lst []]) = .ok (.f (.lst ((rowG F n).map .int))) M := by
  have e0 : rangeD 0 n = (List.range n).map nD := by
    unfold rangeD
    exact List.map_congr_left fun i _ => by simp [nD]
  rw [e0]
  have e := comp_mapB (xs := List.range n) nD (fun s => .int (F s)) (b := .nm j) (elt := elt) (Γ := Γ) hM (by simpa using hl) (fun s acc hs => by
    obtain ⟨r, a, b⟩ := step s acc (List.mem_range.mp hs)
    exact ⟨_, r, rfl, a, b⟩)
  rw [e]
  unfold rowG
  rw [List.map_map]
  rfl
theorem comp_rangeFrom {lo n : Nat} (F : Nat → Int) {j : Nat} {elt : SemE} {Γ : VEnv} {M : Store} (hM : Pl M) (hl : n ≤ 16777216)
    (step : ∀ s acc, s < n → ∃ r, elt (Γ.set j (some (.t (nD (lo + s))))) (M ++ [.lst acc]) = .ok r (M ++ [.lst acc]) ∧ r.w = .t (.int (F s))) :
    compL ⟨rangeD (lo : Int) n, none⟩ (.nm j) vYes elt M.length Γ (rangeD (lo : Int) n) (M ++ [.lst []]) = .ok (.f (.lst ((rowG F n).map .int))) M := by
  have e0 : rangeD (lo : Int) n = (List.range n).map (fun s => nD (lo + s)) := by
    rw [range_nats, List.map_map]
    rfl
  rw [e0]
  have e := comp_mapB (xs := List.range n) (fun s => nD (lo + s)) (fun s => .int (F s)) (b := .nm j) (elt := elt) (Γ := Γ) hM (by simpa using hl) (fun s acc hs => by
    obtain ⟨r, a, b⟩ := step s acc (List.mem_range.mp hs)
    exact ⟨_, r, rfl, a, b⟩)
  rw [e]
  unfold rowG
  rw [List.map_map]
  rfl
/-- the numbers from t to t + n -/
theorem cut_row {g : Nat → Int} {K t n : Nat} {i j : Int} (ei : i = (t : Int)) (ej : j = ((t + n : Nat) : Int)) (h : t + n ≤ K) : VL.cutD ((rowG g K).map D.int) (some i) (some j) = (rowG (fun s => g (t + s)) n).map D.int := by
  subst ei ej
  unfold VL.cutD
  rw [HT.sIx_nat, HT.sIx_nat, List.length_map, rowG_len, Nat.min_eq_left (show t + n ≤ K from h), Nat.min_eq_left (show t ≤ K by omega), ← List.map_drop, ← List.map_take]
  congr 1
  refine List.ext_getElem? fun i => ?_
  unfold rowG
  by_cases c : i < n
  · rw [List.getElem?_take, if_pos (by omega), List.getElem?_drop, List.getElem?_map, List.getElem?_map, List.getElem?_range (by omega), List.getElem?_range c]
    rfl
  · rw [List.getElem?_take, if_neg (by omega), List.getElem?_eq_none (by simp; omega)]
/-- the first t + 1 numbers turned round -/
theorem rev_row {g : Nat → Int} {K t : Nat} (h : t < K) : revA ((rowG g K).map D.int) (some (t : Int)) = some ((rowG (fun s => g (t - s)) (t + 1)).map D.int) := by
  unfold revA
  dsimp only
  rw [if_pos ⟨by omega, by rw [List.length_map, rowG_len]; omega⟩, Int.toNat_natCast, ← List.map_take, take_rowG (by omega), ← List.map_reverse]
  congr 2
  refine List.ext_getElem? fun i => ?_
  unfold rowG
  by_cases c : i < t + 1
  · rw [List.getElem?_reverse (by simp; exact c), List.getElem?_map, List.getElem?_map, List.getElem?_range (by simp; omega), List.getElem?_range c]
    simp
  · rw [List.getElem?_eq_none (by simp; omega), List.getElem?_eq_none (by simp; omega)]
end K04

set_option Elab.async false
set_option linter.all false
set_option maxRecDepth 100000
set_option maxHeartbeats 400000
/-! the whole of a row, the row at any place -/
namespace K04
open PySem PySem.Spec PyProof.Rows L2 VL
theorem repeats_okW {M : Store} {g : Nat → Int} {K s k m : Nat} {w : Wv} (hx : ∀ i, oIx w (.t (.int i)) M = kIx M (L2.atI ((rowG g K).map D.int) i)) (h0 : 0 < m) (h1 : s + m + k ≤ K) (h2 : K ≤ 1000000) :
    ∃ b : Bool, ph_law_repeats [w, .t (.int (s : Int)), .t (.int (k : Int)), .t (.int (m : Int))] M = .ok (.t (.bl b)) M ∧ (b = true ↔ Rep g s k m) := by
  unfold ph_law_repeats
  rw [fnSem_ap]
  unfold m_law_repeats
  have ge : ∀ {i : Int} (j : Nat), i = (j : Int) → j < K → L2.atI ((rowG g K).map D.int) i = some (.int (g j)) := fun j e h => rowG_at e h
  have hm : ((s : Int) + (m : Int)).toNat - s = m := by omega
  simp -implicitDefEqProofs [-List.append_assoc, hx, -Bool.exists_bool, ge (i := (s : Int) + (k : Int)) (s + k) (by omega) (by omega), ge (i := (s : Int)) s rfl (by omega)]
  rw [kRange2_of (by omega) (by omega) (by omega) (by omega)]
  simp -implicitDefEqProofs [-List.append_assoc, hx, -Bool.exists_bool, hm]
  have fr := for_rule (ds := rangeD (s : Int) m) (t := tgN 5) (m0 := M.length) (body := vIfS (vTest (vOp oNe (vOp oSub (vOp oIx (vVar 0) (vOp oPlus (vVar 5) (vVar 2))) (vOp oIx (vVar 0) (vVar 5))) (vVar 4))) (vRet (vC (D.bl false))) vNext)
    (fun i Γ M' => ∃ x5, Γ = [some w, some (Wv.t (D.int (s : Int))), some (Wv.t (D.int (k : Int))), some (Wv.t (D.int (m : Int))), some (Wv.t (D.int (g (s + k) - g s))), x5] ∧ M' = M ∧ ∀ t, s ≤ t → t < s + i → g (t + k) - g t = g (s + k) - g s)
    (fun x => (∃ Γ', x = .ok (.rt (.t (.bl false))) Γ' M) ∧ ¬ Rep g s k m)
    (fun i Γ M' ⟨_, _, e, _⟩ => by rw [e])
    (fun i d Γ M' hd ⟨x5, g1, g2, g3⟩ => by
      obtain ⟨hi, rfl⟩ := rangeD_get hd
      subst g1 g2
      have a1 := ge (i := (s : Int) + (i : Int) + (k : Int)) (s + i + k) (by omega) (by omega)
      have a2 := ge (i := (s : Int) + (i : Int)) (s + i) (by omega) (by omega)
      unfold turnR
      by_cases hq : g (s + i + k) - g (s + i) = g (s + k) - g s
      · refine .inl ⟨_, _, .inl ?_, some (.t (.int ((s : Int) + (i : Int)))), rfl, rfl, fun t h1 h2 => ?_⟩
        · simp -implicitDefEqProofs [-List.append_assoc, hx, a1, a2, hq]
        · by_cases e : t = s + i
          · rw [e]; exact hq
          · exact g3 t h1 (by omega)
      · refine .inr (.inl ⟨.t (.bl false), [some w, some (Wv.t (D.int (s : Int))), some (Wv.t (D.int (k : Int))), some (Wv.t (D.int (m : Int))), some (Wv.t (D.int (g (s + k) - g s))), some (.t (.int ((s : Int) + (i : Int))))], M', ?_, ⟨_, rfl⟩, fun h => hq (h (s + i) (by omega) (by omega))⟩)
        simp -implicitDefEqProofs [-List.append_assoc, hx, a1, a2, hq])
    (Γ := [some w, some (Wv.t (D.int (s : Int))), some (Wv.t (D.int (k : Int))), some (Wv.t (D.int (m : Int))), some (Wv.t (D.int (g (s + k) - g s))), none]) (M := M)
    ⟨none, rfl, rfl, fun t h1 h2 => by omega⟩
  rw [rangeD_len] at fr
  rcases fr with ⟨Γ', M', e, x5, g1, g2, g3⟩ | ⟨⟨Γ', e⟩, hn⟩
  · subst g1 g2
    refine ⟨true, ?_, ⟨fun _ => g3, fun _ => rfl⟩⟩
    rw [e]
    simp [cutM_same]
  · refine ⟨false, ?_, ⟨fun h => (Bool.false_ne_true h).elim, fun h => absurd h hn⟩⟩
    rw [e]
    simp [cutM_same]
theorem whole_okW {M : Store} {g : Nat → Int} {K s p : Nat} {w : Wv} (hx : ∀ i, oIx w (.t (.int i)) M = kIx M (L2.atI ((rowG g K).map D.int) i)) (hc : ∀ k : Nat, k ≤ K → kCut w none (some (k : Int)) M = .ok (.f (.lst ((rowG g k).map .int))) M) (hM : Pl M) (h0 : 0 < p) (h1 : s + p + p ≤ K) (h2 : K ≤ 1000000) :
    ∃ z h, IsSz g s p z ∧ IsHd g s z (g (s + z) - g s) h ∧ ph_law_whole [w, .t (nD s), .t (nD p)] M = .ok (.t (whole g z h (g (s + z) - g s))) M := by
  unfold ph_law_whole
  rw [fnSem_ap]
  unfold m_law_whole
  have ge : ∀ {i : Int} (j : Nat), i = (j : Int) → j < K → L2.atI ((rowG g K).map D.int) i = some (.int (g j)) := fun j e h => rowG_at e h
  simp -implicitDefEqProofs [-List.append_assoc, hx]
  rw [kRange2_of (by omega) (by omega) (by omega) (by omega)]
  simp -implicitDefEqProofs [-List.append_assoc, hx]
  have r1 : rangeD 1 (p - 1) = ((List.range (p - 1)).map (1 + ·)).map nD := range_nats 1 (p - 1)
  rw [r1, comp_nats (fun k => p % k == 0) hM rfl (by simp; omega) (fun i acc hi => by
    obtain ⟨j, hj, rfl⟩ := List.mem_map.mp hi
    have e : ((p : Int) % ((1 + j : Nat) : Int) = 0) = (p % (1 + j) = 0) := by
      rw [← Int.natCast_emod]
      exact propext ⟨fun h => by exact_mod_cast h, fun h => by exact_mod_cast h⟩
    constructor
    · simp -implicitDefEqProofs [-List.append_assoc, hx, -Int.natCast_add, e_mod (i := (p : Int)) (j := ((1 + j : Nat) : Int)) (by omega), e]
      by_cases h : p % (1 + j) = 0 <;> simp [h]
    · intro _
      simp -implicitDefEqProofs [-List.append_assoc, hx, -Int.natCast_add])]
  rw [show List.filter (fun k => p % k == 0) (List.map (1 + ·) (List.range (p - 1))) = parts p from rfl]
  simp -implicitDefEqProofs [-List.append_assoc, hx]
  have hsort := List.pairwise_iff_getElem.mp (parts_sorted p)
  obtain ⟨Γ', M', e1, z, x4, g1, g2, g3⟩ := for_all (ds := (parts p).map nD) (t := tgN 4) (m0 := M.length) (body := vIfS (vAnd (vTest (vOp oEq (vVar 3) (vVar 2))) (vTest (vDef 4 ph_law_repeats (vCons (vVar 0) (vCons (vVar 1) (vCons (vVar 4) (vCons (vVar 2) vNil))))))) (vAsg (vVar 4) (tgN 3)) vNext)
    (fun i Γ M' => ∃ z x4, Γ = [some w, some (Wv.t (nD s)), some (Wv.t (nD p)), some (Wv.t (nD z)), x4, none, none, none, none, none, none] ∧ M' = M ∧
      ((z = p ∧ ∀ k ∈ (parts p).take i, ¬ Rep g s k p) ∨ (1 ≤ z ∧ z < p ∧ p % z = 0 ∧ Rep g s z p ∧ ∀ k ∈ parts p, k < z → ¬ Rep g s k p)))
    (fun i Γ M' ⟨_, _, _, e, _⟩ => by rw [e])
    (fun i d Γ M' hd ⟨z, x4, g1, g2, g3⟩ => by
      rw [List.getElem?_map] at hd
      obtain ⟨k, hk, rfl⟩ := Option.map_eq_some_iff.mp hd
      obtain ⟨hil, hki⟩ := List.getElem?_eq_some_iff.mp hk
      obtain ⟨k1, k2, k3⟩ := parts_mem.mp (List.mem_of_getElem? hk)
      subst g1 g2
      have ht : (parts p).take (i + 1) = (parts p).take i ++ [k] := by rw [List.take_add_one, hk]; rfl
      unfold turnR
      rcases g3 with ⟨rfl, q⟩ | ⟨q1, q2, q3, q4, q5⟩
      · obtain ⟨b, e, hb⟩ := repeats_okW hx (g := g) (K := K) (s := s) (k := k) (m := z) h0 (by omega) h2
        cases b with
        | true =>
          refine ⟨_, M', ?_, k, some (.t (nD k)), rfl, rfl, .inr ⟨k1, k2, k3, hb.mp rfl, fun j hj hjk => ?_⟩⟩
          · simp -implicitDefEqProofs [-List.append_assoc, hx, e]
          · obtain ⟨a, ha, rfl⟩ := List.getElem_of_mem hj
            refine q _ (List.mem_take_iff_getElem.mpr ⟨a, ?_, rfl⟩)
            refine Nat.lt_min.mpr ⟨?_, ha⟩
            by_cases hai : i < a
            · have := hsort i a hil ha hai; omega
            · by_cases e : a = i
              · subst e; omega
              · omega
        | false =>
          refine ⟨_, M', ?_, z, some (.t (nD k)), rfl, rfl, .inl ⟨rfl, fun j hj => ?_⟩⟩
          · simp -implicitDefEqProofs [-List.append_assoc, hx, e]
          · rw [ht] at hj
            rcases List.mem_append.mp hj with h | h
            · exact q j h
            · have : j = k := by simpa using h
              subst this
              exact fun hr => Bool.false_ne_true (hb.mpr hr)
      · refine ⟨_, M', ?_, z, some (.t (nD k)), rfl, rfl, .inr ⟨q1, q2, q3, q4, q5⟩⟩
        have ne : ¬ ((z : Int) = (p : Int)) := by omega
        simp -implicitDefEqProofs [-List.append_assoc, hx, ne])
    (Γ := [some w, some (Wv.t (nD s)), some (Wv.t (nD p)), some (Wv.t (nD p)), none, none, none, none, none, none, none]) (M := M)
    ⟨p, none, rfl, rfl, .inl ⟨rfl, by simp⟩⟩
  have hz : IsSz g s p z := by
    rw [List.length_map, List.take_length] at g3
    rcases g3 with ⟨rfl, q⟩ | ⟨q1, q2, q3, q4, q5⟩
    · exact ⟨h0, Nat.le_refl _, Nat.mod_self _, .inl rfl, fun k a b c => q k (parts_mem.mpr ⟨a, b, c⟩)⟩
    · exact ⟨q1, Nat.le_of_lt q2, q3, .inr q4, fun k a b c => q5 k (parts_mem.mpr ⟨a, by omega, c⟩) b⟩
  rw [e1]
  subst g1 g2
  have zp := hz.pos
  have zl := hz.le
  simp -implicitDefEqProofs [-List.append_assoc, hx, ge (i := (s : Int) + (z : Int)) (s + z) (by omega) (by omega), ge (i := (s : Int)) s rfl (by omega)]
  generalize hu : g (s + z) - g s = u
  obtain ⟨Γ', M2, e2, h, g1, g2, g3⟩ := while_rule (m0 := M'.length) (t := vAnd (vTest (vOp oGt (vVar 1) (vC (D.int 0)))) (vTest (vOp oEq (vOp oIx (vVar 0) (vOp oPlus (vOp oSub (vVar 1) (vC (D.int 1))) (vVar 3))) (vOp oPlus (vOp oIx (vVar 0) (vOp oSub (vVar 1) (vC (D.int 1)))) (vVar 6)))))
    (body := vAsg (vOp oSub (vVar 1) (vC (D.int 1))) (tgN 1))
    (fun n Γ M => n ≤ s ∧ Γ = [some w, some (Wv.t (nD n)), some (Wv.t (nD p)), some (Wv.t (nD z)), x4, none, some (.t (.int u)), none, none, none, none] ∧ M = M' ∧ ∀ j, n ≤ j → j < s → g (j + z) = g j + u)
    (fun Γ M => ∃ h, IsHd g s z u h ∧ Γ = [some w, some (Wv.t (nD h)), some (Wv.t (nD p)), some (Wv.t (nD z)), x4, none, some (.t (.int u)), none, none, none, none] ∧ M = M')
    (fun n Γ M ⟨_, _, e, _⟩ => by rw [e])
    (fun n Γ M ⟨q1, q2, q3, q4⟩ => by
      subst q2 q3
      by_cases hn : n = 0
      · subst hn
        refine .inl ⟨?_, 0, ⟨q1, q4, .inl rfl⟩, rfl, rfl⟩
        simp -implicitDefEqProofs [-List.append_assoc, hx]
      · have a1 := ge (i := (n : Int) - 1 + (z : Int)) (n - 1 + z) (by omega) (by omega)
        have a2 := ge (i := (n : Int) - 1) (n - 1) (by omega) (by omega)
        have pos : 0 < n := by omega
        by_cases hq : g (n - 1 + z) = g (n - 1) + u
        · refine .inr ⟨?_, n - 1, [some w, some (Wv.t (nD (n - 1))), some (Wv.t (nD p)), some (Wv.t (nD z)), x4, none, some (.t (.int u)), none, none, none, none], M, by omega, ?_, by omega, rfl, rfl, fun j h1 h2 => ?_⟩
          · simp -implicitDefEqProofs [-List.append_assoc, hx, a1, a2, hq, pos]
          · have e : ((n : Int) - 1) = ((n - 1 : Nat) : Int) := by omega
            simp -implicitDefEqProofs [-List.append_assoc, hx, e]
          · by_cases e : j = n - 1
            · rw [e]; exact hq
            · exact q4 j (by omega) h2
        · refine .inl ⟨?_, n, ⟨q1, q4, .inr hq⟩, rfl, rfl⟩
          simp -implicitDefEqProofs [-List.append_assoc, hx, a1, a2, hq, pos])
    (n := s) (Γ := [some w, some (Wv.t (nD s)), some (Wv.t (nD p)), some (Wv.t (nD z)), x4, none, some (.t (.int u)), none, none, none, none]) (M := M')
    ⟨Nat.le_refl _, rfl, rfl, fun j h1 h2 => by omega⟩
  rw [e2]
  subst g2 g3
  have hh := g1.le
  simp -implicitDefEqProofs [-List.append_assoc, hx, ge (i := 0) 0 rfl (by omega)]
  rw [kRange1_of (by omega) (by omega)]
  have hhz : ((h : Int) + (z : Int)).toNat = h + z := by omega
  simp -implicitDefEqProofs [-List.append_assoc, hx, hhz]
  obtain ⟨Γ', M3, e3, rf, bst, x9, g2, g3, g4, g5, g6, g7, g8⟩ := for_all (ds := rangeD 0 (h + z)) (t := tgN 9) (m0 := M2.length) (body := (vSeq (vIfS (vTest (vOp oLt (vOp oIx (vVar 0) (vOp oPlus (vVar 9) (vC (D.int 1)))) (vOp oIx (vVar 0) (vVar 9)))) (vAsg (vC (D.bl false)) (tgN 7)) vNext)
      (vIfS (vAnd (vTest (vOp oLt (vVar 9) (vVar 3))) (vAnd (vTest (vOp oEq (vOp oMod (vCall fInt (vCons (vVar 3) vNil)) (vOp oPlus (vVar 9) (vC (D.int 1)))) (vC (D.int 0)))) (vTest (vOp oEq (vOp oMod (vCall fInt (vCons (vVar 6) vNil)) (vOp oPlus (vVar 9) (vC (D.int 1)))) (vC (D.int 0)))))) (vAsg (vOp oPlus (vVar 9) (vC (D.int 1))) (tgN 8)) vNext)))
    (fun i Γ M => ∃ (rf : Bool) (bst : Nat) (x9 : Option Wv), Γ = [some w, some (Wv.t (nD h)), some (Wv.t (nD p)), some (Wv.t (nD z)), x4, none, some (Wv.t (D.int u)), some (.t (.bl rf)), some (.t (nD bst)), x9, none] ∧ M = M2 ∧
      (rf = true ↔ 0 ≤ g 0 ∧ ∀ t, t < i → g t ≤ g (t + 1)) ∧ 1 ≤ bst ∧ (z : Int) % (bst : Int) = 0 ∧ u % (bst : Int) = 0 ∧ ∀ k : Nat, 1 ≤ k → k ≤ i → k ≤ z → (z : Int) % (k : Int) = 0 → u % (k : Int) = 0 → k ≤ bst)
    (fun i Γ M ⟨_, _, _, _, e, _⟩ => by rw [e])
    (fun i d Γ M hd ⟨rf, bst, x9, q1, q2, q3, q4, q5, q6, q7⟩ => by
      obtain ⟨hi, rfl⟩ := rangeD_get0 hd
      subst q1 q2
      have a1 := ge (i := (i : Int) + 1) (i + 1) (by omega) (by omega)
      have a2 := ge (i := (i : Int)) i rfl (by omega)
      have m1 : ∀ j : Int, oMod (.t (.int j)) (.t (.int ((i : Int) + 1))) M = .ok (.t (.int (j % ((i : Int) + 1)))) M := fun j => e_mod (by omega)
      have rise : ∀ rf' : Bool, rf' = (rf && decide (g i ≤ g (i + 1))) → (rf' = true ↔ 0 ≤ g 0 ∧ ∀ t, t < i + 1 → g t ≤ g (t + 1)) := fun rf' e => by
        rw [e, Bool.and_eq_true, q3, decide_eq_true_eq]
        constructor
        · rintro ⟨⟨b1, b2⟩, b3⟩
          refine ⟨b1, fun t ht => ?_⟩
          by_cases e : t = i
          · rw [e]; exact b3
          · exact b2 t (by omega)
        · rintro ⟨b1, b2⟩
          exact ⟨⟨b1, fun t ht => b2 t (by omega)⟩, b2 i (by omega)⟩
      unfold turnR
      by_cases hb : (i < z ∧ (z : Int) % ((i : Int) + 1) = 0) ∧ u % ((i : Int) + 1) = 0
      · obtain ⟨⟨hb1, hb2⟩, hb3⟩ := hb
        have hb1' : (i : Int) < (z : Int) := by omega
        by_cases hr : g (i + 1) < g i
        · refine ⟨_, M, ?_, false, i + 1, some (.t (.int (i : Int))), rfl, rfl, rise false (by simp; omega), by omega, by push_cast; exact hb2, by push_cast; exact hb3, fun k c1 c2 c3 c4 c5 => by omega⟩
          simp -implicitDefEqProofs [-List.append_assoc, hx, a1, a2, hr, m1, hb1, hb2, hb3]
        · refine ⟨_, M, ?_, rf, i + 1, some (.t (.int (i : Int))), rfl, rfl, rise rf (by simp; omega), by omega, by push_cast; exact hb2, by push_cast; exact hb3, fun k c1 c2 c3 c4 c5 => by omega⟩
          simp -implicitDefEqProofs [-List.append_assoc, hx, a1, a2, hr, m1, hb1, hb2, hb3]
      · have keep : ∀ k : Nat, 1 ≤ k → k ≤ i + 1 → k ≤ z → (z : Int) % (k : Int) = 0 → u % (k : Int) = 0 → k ≤ bst := fun k c1 c2 c3 c4 c5 => by
          by_cases e : k = i + 1
          · subst e
            push_cast at c4 c5
            exact absurd ⟨⟨by omega, c4⟩, c5⟩ hb
          · exact q7 k c1 (by omega) c3 c4 c5
        by_cases hr : g (i + 1) < g i
        · refine ⟨_, M, ?_, false, bst, some (.t (.int (i : Int))), rfl, rfl, rise false (by simp; omega), q4, q5, q6, keep⟩
          by_cases c1 : i < z
          · by_cases c2 : (z : Int) % ((i : Int) + 1) = 0
            · have c3 : ¬ u % ((i : Int) + 1) = 0 := fun c3 => hb ⟨⟨c1, c2⟩, c3⟩
              simp -implicitDefEqProofs [-List.append_assoc, hx, a1, a2, hr, m1, c1, c2, c3]
            · simp -implicitDefEqProofs [-List.append_assoc, hx, a1, a2, hr, m1, c1, c2]
          · simp -implicitDefEqProofs [-List.append_assoc, hx, a1, a2, hr, m1, c1]
        · refine ⟨_, M, ?_, rf, bst, some (.t (.int (i : Int))), rfl, rfl, rise rf (by simp; omega), q4, q5, q6, keep⟩
          by_cases c1 : i < z
          · by_cases c2 : (z : Int) % ((i : Int) + 1) = 0
            · have c3 : ¬ u % ((i : Int) + 1) = 0 := fun c3 => hb ⟨⟨c1, c2⟩, c3⟩
              simp -implicitDefEqProofs [-List.append_assoc, hx, a1, a2, hr, m1, c1, c2, c3]
            · simp -implicitDefEqProofs [-List.append_assoc, hx, a1, a2, hr, m1, c1, c2]
          · simp -implicitDefEqProofs [-List.append_assoc, hx, a1, a2, hr, m1, c1])
    (Γ := [some w, some (Wv.t (nD h)), some (Wv.t (nD p)), some (Wv.t (nD z)), x4, none, some (Wv.t (D.int u)), some (.t (.bl (decide (0 ≤ g 0)))), some (.t (nD 1)), none, none]) (M := M2)
    ⟨decide (0 ≤ g 0), 1, none, rfl, rfl, by simp, by omega, by simp, by simp, fun k a b => by omega⟩
  rw [rangeD_len] at g4 g8
  have hbst : bst = Nat.gcd u.natAbs z := by
    have d1 : bst ∣ z := by have := Int.dvd_of_emod_eq_zero g6; exact Int.natCast_dvd_natCast.mp this
    have d2 : bst ∣ u.natAbs := by have := Int.dvd_of_emod_eq_zero g7; have q := Int.natAbs_dvd_natAbs.mpr this; simpa using q
    have gp : 0 < Nat.gcd u.natAbs z := Nat.gcd_pos_of_pos_right _ zp
    have gl : Nat.gcd u.natAbs z ≤ z := Nat.gcd_le_right _ zp
    have b1 : bst ≤ Nat.gcd u.natAbs z := Nat.le_of_dvd gp (Nat.dvd_gcd d2 d1)
    have b2 := g8 (Nat.gcd u.natAbs z) gp (by omega) gl (Int.emod_eq_zero_of_dvd (Int.natCast_dvd_natCast.mpr (Nat.gcd_dvd_right _ _))) (Int.emod_eq_zero_of_dvd (Int.natAbs_dvd_natAbs.mp (by simpa using Nat.gcd_dvd_left u.natAbs z)))
    omega
  have hrf : rf = decide (0 ≤ g 0 ∧ ∀ t, t < h + z → g t ≤ g (t + 1)) := by
    cases rf with
    | true => exact (decide_eq_true (g4.mp rfl)).symm
    | false => exact (decide_eq_false fun q => Bool.false_ne_true (g4.mpr q)).symm
  have cut := hc (h + z) (by omega)
  rw [show ((h + z : Nat) : Int) = (h : Int) + (z : Int) by omega] at cut
  have bl : bst ≤ 1000000 := by
    have := Nat.gcd_le_right u.natAbs zp
    omega
  have fd : ∀ j : Int, oFdiv (.t (.int j)) (.t (.int (bst : Int))) M2 = .ok (.t (.int (j / (bst : Int)))) M2 := fun j => e_fdiv62 (by omega) (by omega)
  have nat1 : (D.int 1) = nD 1 := rfl
  refine ⟨z, hz, h, by rw [hu]; exact g1, ?_⟩
  have e4 := e3
  rw [show nD 1 = D.int 1 from rfl] at e4
  rw [e4]
  subst g2 g3
  simp -implicitDefEqProofs [-List.append_assoc, hx, fd, cut, cutM_same]
  unfold whole
  rw [hu, hrf, hbst]
theorem whole_cell {M : Store} {n s p z h K : Nat} {g : Nat → Int} {r u : Int} (hM : Pl M) (e : M[n]? = some (.lst ((rowG g K).map .int))) (p0 : 1 ≤ p) (hK : s + p + p ≤ K) (hl : K ≤ 1000000) (per : ∀ t, s ≤ t → g (t + p) = g t + r) (cv : Cv g z h u) :
    ph_law_whole [.l n, .t (nD s), .t (nD p)] M = .ok (.t (whole g z h u)) M := by
  have hc : ∀ k : Nat, k ≤ K → kCut (.l n) none (some (k : Int)) M = .ok (.f (.lst ((rowG g k).map .int))) M := fun k hk => by
    have e1 : kCut (.l n) none (some (k : Int)) M = .ok (.f (.lst (VL.cutD ((rowG g K).map D.int) none (some (k : Int))))) M := by
      unfold kCut
      rw [dr_lst e]
    rw [e1, cutD_to (i := (k : Int)) (k := k) rfl, ← List.map_take, take_rowG hk]
  obtain ⟨z', h', hz', hh', e'⟩ := whole_okW (M := M) (g := g) (K := K) (s := s) (p := p) (w := .l n) (fun i => e_ixC e) hc hM p0 hK hl
  have cv' := cv_of p0 per hz' hh'
  obtain ⟨rfl, rfl, eu⟩ := cv'.uniq cv
  rw [eu] at e'
  exact e'
end K04

set_option Elab.async false
set_option linter.all false
set_option maxRecDepth 100000
set_option maxHeartbeats 400000
/-! deconvolution -/
namespace K04
open PySem PySem.Spec PyProof.Rows L2 VL
theorem e_max2N {M : Store} (a b : Nat) : fMax2 [.t (nD a), .t (nD b)] M = .ok (.t (nD (max a b))) M := by
  show Res.ok (Rv.t (.int (if (b : Int) > (a : Int) then (b : Int) else (a : Int)))) M = _
  by_cases h : b > a
  · rw [if_pos (by omega), Nat.max_eq_right (by omega)]
  · rw [if_neg (by omega), Nat.max_eq_left (by omega)]
theorem e_min2N {M : Store} (a b : Nat) : fMin2 [.t (nD a), .t (nD b)] M = .ok (.t (nD (min a b))) M := by
  show Res.ok (Rv.t (.int (if (b : Int) < (a : Int) then (b : Int) else (a : Int)))) M = _
  by_cases h : b < a
  · rw [if_pos (by omega), Nat.min_eq_right (by omega)]
  · rw [if_neg (by omega), Nat.min_eq_left (by omega)]
theorem nPlus {M : Store} (a b : Nat) : oPlus (.t (nD a)) (.t (nD b)) M = .ok (.t (nD (a + b))) M := by simp [nD]
theorem nFdiv {M : Store} {a b : Nat} (h : 1 ≤ b) (hb : b ≤ 1000000) : oFdiv (.t (nD a)) (.t (nD b)) M = .ok (.t (nD (a / b))) M := by
  rw [nD, nD, e_fdiv62 (by omega) (by omega), nD, Int.natCast_ediv]
/-- the greatest differences -/
def dec (a b : Nat → Int) (n t : Nat) : Int := mx (fun s => a (t + s) - b s) n
theorem mx_shift {f f' : Nat → Int} {n : Nat} {c : Int} (hn : 1 ≤ n) (h : ∀ s, s < n → f' s = f s + c) : mx f' n = mx f n + c := by
  obtain ⟨⟨s, hs, e⟩, b⟩ := mx_spec (f := f) hn
  obtain ⟨⟨s', hs', e'⟩, b'⟩ := mx_spec (f := f') hn
  have h1 := b' s hs
  have h2 := b s' hs'
  rw [h s hs] at h1
  rw [h s' hs'] at e'
  omega
theorem mn_shift {f f' : Nat → Int} {n : Nat} {c : Int} (hn : 1 ≤ n) (h : ∀ s, s < n → f' s = f s + c) : mn f' n = mn f n + c := by
  obtain ⟨⟨s, hs, e⟩, b⟩ := mn_spec (f := f) hn
  obtain ⟨⟨s', hs', e'⟩, b'⟩ := mn_spec (f := f') hn
  have h1 := b' s hs
  have h2 := b s' hs'
  rw [h s hs] at h1
  rw [h s' hs'] at e'
  omega
theorem dec_per {a b : Nat → Int} {za ha n : Nat} {ua : Int} (ca : Cv a za ha ua) (hn : 1 ≤ n) (t : Nat) (ht : ha ≤ t) : dec a b n (t + za) = dec a b n t + ua := by
  refine mx_shift hn fun s _ => ?_
  have := ca.step (t + s) (by omega)
  rw [show t + s + za = t + za + s by omega] at this
  omega
theorem lcm_ge {a b : Nat} (ha : 1 ≤ a) (hb : 1 ≤ b) : a ≤ Nat.lcm a b ∧ b ≤ Nat.lcm a b := by
  have p : 0 < Nat.lcm a b := Nat.lcm_pos ha hb
  exact ⟨Nat.le_of_dvd p (Nat.dvd_lcm_left a b), Nat.le_of_dvd p (Nat.dvd_lcm_right a b)⟩
section
variable {M : Store} {a b : Nat → Int} {za ha zb hb : Nat} {ua ub : Int}
theorem fld5 (g : Nat → Int) (z h : Nat) (u : Int) (M : Store) : fFld [5] 5 (.t (curD g z h u)) M = .ok (.t (.tup ((rowG g (h + z)).map .int))) M ∧ fFld [5] 6 (.t (curD g z h u)) M = .ok (.t (nD z)) M ∧ fFld [5] 7 (.t (curD g z h u)) M = .ok (.t (.int u)) M ∧ fFld [5] 8 (.t (curD g z h u)) M = .ok (.t (nD h)) M := ⟨rfl, rfl, rfl, rfl⟩
theorem deconv_ok (ca : Cv a za ha ua) (cb : Cv b zb hb ub) (hM : Pl M) (la : ha + za ≤ 400) (lb : hb + zb ≤ 400) (ba : ua.natAbs ≤ 1000000000000000) (bb : ub.natAbs ≤ 1000000000000000) {z h : Nat} {u : Int} (cd : Cv (dec a b (max ha hb + Nat.lcm za zb)) z h u) :
    ph_deconvolved [.t (curD a za ha ua), .t (curD b zb hb ub)] M = if 400 < Nat.lcm za zb then .exc 3 [(3, nD (Nat.lcm za zb))] M else if gain ub zb (Nat.lcm za zb) < gain ua za (Nat.lcm za zb) then .exc 7 [] M else .ok (.t (curD (dec a b (max ha hb + Nat.lcm za zb)) z h u)) M := by
  unfold ph_deconvolved
  rw [fnSem_ap]
  unfold m_deconvolved
  have za0 := ca.pos
  have zb0 := cb.pos
  obtain ⟨p1, p2⟩ := lcm_ge za0 zb0
  have cp := common_per (M := M) (g := a) (z := za) (h := ha) (u := ua) (g' := b) (z' := zb) (h' := hb) (u' := ub) (by omega) (by omega)
  generalize hP : Nat.lcm za zb = P at *
  by_cases c1 : 400 < P
  · rw [if_neg (by omega)] at cp
    rw [if_pos c1]
    simp -implicitDefEqProofs [-List.append_assoc, cp, cutM_same]
  · rw [if_pos (by omega)] at cp
    rw [if_neg c1]
    have ga : ∀ M, ph_gain_in [.t (curD a za ha ua), .t (nD P)] M = _ := fun M => gain_ok za0 (by omega) (by omega) (by omega)
    have gb : ∀ M, ph_gain_in [.t (curD b zb hb ub), .t (nD P)] M = _ := fun M => gain_ok zb0 (by omega) (by omega) (by omega)
    generalize gain ua za P = xa at *
    generalize gain ub zb P = xb at *
    have kr : ∀ (Γ : VEnv) (M : Store), kRaise 7 1 [] [] Γ M = .exc 7 [] Γ M := fun Γ M => kRaise_of rfl rfl
    by_cases c2 : xb < xa
    · rw [if_pos c2]
      simp -implicitDefEqProofs [-List.append_assoc, cp, ga, gb, c2, kr, cutM_same]
    · rw [if_neg c2]
      have f8a : ∀ M, fFld [5] 8 (.t (curD a za ha ua)) M = .ok (.t (nD ha)) M := fun M => rfl
      have f8b : ∀ M, fFld [5] 8 (.t (curD b zb hb ub)) M = .ok (.t (nD hb)) M := fun M => rfl
      have f6a : ∀ M, fFld [5] 6 (.t (curD a za ha ua)) M = .ok (.t (nD za)) M := fun M => rfl
      have f7a : ∀ M, fFld [5] 7 (.t (curD a za ha ua)) M = .ok (.t (.int ua)) M := fun M => rfl
      generalize hst : max ha hb + P = st at *
      have n1 : ∀ M, oPlus (.t (nD (max ha hb))) (.t (nD P)) M = .ok (.t (nD st)) M := fun M => by rw [nPlus, hst]
      generalize hmy : ha + za = my
      have n2 : ∀ M, oPlus (.t (nD ha)) (.t (nD za)) M = .ok (.t (nD my)) M := fun M => by rw [nPlus, hmy]
      have n3 : ∀ M, oPlus (.t (nD my)) (.t (nD st)) M = .ok (.t (nD (my + st))) M := fun M => nPlus _ _
      have fa : ∀ M, Pl M → ph_first_numbers [.t (curD a za ha ua), .t (nD (my + st))] M = _ := fun M hM => first_ok ca hM (by omega) (by omega)
      have fb : ∀ M, Pl M → ph_first_numbers [.t (curD b zb hb ub), .t (nD st)] M = _ := fun M hM => first_ok cb hM (by omega) (by omega)
      have mx2 := fun M => e_max2N (M := M) ha hb
      have cc : compL ⟨rangeD 0 my, none⟩ (.nm 10) vYes (vCall fMaxL (vCons (vComp (vZip (vCons (vCut (vVar 5) (vPart (vVar 10)) (vPart (vOp oPlus (vVar 10) (vVar 3)))) (vCons (vVar 6) (vNil)))) (.tup [8, 9]) [8, 9] (vYes) (vOp oSub (vVar 8) (vVar 9))) (vNil))) M.length [some (.t (curD a za ha ua)), some (.t (curD b zb hb ub)), some (.t (nD P)), some (.t (nD st)), some (.t (nD my)), some (.t (.lst ((rowG a (my + st)).map .int))), some (.t (.lst ((rowG b st).map .int))), none, none, none, none] (rangeD 0 my) (M ++ [.lst []]) = .ok (.f (.lst ((rowG (dec a b st) my).map .int))) M :=
        comp_range (dec a b st) hM (by omega) (fun t acc ht => by
          refine ⟨.t (.int (dec a b st t)), ?_, rfl⟩
          have hM' : Pl (M ++ [.lst acc]) := hM.append Pl.nil.lst
          have np : ∀ M, oPlus (.t (nD t)) (.t (nD st)) M = .ok (.t (nD (t + st))) M := fun M => nPlus _ _
          have cut := cut_row (g := a) (K := my + st) (t := t) (n := st) (i := (t : Int)) (j := ((t + st : Nat) : Int)) rfl rfl (by omega)
          have cz := comp_zip (f := fun s => a (t + s)) (g := b) (n := st) (fun s => a (t + s) - b s) (i := 8) (j := 9) (elt := vOp oSub (vVar 8) (vVar 9)) (Γ := [some (.t (curD a za ha ua)), some (.t (curD b zb hb ub)), some (.t (nD P)), some (.t (nD st)), some (.t (nD my)), some (.t (.lst ((rowG a (my + st)).map .int))), some (.t (.lst ((rowG b st).map .int))), none, none, none, some (.t (nD t))]) hM' (by omega) (fun s acc hs => by simp -implicitDefEqProofs [-List.append_assoc])
          rw [show (M ++ [Cel.lst acc]).length = M.length + 1 by simp] at cz
          have kz : ∀ M, kZip [.t (.lst ((rowG (fun s => a (t + s)) st).map .int)), .t (.lst ((rowG b st).map .int))] M = .ok ⟨zipD ((rowG (fun s => a (t + s)) st).map .int) ((rowG b st).map .int), none⟩ M := fun M => rfl
          have ez : ∀ (g : ES (List Wv)) (Γ : VEnv) (M : Store), vZip g Γ M = (g Γ M).bind kZip := fun _ _ _ => rfl
          have mm := fun M => e_maxL (M := M) (f := fun s => a (t + s) - b s) (n := st) (by omega)
          simp -implicitDefEqProofs [-List.append_assoc, -Int.natCast_add, ez, np, cut, kz, cz, mm, dec])
      simp -implicitDefEqProofs [-List.append_assoc, -Int.natCast_add, cp, ga, gb, c2, f8a, f8b, f6a, f7a, mx2, n1, n2, n3, fa M hM, fb M hM]
      rw [kRange1_of (by omega) (by omega)]
      simp -implicitDefEqProofs [-List.append_assoc, -Int.natCast_add]
      rw [cc]
      have per := fun t ht => dec_per (b := b) (n := st) ca (by omega) t ht
      have md := made_is (M := M) (g := dec a b st) (s := ha) (p := za) (r := ua) (.inl rfl) hM za0 (by omega) (Nat.lt_of_le_of_lt ba (Nat.lt_of_lt_of_le (show 1000000000000000 < 2 ^ 60 by decide) (Nat.pow_le_pow_right (by omega) (by omega)))) per cd (by have := cd.head_le za0 per; have := cd.zmin za za0 ⟨ha, ua, per⟩; omega)
      rw [hmy, if_pos (by have := cd.head_le za0 per; have := cd.zmin za za0 ⟨ha, ua, per⟩; omega)] at md
      simp -implicitDefEqProofs [-List.append_assoc, -Int.natCast_add, f6a, f7a, md, cutM_same]
theorem rest_ok (ca : Cv a za ha ua) (cb : Cv b zb hb ub) (hM : Pl M) (la : ha + za ≤ 400) (lb : hb + zb ≤ 400) (ba : ua.natAbs ≤ 1000000000000000) (bb : ub.natAbs ≤ 1000000000000000) {z h : Nat} {u : Int} (cd : Cv (dec a b (max ha hb + Nat.lcm za zb)) z h u) :
    ph_law_rest [.t (whole a za ha ua), .t (whole b zb hb ub)] M = .ok (.t (if 400 < Nat.lcm za zb then .tup [.str "long", nD (Nat.lcm za zb)] else if gain ub zb (Nat.lcm za zb) < gain ua za (Nat.lcm za zb) then .tup [.str "unbounded"] else whole (dec a b (max ha hb + Nat.lcm za zb)) z h u)) M := by
  unfold ph_law_rest
  rw [fnSem_ap]
  unfold m_law_rest
  have za0 := ca.pos
  have zb0 := cb.pos
  obtain ⟨p1, p2⟩ := lcm_ge za0 zb0
  have cp := lcommon_ok (M := M) (a := za) (b := zb) za0 zb0 (by omega) (by omega)
  have a1 : ∀ M, oIx (.t (whole a za ha ua)) (.t (.int 1)) M = _ := fun M => (due_at a za ha ua M).2.1
  have a2 : ∀ M, oIx (.t (whole a za ha ua)) (.t (.int 2)) M = _ := fun M => (due_at a za ha ua M).2.2.1
  have a3 : ∀ M, oIx (.t (whole a za ha ua)) (.t (.int 3)) M = _ := fun M => (due_at a za ha ua M).2.2.2
  have b1 : ∀ M, oIx (.t (whole b zb hb ub)) (.t (.int 1)) M = _ := fun M => (due_at b zb hb ub M).2.1
  have b2 : ∀ M, oIx (.t (whole b zb hb ub)) (.t (.int 2)) M = _ := fun M => (due_at b zb hb ub M).2.2.1
  have b3 : ∀ M, oIx (.t (whole b zb hb ub)) (.t (.int 3)) M = _ := fun M => (due_at b zb hb ub M).2.2.2
  generalize hP : Nat.lcm za zb = P at *
  by_cases c1 : 400 < P
  · rw [if_pos c1]
    have c1' : (400 : Int) < (P : Int) := by omega
    simp -implicitDefEqProofs [-List.append_assoc, cp, a2, b2, c1', cutM_same]
  · rw [if_neg c1]
    have c1' : ¬ (400 : Int) < (P : Int) := by omega
    have fa : ∀ M, oFdiv (.t (nD P)) (.t (nD za)) M = .ok (.t (nD (P / za))) M := fun M => nFdiv za0 (by omega)
    have fb : ∀ M, oFdiv (.t (nD P)) (.t (nD zb)) M = .ok (.t (nD (P / zb))) M := fun M => nFdiv zb0 (by omega)
    have da : P / za ≤ P := Nat.div_le_self _ _
    have db : P / zb ≤ P := Nat.div_le_self _ _
    unfold gain
    generalize P / za = xa at *
    generalize P / zb = xb at *
    have ta : ∀ M, oTimes (.t (.int ua)) (.t (nD xa)) M = .ok (.t (.int (ua * (xa : Int)))) M := fun M => e_times62 (by omega) (by omega)
    have tb : ∀ M, oTimes (.t (.int ub)) (.t (nD xb)) M = .ok (.t (.int (ub * (xb : Int)))) M := fun M => e_times62 (by omega) (by omega)
    by_cases c2 : ub * (xb : Int) < ua * (xa : Int)
    · rw [if_pos c2]
      simp -implicitDefEqProofs [-List.append_assoc, cp, a2, b2, a3, b3, c1', fa, fb, ta, tb, c2, cutM_same]
    · rw [if_neg c2]
      have mx2 := fun M => e_max2N (M := M) ha hb
      generalize hst : max ha hb + P = st at *
      have n1 : ∀ M, oPlus (.t (nD (max ha hb))) (.t (nD P)) M = .ok (.t (nD st)) M := fun M => by rw [nPlus, hst]
      have t2 : ∀ M, oTimes (.t (.int 2)) (.t (nD za)) M = .ok (.t (nD (2 * za))) M := fun M => by rw [nD, e_times62 (by omega) (by omega)]; simp [nD]
      generalize hmy : ha + 2 * za = my
      have n2 : ∀ M, oPlus (.t (nD ha)) (.t (nD (2 * za))) M = .ok (.t (nD my)) M := fun M => by rw [nPlus, hmy]
      have n3 : ∀ M, oPlus (.t (nD st)) (.t (nD my)) M = .ok (.t (nD (st + my))) M := fun M => nPlus _ _
      have ra : ∀ M, Pl M → ph_law_row [.t (whole a za ha ua), .t (nD (st + my))] M = .ok (.f (.lst ((rowG a (st + my)).map .int))) M := fun M hM => by
        rw [lrow_ok ca hM (by omega) (by omega), show max (ha + za) (st + my) = st + my by omega]
      have rb : ∀ M, Pl M → ph_law_row [.t (whole b zb hb ub), .t (nD st)] M = .ok (.f (.lst ((rowG b st).map .int))) M := fun M hM => by
        rw [lrow_ok cb hM (by omega) (by omega), show max (hb + zb) st = st by omega]
      simp -implicitDefEqProofs [-List.append_assoc, -Int.natCast_add, cp, a1, a2, b1, b2, a3, b3, c1', fa, fb, ta, tb, c2, mx2, n1, t2, n2, n3, ra M hM, rb M hM]
      rw [kRange1_of (by omega) (by omega)]
      simp -implicitDefEqProofs [-List.append_assoc, -Int.natCast_add]
      obtain ⟨Γ', M', e4, x8, g1, g2⟩ := for_all (ds := rangeD 0 my) (t := tgN 8) (m0 := M.length + 1) (body := vDrop (vMt mAppend (vVar 7) (vCons (vCall fMaxL (vCons (vComp (vRange1 (vCons (vVar 3) (vNil))) (.nm 9) [9] (vYes) (vOp oSub (vOp oIx (vVar 5) (vOp oPlus (vVar 8) (vVar 9))) (vOp oIx (vVar 6) (vVar 9)))) (vNil))) (vNil))))
        (fun i Γ M' => ∃ x8, Γ = [some (.t (whole a za ha ua)), some (.t (whole b zb hb ub)), some (.t (nD P)), some (.t (nD st)), some (.t (nD my)), some (.t (.lst ((rowG a (st + my)).map .int))), some (.t (.lst ((rowG b st).map .int))), some (.l M.length), x8, none] ∧ M' = M ++ [.lst ((rowG (dec a b st) i).map .int)])
        (fun i Γ M' ⟨_, _, e⟩ => by rw [e]; simp)
        (fun t d Γ M' hd ⟨x8, g1, g2⟩ => by
          obtain ⟨ht, rfl⟩ := rangeD_get0 hd
          subst g1 g2
          refine ⟨[some (.t (whole a za ha ua)), some (.t (whole b zb hb ub)), some (.t (nD P)), some (.t (nD st)), some (.t (nD my)), some (.t (.lst ((rowG a (st + my)).map .int))), some (.t (.lst ((rowG b st).map .int))), some (.l M.length), some (.t (nD t)), none], M ++ [.lst ((rowG (dec a b st) (t + 1)).map .int)], ?_, _, rfl, rfl⟩
          have hM' : Pl (M ++ [.lst ((rowG (dec a b st) t).map .int)]) := hM.append Pl.nil.lst
          have cr := comp_range (n := st) (fun s => a (t + s) - b s) (j := 9) (elt := (vOp oSub (vOp oIx (vVar 5) (vOp oPlus (vVar 8) (vVar 9))) (vOp oIx (vVar 6) (vVar 9)))) (Γ := [some (.t (whole a za ha ua)), some (.t (whole b zb hb ub)), some (.t (nD P)), some (.t (nD st)), some (.t (nD my)), some (.t (.lst ((rowG a (st + my)).map .int))), some (.t (.lst ((rowG b st).map .int))), some (.l M.length), some (.t (nD t)), none]) hM' (by omega) (fun s acc hs => by
            have h1 : L2.atI ((rowG a (st + my)).map D.int) ((t : Int) + (s : Int)) = some (.int (a (t + s))) := rowG_at (k := t + s) (by omega) (by omega)
            have h2 : L2.atI ((rowG b st).map D.int) (s : Int) = some (.int (b s)) := rowG_at (k := s) rfl hs
            refine ⟨.t (.int (a (t + s) - b s)), ?_, rfl⟩
            simp -implicitDefEqProofs [-List.append_assoc, h1, h2])
          rw [show (M ++ [Cel.lst ((rowG (dec a b st) t).map .int)]).length = M.length + 1 by simp] at cr
          have mm := fun M => e_maxL (M := M) (f := fun s => a (t + s) - b s) (n := st) (by omega)
          have ap : mAppend M.length [.t (.int (mx (fun s => a (t + s) - b s) st))] (M ++ [Cel.lst ((rowG (dec a b st) t).map .int)]) = .ok (.t .non) (M ++ [.lst ((rowG (dec a b st) (t + 1)).map .int)]) := by
            rw [e_append (cell0 rfl) (by simp; omega), set0 rfl, row_succ]
            simp [dec]
          have kr := kRange1_of (j := (st : Int)) (M := M ++ [Cel.lst ((rowG (dec a b st) t).map .int)]) (by omega) (by omega)
          rw [Int.toNat_natCast] at kr
          rw [turn_nm]
          simp -implicitDefEqProofs [-List.append_assoc, cell0, kr, cr, mm, ap])
        (Γ := [some (.t (whole a za ha ua)), some (.t (whole b zb hb ub)), some (.t (nD P)), some (.t (nD st)), some (.t (nD my)), some (.t (.lst ((rowG a (st + my)).map .int))), some (.t (.lst ((rowG b st).map .int))), some (.l M.length), none, none]) (M := M ++ [.lst []])
        ⟨none, rfl, rfl⟩
      rw [e4]
      subst g1 g2
      rw [rangeD_len]
      have per := fun t ht => dec_per (b := b) (n := st) ca (by omega) t ht
      have wh := whole_cell (M := M ++ [.lst ((rowG (dec a b st) my).map .int)]) (n := M.length) (g := dec a b st) (s := ha) (p := za) (K := my) (hM.append Pl.nil.lst) (cell0 rfl) za0 (by omega) (by omega) per cd
      simp -implicitDefEqProofs [-List.append_assoc, -Int.natCast_add, a1, a2, wh, cutM_app hM]
end
end K04

set_option Elab.async false
set_option linter.all false
set_option maxRecDepth 100000
set_option maxHeartbeats 400000
/-! nowhere above -/
namespace K04
open PySem PySem.Spec PyProof.Rows L2 VL
abbrev CurB := Cur 1000000000000000
/-- a is nowhere above b -/
noncomputable def Nab (a b : Nat → Int) : Bool := @decide (∀ t, a t ≤ b t) (Classical.propDecidable _)
theorem Nab_t {a b : Nat → Int} (h : ∀ t, a t ≤ b t) : Nab a b = true := @decide_eq_true _ (Classical.propDecidable _) h
theorem Nab_f {a b : Nat → Int} (h : ¬ ∀ t, a t ≤ b t) : Nab a b = false := @decide_eq_false _ (Classical.propDecidable _) h
theorem Nab_dec {p : Prop} [Decidable p] {a b : Nat → Int} (h : p ↔ ∀ t, a t ≤ b t) : decide p = Nab a b := by
  by_cases c : p
  · rw [decide_eq_true c, Nab_t (h.mp c)]
  · rw [decide_eq_false c, Nab_f fun q => c (h.mpr q)]
/-- both go on in steps of P -/
theorem above_iff {a b : Nat → Int} {H P : Nat} {ga gb : Int} (P0 : 1 ≤ P) (pa : ∀ t, H ≤ t → a (t + P) = a t + ga) (pb : ∀ t, H ≤ t → b (t + P) = b t + gb) :
    (∀ t, a t ≤ b t) ↔ (ga ≤ gb ∧ ∀ t, t < H + P → a t ≤ b t) := by
  constructor
  · intro h
    refine ⟨?_, fun t _ => h t⟩
    by_cases c : ga ≤ gb
    · exact c
    · exfalso
      have hh := h H
      have x := per_mul pa H (Nat.le_refl _) ((b H - a H).toNat + 1)
      have y := per_mul pb H (Nat.le_refl _) ((b H - a H).toNat + 1)
      have w := h (H + ((b H - a H).toNat + 1) * P)
      rw [x, y] at w
      have e : (((b H - a H).toNat + 1 : Nat) : Int) = b H - a H + 1 := by omega
      rw [e] at w
      have h1 : (b H - a H + 1) * gb + (b H - a H + 1) ≤ (b H - a H + 1) * ga := by
        have : (b H - a H + 1) * (gb + 1) ≤ (b H - a H + 1) * ga := Int.mul_le_mul_of_nonneg_left (by omega) (by omega)
        rw [Int.mul_add, Int.mul_one] at this
        exact this
      omega
  · rintro ⟨hg, h⟩ t
    induction t using Nat.strongRecOn with
    | _ t ih =>
      by_cases c : t < H + P
      · exact h t c
      · have x := pa (t - P) (by omega)
        have y := pb (t - P) (by omega)
        rw [show t - P + P = t by omega] at x y
        have := ih (t - P) (by omega)
        omega
section
variable {M : Store} {a b : Nat → Int} {za ha zb hb : Nat} {ua ub : Int}
theorem Cv.per {g : Nat → Int} {z h P : Nat} {u : Int} (c : Cv g z h u) (hd : z ∣ P) {H : Nat} (hH : h ≤ H) : ∀ t, H ≤ t → g (t + P) = g t + K04.gain u z P := fun t ht => c.gain hd t (by omega)
theorem first_above_ok (ca : CurB a za ha ua) (cb : CurB b zb hb ub) (hM : Pl M) (hP : Nat.lcm za zb ≤ 400) : ∃ d, ph_first_above [.t (curD a za ha ua), .t (curD b zb hb ub)] M = .ok (.t d) M ∧ isNon (.t d) = Nab a b := by
  unfold ph_first_above
  rw [fnSem_ap]
  unfold m_first_above
  have za0 := ca.cv.pos
  have zb0 := cb.cv.pos
  have la := ca.len
  have lb := cb.len
  have ba := ca.ub
  have bb := cb.ub
  obtain ⟨p1, p2⟩ := lcm_ge za0 zb0
  have cp := common_per (M := M) (g := a) (z := za) (h := ha) (u := ua) (g' := b) (z' := zb) (h' := hb) (u' := ub) (by omega) (by omega)
  rw [if_pos hP] at cp
  have pera := ca.cv.per (Nat.dvd_lcm_left za zb) (H := max ha hb) (by omega)
  have perb := cb.cv.per (Nat.dvd_lcm_right za zb) (H := max ha hb) (by omega)
  generalize Nat.lcm za zb = P at *
  have iff := above_iff (by omega) pera perb
  have ga : ∀ M, ph_gain_in [.t (curD a za ha ua), .t (nD P)] M = _ := fun M => gain_ok za0 (by omega) (by omega) (by omega)
  have gb : ∀ M, ph_gain_in [.t (curD b zb hb ub), .t (nD P)] M = _ := fun M => gain_ok zb0 (by omega) (by omega) (by omega)
  have bga : (gain ua za P).natAbs ≤ 400000000000000000 := by
    unfold gain
    rw [Int.natAbs_mul, Int.natAbs_natCast]
    calc ua.natAbs * (P / za) ≤ 1000000000000000 * 400 := Nat.mul_le_mul ba (Nat.le_trans (Nat.div_le_self _ _) hP)
      _ = 400000000000000000 := rfl
  have bgb : (gain ub zb P).natAbs ≤ 400000000000000000 := by
    unfold gain
    rw [Int.natAbs_mul, Int.natAbs_natCast]
    calc ub.natAbs * (P / zb) ≤ 1000000000000000 * 400 := Nat.mul_le_mul bb (Nat.le_trans (Nat.div_le_self _ _) hP)
      _ = 400000000000000000 := rfl
  generalize gain ua za P = xa at *
  generalize gain ub zb P = xb at *
  have f8a : ∀ M, fFld [5] 8 (.t (curD a za ha ua)) M = .ok (.t (nD ha)) M := fun M => rfl
  have f8b : ∀ M, fFld [5] 8 (.t (curD b zb hb ub)) M = .ok (.t (nD hb)) M := fun M => rfl
  have mx2 := fun M => e_max2N (M := M) ha hb
  generalize hH : max ha hb = H at *
  have hH2 : H ≤ 2500 := by omega
  have n1 : ∀ M, oPlus (.t (nD H)) (.t (nD P)) M = .ok (.t (nD (H + P))) M := fun M => nPlus _ _
  have fa : ∀ M, Pl M → ph_first_numbers [.t (curD a za ha ua), .t (nD (H + P))] M = _ := fun M hM => first_ok ca.cv hM (by omega) (by omega)
  have fb : ∀ M, Pl M → ph_first_numbers [.t (curD b zb hb ub), .t (nD (H + P))] M = _ := fun M hM => first_ok cb.cv hM (by omega) (by omega)
  have ata : ∀ k, k < H + P → L2.atI ((rowG a (H + P)).map D.int) (k : Int) = some (.int (a k)) := fun k hk => rowG_at rfl hk
  have atb : ∀ k, k < H + P → L2.atI ((rowG b (H + P)).map D.int) (k : Int) = some (.int (b k)) := fun k hk => rowG_at rfl hk
  simp -implicitDefEqProofs [-List.append_assoc, -Int.natCast_add, cp, f8a, f8b, mx2, n1, fa M hM, fb M hM]
  rw [kRange1_of (by omega) (by omega)]
  simp -implicitDefEqProofs [-List.append_assoc, -Int.natCast_add]
  have fr := for_rule (ds := rangeD 0 (H + P)) (t := tgN 6) (m0 := M.length) (body := (vIfS (vTest (vOp oGt (vOp oIx (vVar 4) (vVar 6)) (vOp oIx (vVar 5) (vVar 6)))) (vRet (vVar 6)) (vNext)))
    (fun i Γ M' => ∃ x6, Γ = [some (.t (curD a za ha ua)), some (.t (curD b zb hb ub)), some (.t (nD P)), some (.t (nD H)), some (.t (.lst ((rowG a (H + P)).map .int))), some (.t (.lst ((rowG b (H + P)).map .int))), x6, none, none] ∧ M' = M ∧ ∀ t, t < i → a t ≤ b t)
    (fun x => ∃ (k : Nat) (Γ' : VEnv), x = .ok (.rt (.t (nD k))) Γ' M ∧ b k < a k)
    (fun i Γ M' ⟨_, _, e, _⟩ => by rw [e])
    (fun i d Γ M' hd ⟨x6, g1, g2, g3⟩ => by
      obtain ⟨hi, rfl⟩ := rangeD_get0 hd
      subst g1 g2
      have h1 := ata i hi
      have h2 := atb i hi
      rw [turn_nm]
      by_cases c : b i < a i
      · refine .inr (.inl ⟨.t (nD i), [some (.t (curD a za ha ua)), some (.t (curD b zb hb ub)), some (.t (nD P)), some (.t (nD H)), some (.t (.lst ((rowG a (H + P)).map .int))), some (.t (.lst ((rowG b (H + P)).map .int))), some (.t (nD i)), none, none], M', ?_, i, _, rfl, c⟩)
        simp -implicitDefEqProofs [-List.append_assoc, h1, h2, c]
      · refine .inl ⟨_, _, .inl ?_, some (.t (nD i)), rfl, rfl, fun t ht => ?_⟩
        · simp -implicitDefEqProofs [-List.append_assoc, h1, h2, c]
        · by_cases e : t = i
          · subst e; omega
          · exact g3 t (by omega))
    (Γ := [some (.t (curD a za ha ua)), some (.t (curD b zb hb ub)), some (.t (nD P)), some (.t (nD H)), some (.t (.lst ((rowG a (H + P)).map .int))), some (.t (.lst ((rowG b (H + P)).map .int))), none, none, none]) (M := M)
    ⟨none, rfl, rfl, fun t ht => by omega⟩
  rw [rangeD_len] at fr
  rcases fr with ⟨Γ', M', e, x6, g1, g2, g3⟩ | ⟨k, Γ', e, hk⟩
  · subst g1 g2
    rw [e]
    by_cases c : xa ≤ xb
    · refine ⟨.non, ?_, ?_⟩
      · have c' : xa - xb ≤ 0 := by omega
        simp -implicitDefEqProofs [-List.append_assoc, ga, gb, c', cutM_same]
      · rw [Nab_t (iff.mpr ⟨c, g3⟩)]; rfl
    · have c' : ¬ xa - xb ≤ 0 := by omega
      have hMr : Pl (M' ++ [.rng (H : Int) ((H + P : Nat) : Int)]) := hM.append rfl
      have src : kSrcR (.l M'.length) (M' ++ [.rng (H : Int) ((H + P : Nat) : Int)]) = .ok ⟨rangeD (H : Int) P, none⟩ (M' ++ [.rng (H : Int) ((H + P : Nat) : Int)]) := by
        rw [kSrcR_s (cell0 rfl) (by omega) (by omega) (by omega) (by omega), show (((H + P : Nat) : Int) - (H : Int)).toNat = P by omega]
      have cr := comp_rangeFrom (lo := H) (n := P) (fun s => ((H + s : Nat) : Int) + ((b (H + s) - a (H + s)) / (xa - xb) + 1) * (P : Int)) (j := 6) (elt := (vOp oPlus (vVar 6) (vOp oTimes (vOp oPlus (vOp oFdiv (vOp oSub (vOp oIx (vVar 5) (vVar 6)) (vOp oIx (vVar 4) (vVar 6))) (vVar 7)) (vC (.int 1))) (vVar 2))))
        (Γ := [some (.t (curD a za ha ua)), some (.t (curD b zb hb ub)), some (.t (nD P)), some (.t (nD H)), some (.t (.lst ((rowG a (H + P)).map .int))), some (.t (.lst ((rowG b (H + P)).map .int))), none, some (.t (.int (xa - xb))), some (.l M'.length)]) hMr (by omega) (fun s acc hs => by
          have h1 := ata (H + s) (by omega)
          have h2 := atb (H + s) (by omega)
          have v1 := ca.vb (H + s) (by omega)
          have v2 := cb.vb (H + s) (by omega)
          have le := g3 (H + s) (by omega)
          have fd : ∀ M, oFdiv (.t (.int (b (H + s) - a (H + s)))) (.t (.int (xa - xb))) M = .ok (.t (.int ((b (H + s) - a (H + s)) / (xa - xb)))) M := fun M => e_fdiv62 (by omega) (by omega)
          have q0 : 0 ≤ (b (H + s) - a (H + s)) / (xa - xb) := Int.ediv_nonneg (by omega) (by omega)
          have q1 : (b (H + s) - a (H + s)) / (xa - xb) ≤ b (H + s) - a (H + s) := Int.ediv_le_self _ (by omega)
          generalize (b (H + s) - a (H + s)) / (xa - xb) = q at *
          have tm : ∀ M, oTimes (.t (.int (q + 1))) (.t (nD P)) M = .ok (.t (.int ((q + 1) * (P : Int)))) M := fun M => e_times62 (by omega) (by omega)
          refine ⟨.t (.int (((H + s : Nat) : Int) + (q + 1) * (P : Int))), ?_, rfl⟩
          simp -implicitDefEqProofs [-List.append_assoc, -Int.natCast_add, h1, h2, fd, tm])
      rw [show (M' ++ [Cel.rng (H : Int) ((H + P : Nat) : Int)]).length = M'.length + 1 by simp] at cr
      have mm := fun M => e_minL (M := M) (f := fun s => ((H + s : Nat) : Int) + ((b (H + s) - a (H + s)) / (xa - xb) + 1) * (P : Int)) (n := P) (by omega)
      refine ⟨.int (mn (fun s => ((H + s : Nat) : Int) + ((b (H + s) - a (H + s)) / (xa - xb) + 1) * (P : Int)) P), ?_, ?_⟩
      · simp -implicitDefEqProofs [-List.append_assoc, -Int.natCast_add, ga, gb, c', n1, src, cr, mm, cutM_app hM]
      · rw [Nab_f (fun h => c (iff.mp h).1)]; rfl
  · rw [e]
    refine ⟨nD k, ?_, ?_⟩
    · simp [cutM_same]
    · rw [Nab_f (fun h => by have := h k; omega)]; rfl
theorem nowhere_ok (ca : CurB a za ha ua) (cb : CurB b zb hb ub) (hM : Pl M) (hP : Nat.lcm za zb ≤ 400) : ph_nowhere_above [.t (curD a za ha ua), .t (curD b zb hb ub)] M = .ok (.t (.bl (Nab a b))) M := by
  unfold ph_nowhere_above
  rw [fnSem_ap]
  unfold m_nowhere_above
  obtain ⟨d, e, hd⟩ := first_above_ok ca cb hM hP
  rw [← hd]
  simp -implicitDefEqProofs [e, cutM_same]
theorem said_ok (ca : CurB a za ha ua) (cb : CurB b zb hb ub) (hM : Pl M) (hP : Nat.lcm za zb ≤ 400) {y : Bool} (hy : y = Nab a b) : ph_law_said [.t (curD a za ha ua), .t (curD b zb hb ub), .t (.bl y)] M = .ok (.t (.bl true)) M := by
  unfold ph_law_said
  rw [fnSem_ap]
  unfold m_law_said
  have e := nowhere_ok ca cb hM hP
  rw [← hy] at e
  have e2 : ∀ b M, fIsTy "bool" [.t (.bl b)] M = .ok (.t (.bl true)) M := fun _ _ => rfl
  simp -implicitDefEqProofs [e, e2, eq_bl, cutM_same]
theorem below_ok (ca : CurB a za ha ua) (cb : CurB b zb hb ub) (hM : Pl M) (hP : Nat.lcm za zb ≤ 400) : ph_law_below [.t (whole a za ha ua), .t (whole b zb hb ub)] M = .ok (.t (.bl (Nab a b))) M := by
  unfold ph_law_below
  rw [fnSem_ap]
  unfold m_law_below
  have za0 := ca.cv.pos
  have zb0 := cb.cv.pos
  have la := ca.len
  have lb := cb.len
  have ba := ca.ub
  have bb := cb.ub
  obtain ⟨p1, p2⟩ := lcm_ge za0 zb0
  have cp := lcommon_ok (M := M) (a := za) (b := zb) za0 zb0 (by omega) (by omega)
  have a1 : ∀ M, oIx (.t (whole a za ha ua)) (.t (.int 1)) M = _ := fun M => (due_at a za ha ua M).2.1
  have a2 : ∀ M, oIx (.t (whole a za ha ua)) (.t (.int 2)) M = _ := fun M => (due_at a za ha ua M).2.2.1
  have a3 : ∀ M, oIx (.t (whole a za ha ua)) (.t (.int 3)) M = _ := fun M => (due_at a za ha ua M).2.2.2
  have b1 : ∀ M, oIx (.t (whole b zb hb ub)) (.t (.int 1)) M = _ := fun M => (due_at b zb hb ub M).2.1
  have b2 : ∀ M, oIx (.t (whole b zb hb ub)) (.t (.int 2)) M = _ := fun M => (due_at b zb hb ub M).2.2.1
  have b3 : ∀ M, oIx (.t (whole b zb hb ub)) (.t (.int 3)) M = _ := fun M => (due_at b zb hb ub M).2.2.2
  have pera := ca.cv.per (Nat.dvd_lcm_left za zb) (H := max ha hb) (by omega)
  have perb := cb.cv.per (Nat.dvd_lcm_right za zb) (H := max ha hb) (by omega)
  generalize Nat.lcm za zb = P at *
  have iff := above_iff (by omega) pera perb
  have fa : ∀ M, oFdiv (.t (nD P)) (.t (nD za)) M = .ok (.t (nD (P / za))) M := fun M => nFdiv za0 (by omega)
  have fb : ∀ M, oFdiv (.t (nD P)) (.t (nD zb)) M = .ok (.t (nD (P / zb))) M := fun M => nFdiv zb0 (by omega)
  have da : P / za ≤ P := Nat.div_le_self _ _
  have db : P / zb ≤ P := Nat.div_le_self _ _
  unfold gain at iff
  clear pera perb
  generalize P / za = xa at *
  generalize P / zb = xb at *
  have ta : ∀ M, oTimes (.t (.int ua)) (.t (nD xa)) M = .ok (.t (.int (ua * (xa : Int)))) M := fun M => e_times62 (by omega) (by omega)
  have tb : ∀ M, oTimes (.t (.int ub)) (.t (nD xb)) M = .ok (.t (.int (ub * (xb : Int)))) M := fun M => e_times62 (by omega) (by omega)
  by_cases c2 : ub * (xb : Int) < ua * (xa : Int)
  · rw [Nab_f (fun h => by have := (iff.mp h).1; omega)]
    simp -implicitDefEqProofs [-List.append_assoc, cp, a2, b2, a3, b3, fa, fb, ta, tb, c2, cutM_same]
  · have mx2 := fun M => e_max2N (M := M) ha hb
    generalize hst : max ha hb + P = st at *
    have n1 : ∀ M, oPlus (.t (nD (max ha hb))) (.t (nD P)) M = .ok (.t (nD st)) M := fun M => by rw [nPlus, hst]
    have ra : ∀ M, Pl M → ph_law_row [.t (whole a za ha ua), .t (nD st)] M = .ok (.f (.lst ((rowG a st).map .int))) M := fun M hM => by
      rw [lrow_ok ca.cv hM (by omega) (by omega), show max (ha + za) st = st by omega]
    have rb : ∀ M, Pl M → ph_law_row [.t (whole b zb hb ub), .t (nD st)] M = .ok (.f (.lst ((rowG b st).map .int))) M := fun M hM => by
      rw [lrow_ok cb.cv hM (by omega) (by omega), show max (hb + zb) st = st by omega]
    have e0 : rangeD 0 st = (List.range st).map nD := by
      unfold rangeD
      exact List.map_congr_left fun i _ => by simp [nD]
    have cn := comp_nats (xs := List.range st) (j := 6) (cond := (vTest (vOp oGt (vOp oIx (vVar 4) (vVar 6)) (vOp oIx (vVar 5) (vVar 6))))) (elt := vVar 6) (Γ := [some (.t (whole a za ha ua)), some (.t (whole b zb hb ub)), some (.t (nD P)), some (.t (nD st)), some (.t (.lst ((rowG a st).map .int))), some (.t (.lst ((rowG b st).map .int))), none]) (fun t => decide (b t < a t)) hM rfl (by simp; omega) (fun t acc ht => by
      have ht' := List.mem_range.mp ht
      have h1 : L2.atI ((rowG a st).map D.int) (t : Int) = some (.int (a t)) := rowG_at rfl ht'
      have h2 : L2.atI ((rowG b st).map D.int) (t : Int) = some (.int (b t)) := rowG_at rfl ht'
      exact ⟨by simp -implicitDefEqProofs [-List.append_assoc, h1, h2], fun _ => by simp -implicitDefEqProofs [-List.append_assoc]⟩)
    have eq := e_eqLL (M := M) (((List.range st).filter fun t => decide (b t < a t)).map fun t : Nat => (t : Int)) []
    have eb : decide ((((List.range st).filter fun t => decide (b t < a t)).map fun t : Nat => (t : Int)) = []) = Nab a b := by
      apply Nab_dec
      rw [List.map_eq_nil_iff, List.filter_eq_nil_iff, iff]
      constructor
      · intro h
        refine ⟨by omega, fun t ht => ?_⟩
        have := h t (List.mem_range.mpr ht)
        simp at this
        exact this
      · rintro ⟨_, h⟩ t ht
        have := h t (List.mem_range.mp ht)
        simp
        exact this
    rw [eb, List.map_map] at eq
    have eq' : oEq (.t (.lst (((List.range st).filter fun t => decide (b t < a t)).map nD))) (.t (.lst [])) M = .ok (.t (.bl (Nab a b))) M := eq
    simp -implicitDefEqProofs [-List.append_assoc, -Int.natCast_add, cp, a1, a2, b1, b2, a3, b3, fa, fb, ta, tb, c2, mx2, n1, ra M hM, rb M hM]
    rw [kRange1_of (by omega) (by omega)]
    simp -implicitDefEqProofs [-List.append_assoc, -Int.natCast_add]
    rw [e0, cn]
    simp -implicitDefEqProofs [-List.append_assoc, -Int.natCast_add, eq', cutM_same]
end
end K04

set_option Elab.async false
set_option linter.all false
set_option maxRecDepth 100000
set_option maxHeartbeats 400000
/-! convolution: the mathematics -/
namespace K04
open PySem PySem.Spec PyProof.Rows L2 VL
/-- the least y s + x (t - s) over the s below m -/
def fam (x y : Nat → Int) (m t : Nat) : Int := mn (fun s => y s + x (t - s)) (min m (t + 1))
def mnf (a b : Nat → Int) (t : Nat) : Int := if b t < a t then b t else a t
theorem fam_per {x y : Nat → Int} {z h m : Nat} {u : Int} (c : Cv x z h u) (hm : 1 ≤ m) (t : Nat) (ht : h + m - 1 ≤ t) : fam x y m (t + z) = fam x y m t + u := by
  unfold fam
  rw [show min m (t + z + 1) = m by omega, show min m (t + 1) = m by omega]
  refine mn_shift hm fun s hs => ?_
  have := c.step (t - s) (by omega)
  rw [show t - s + z = t + z - s by omega] at this
  omega
theorem fam_bd {x y : Nat → Int} {m B T : Nat} (hm : 1 ≤ m) (hmT : m ≤ T + 1) (hx : ∀ t, t ≤ T → (x t).natAbs ≤ B) (hy : ∀ t, t ≤ T → (y t).natAbs ≤ B) (t : Nat) (ht : t ≤ T) : (fam x y m t).natAbs ≤ 2 * B := by
  obtain ⟨⟨s, hs, e⟩, _⟩ := mn_spec (f := fun s => y s + x (t - s)) (n := min m (t + 1)) (by omega)
  unfold fam
  rw [e]
  have := hx (t - s) (by omega)
  have := hy s (by omega)
  omega
theorem mnf_bd {a b : Nat → Int} {B T : Nat} (ha : ∀ t, t ≤ T → (a t).natAbs ≤ B) (hb : ∀ t, t ≤ T → (b t).natAbs ≤ B) (t : Nat) (ht : t ≤ T) : (mnf a b t).natAbs ≤ B := by
  unfold mnf
  have := ha t ht
  have := hb t ht
  split <;> omega
theorem mnf_comm (a b : Nat → Int) : mnf a b = mnf b a := by
  funext t
  unfold mnf
  split <;> split <;> omega
theorem Cur.of {g : Nat → Int} {z h B : Nat} {u : Int} (c : Cv g z h u) (hl : h + z ≤ 2500) (hb : ∀ t, t ≤ 6000 → (g t).natAbs ≤ B) (hB : 2 * B ≤ 1000000000000000) : CurB g z h u := by
  refine ⟨c, hl, ?_, fun t ht => by have := hb t ht; omega⟩
  have e := c.next
  have := hb h (by omega)
  have := hb (h + z) (by omega)
  omega
/-- the last tick of a residue at which f is below s -/
theorem last_of {f s : Nat → Int} {t P : Nat} {gf gs : Int} (pf : ∀ k : Nat, f (t + k * P) = f t + (k : Int) * gf) (ps : ∀ k : Nat, s (t + k * P) = s t + (k : Int) * gs) (hg : gs < gf) (hb : f t < s t) :
    ∃ q : Nat, (s t - f t - 1) / (gf - gs) = (q : Int) ∧ f (t + q * P) < s (t + q * P) ∧ ∀ k, f (t + k * P) < s (t + k * P) → k ≤ q := by
  have q0 : 0 ≤ (s t - f t - 1) / (gf - gs) := Int.ediv_nonneg (by omega) (by omega)
  obtain ⟨q, hq⟩ : ∃ q : Nat, (s t - f t - 1) / (gf - gs) = (q : Int) := ⟨((s t - f t - 1) / (gf - gs)).toNat, by omega⟩
  have h1 : (q : Int) * (gf - gs) ≤ s t - f t - 1 := by rw [← hq]; exact Int.ediv_mul_le _ (by omega)
  have h2 : s t - f t - 1 < ((q : Int) + 1) * (gf - gs) := by rw [← hq]; exact Int.lt_ediv_add_one_mul_self _ (by omega)
  refine ⟨q, hq, ?_, fun k hk => ?_⟩
  · rw [pf, ps]
    rw [Int.mul_sub] at h1
    omega
  · rw [pf, ps] at hk
    by_cases c : k ≤ q
    · exact c
    · exfalso
      have h3 : ((q : Int) + 1) * (gf - gs) ≤ (k : Int) * (gf - gs) := Int.mul_le_mul_of_nonneg_right (by omega) (by omega)
      rw [Int.mul_sub (k : Int)] at h3
      omega
/-- where f is below s the last time -/
def LastB (f s : Nat → Int) (L : Int) : Prop := (L = -1 ∨ ∃ n : Nat, L = (n : Int) ∧ f n < s n) ∧ ∀ t : Nat, f t < s t → (t : Int) ≤ L
theorem LastB.after {f s : Nat → Int} {L : Int} (h : LastB f s L) {t : Nat} (ht : L < (t : Int)) : mnf f s t = s t := by
  unfold mnf
  by_cases c : s t < f t
  · rw [if_pos c]
  · rw [if_neg c]
    by_cases e : f t < s t
    · have := h.2 t e; omega
    · omega
/-- the lesser of both repeats as the slow one behind the last tick -/
theorem mnf_per {f s : Nat → Int} {L : Int} {z h H : Nat} {u : Int} (c : Cv s z h u) (hL : LastB f s L) (h1 : h ≤ H) (h2 : L < (H : Int)) (t : Nat) (ht : H ≤ t) : mnf f s (t + z) = mnf f s t + u := by
  rw [hL.after (t := t + z) (by omega), hL.after (t := t) (by omega)]
  exact c.step t (by omega)
/-- .. and begins there if the last tick is behind its head -/
theorem mnf_cv {f s : Nat → Int} {n z h : Nat} {u : Int} (c : Cv s z h u) (hL : LastB f s (n : Int)) (hn : h ≤ n) : Cv (mnf f s) z (n + 1) u := by
  refine ⟨c.pos, fun t ht => mnf_per c hL (H := n + 1) (by omega) (by omega) t ht, fun p p0 hp => c.zmin p p0 ?_, .inr ?_⟩
  · obtain ⟨m, r, e⟩ := hp
    refine ⟨max m (n + 1), r, fun t ht => ?_⟩
    have := e t (by omega)
    rw [hL.after (t := t + p) (by omega), hL.after (t := t) (by omega)] at this
    exact this
  · rw [Nat.add_sub_cancel]
    have hb : f n < s n := by
      rcases hL.1 with e | ⟨m, e, hm⟩
      · omega
      · have : n = m := by omega
        rw [this]; exact hm
    have e1 := hL.after (t := n + z) (by have := c.pos; omega)
    have e2 : mnf f s n = f n := by unfold mnf; rw [if_neg (by omega)]
    have := c.step n hn
    rw [e1, e2]
    omega
/-- all splits -/
def Below (g fast slow : Nat → Int) : Prop := ∀ t s, s ≤ t → g t ≤ fast s + slow (t - s)
/-- what the program and the law fold -/
def cnv (slow fast : Nat → Int) (hs m t : Nat) : Int := if hs = 0 then fam slow fast m t else mnf (fam slow fast m) (fam fast slow hs) t
theorem cnv_iff {slow fast g : Nat → Int} {zs hs zf hf P : Nat} {us uf : Int} (cs : Cv slow zs hs us) (cf : Cv fast zf hf uf) (ds : zs ∣ P) (df : zf ∣ P) (P0 : 1 ≤ P) (hg : gain us zs P ≤ gain uf zf P) :
    (∀ t, g t ≤ cnv slow fast hs (hf + P) t) ↔ Below g fast slow := by
  have ms : ∀ (x y : Nat → Int) (m t s : Nat), s < m → s ≤ t → fam x y m t ≤ y s + x (t - s) := fun x y m t s h1 h2 => (mn_spec (f := fun s => y s + x (t - s)) (n := min m (t + 1)) (by omega)).2 s (by omega)
  have me : ∀ (x y : Nat → Int) (m t : Nat), 1 ≤ m → ∃ s, s < m ∧ s ≤ t ∧ fam x y m t = y s + x (t - s) := fun x y m t hm => by
    obtain ⟨⟨s, h1, h2⟩, _⟩ := mn_spec (f := fun s => y s + x (t - s)) (n := min m (t + 1)) (by omega)
    exact ⟨s, by omega, by omega, h2⟩
  constructor
  · intro h t s
    induction s using Nat.strongRecOn with
    | _ s ih =>
      intro hst
      have ht := h t
      by_cases c : s < hf + P
      · have h1 := ms slow fast (hf + P) t s c hst
        unfold cnv at ht
        split at ht
        · omega
        · unfold mnf at ht
          split at ht <;> omega
      · by_cases c2 : t - s < hs
        · have h1 := ms fast slow hs t (t - s) c2 (by omega)
          rw [show t - (t - s) = s by omega] at h1
          unfold cnv at ht
          rw [if_neg (by omega)] at ht
          unfold mnf at ht
          split at ht <;> omega
        · have h1 := ih (s - P) (by omega) (by omega)
          have h2 := cf.gain df (s - P) (by omega)
          have h3 := cs.gain ds (t - s) (by omega)
          rw [show s - P + P = s by omega] at h2
          rw [show t - (s - P) = t - s + P by omega] at h1
          omega
  · intro h t
    unfold cnv
    split
    · obtain ⟨s, _, h2, e⟩ := me slow fast (hf + P) t (by omega)
      rw [e]; exact h t s h2
    · unfold mnf
      split
      · obtain ⟨s, _, h2, e⟩ := me fast slow hs t (by omega)
        rw [e]
        have := h t (t - s) (by omega)
        rw [show t - (t - s) = s by omega] at this
        omega
      · obtain ⟨s, _, h2, e⟩ := me slow fast (hf + P) t (by omega)
        rw [e]; exact h t s h2
theorem Below.symm {g fast slow : Nat → Int} (h : Below g fast slow) : Below g slow fast := fun t s hs => by
  have := h t (t - s) (by omega)
  rw [show t - (t - s) = s by omega] at this
  omega
/-- what is due lies below c exactly if the first curve lies below all splits of the second and c -/
theorem resid {a b c : Nat → Int} {za ha zb hb P : Nat} {ua ub : Int} (ca : Cv a za ha ua) (cb : Cv b zb hb ub) (da : za ∣ P) (db : zb ∣ P) (P0 : 1 ≤ P) (hg : gain ua za P ≤ gain ub zb P) :
    (∀ t, dec a b (max ha hb + P) t ≤ c t) ↔ Below a b c := by
  constructor
  · intro h t s hs
    have key : ∀ s t, a (t + s) - b s ≤ c t := by
      intro s
      induction s using Nat.strongRecOn with
      | _ s ih =>
        intro t
        by_cases c1 : s < max ha hb + P
        · have h1 := (mx_spec (f := fun s => a (t + s) - b s) (n := max ha hb + P) (by omega)).2 s c1
          have := h t
          unfold dec at this
          omega
        · have h1 := ih (s - P) (by omega) t
          have h2 := ca.gain da (t + (s - P)) (by omega)
          have h3 := cb.gain db (s - P) (by omega)
          rw [show t + (s - P) + P = t + s by omega] at h2
          rw [show s - P + P = s by omega] at h3
          omega
    have := key s (t - s)
    rw [show t - s + s = t by omega] at this
    omega
  · intro h t
    obtain ⟨⟨s, _, e⟩, _⟩ := mx_spec (f := fun s => a (t + s) - b s) (n := max ha hb + P) (by omega)
    unfold dec
    rw [e]
    have := h (t + s) s (by omega)
    rw [show t + s - s = t by omega] at this
    omega
end K04

set_option Elab.async false
set_option linter.all false
set_option maxRecDepth 100000
set_option maxHeartbeats 400000
/-! best_shifted, last_below -/
namespace K04
open PySem PySem.Spec PyProof.Rows L2 VL
theorem zip_rows' (f g : Nat → Int) (n k : Nat) : zipD ((rowG f n).map .int) ((rowG g k).map .int) = zipD ((rowG f (min n k)).map .int) ((rowG g (min n k)).map .int) := by
  rw [zip_rows]
  refine List.ext_getElem? fun i => ?_
  by_cases c : i < min n k
  · have hl : i < (zipD ((rowG f n).map D.int) ((rowG g k).map D.int)).length := by rw [zipD_length]; simp; omega
    obtain ⟨a, b, h1, h2, h3⟩ := zipD_get _ _ _ _ (List.getElem?_eq_getElem hl)
    rw [List.getElem?_eq_getElem hl, h3]
    unfold rowG at h1 h2
    rw [List.getElem?_map, List.getElem?_map, List.getElem?_range (by omega)] at h1 h2
    rw [List.getElem?_map, List.getElem?_range c]
    cases h1
    cases h2
    rfl
  · rw [List.getElem?_eq_none (by rw [zipD_length]; simp; omega), List.getElem?_eq_none (by simp; omega)]
theorem e_max2I {M : Store} (i j : Int) : fMax2 [.t (.int i), .t (.int j)] M = .ok (.t (.int (max i j))) M := by
  show Res.ok (Rv.t (.int (if j > i then j else i))) M = _
  by_cases h : j > i
  · rw [if_pos h, Int.max_eq_right (by omega)]
  · rw [if_neg h, Int.max_eq_left (by omega)]
section
variable {M : Store}
theorem best_ok {x y : Nat → Int} {zx hx m z h : Nat} {ux u : Int} (cx : Cv x zx hx ux) (hM : Pl M) (hm : 1 ≤ m) (hm2 : m ≤ 2500) (lx : hx + zx ≤ 2500) (bx : ux.natAbs ≤ 1000000000000000) (cn : Cv (fam x y m) z h u) :
    ph_best_shifted [.t (curD x zx hx ux), .t (.lst ((rowG y m).map .int))] M = .ok (.f (curD (fam x y m) z h u)) M := by
  unfold ph_best_shifted
  rw [fnSem_ap]
  unfold m_best_shifted
  have zx0 := cx.pos
  have f8 : ∀ M, fFld [5] 8 (.t (curD x zx hx ux)) M = .ok (.t (nD hx)) M := fun M => rfl
  have f6 : ∀ M, fFld [5] 6 (.t (curD x zx hx ux)) M = .ok (.t (nD zx)) M := fun M => rfl
  have f7 : ∀ M, fFld [5] 7 (.t (curD x zx hx ux)) M = .ok (.t (.int ux)) M := fun M => rfl
  have em : (hx : Int) + (m : Int) - 1 + (zx : Int) = ((hx + m - 1 + zx : Nat) : Int) := by omega
  have fn : ∀ M, Pl M → ph_first_numbers [.t (curD x zx hx ux), .t (nD (hx + m - 1 + zx))] M = _ := fun M hM => first_ok cx hM (by omega) (by omega)
  have per := fun t ht => fam_per (y := y) (m := m) cx hm t ht
  have lo := loose_is (M := M) (g := fam x y m) (s := hx + m - 1) (p := zx) (r := ux) (.inl rfl) hM zx0 (by omega) (Nat.lt_of_le_of_lt bx (Nat.lt_of_lt_of_le (show 1000000000000000 < 2 ^ 60 by decide) (Nat.pow_le_pow_right (by omega) (by omega)))) per cn (by have := cn.head_le zx0 per; have := cn.zmin zx zx0 ⟨_, ux, per⟩; omega)
  generalize hK : hx + m - 1 + zx = K at *
  have cc : compL ⟨rangeD 0 K, none⟩ (.nm 7) vYes (vCall fMinL (vCons (vComp (vZip (vCons (vVar 1) (vCons (vRev (vVar 3) (vPart (vVar 7))) (vNil)))) (.tup [5, 6]) [5, 6] (vYes) (vOp oPlus (vVar 5) (vVar 6))) (vNil))) M.length [some (.t (curD x zx hx ux)), some (.t (.lst ((rowG y m).map .int))), some (.t (nD K)), some (.t (.lst ((rowG x K).map .int))), none, none, none, none] (rangeD 0 K) (M ++ [.lst []]) = .ok (.f (.lst ((rowG (fam x y m) K).map .int))) M :=
    comp_range (fam x y m) hM (by omega) (fun t acc ht => by
      refine ⟨.t (.int (fam x y m t)), ?_, rfl⟩
      have hM' : Pl (M ++ [.lst acc]) := hM.append Pl.nil.lst
      have rv := rev_row (g := x) (K := K) (t := t) ht
      have kr : ∀ M, kRev (.t (.lst ((rowG x K).map .int))) (some (t : Int)) M = .ok (.f (.lst ((rowG (fun s => x (t - s)) (t + 1)).map .int))) M := fun M => kRev_s rv
      have cz := comp_zip (f := y) (g := fun s => x (t - s)) (n := min m (t + 1)) (fun s => y s + x (t - s)) (i := 5) (j := 6) (elt := vOp oPlus (vVar 5) (vVar 6)) (Γ := [some (.t (curD x zx hx ux)), some (.t (.lst ((rowG y m).map .int))), some (.t (nD K)), some (.t (.lst ((rowG x K).map .int))), none, none, none, some (.t (nD t))]) hM' (by omega) (fun s acc hs => by simp -implicitDefEqProofs [-List.append_assoc])
      rw [show (M ++ [Cel.lst acc]).length = M.length + 1 by simp] at cz
      have kz : ∀ M, kZip [.t (.lst ((rowG y m).map .int)), .t (.lst ((rowG (fun s => x (t - s)) (t + 1)).map .int))] M = .ok ⟨zipD ((rowG y (min m (t + 1))).map .int) ((rowG (fun s => x (t - s)) (min m (t + 1))).map .int), none⟩ M := fun M => by
        show Res.ok (⟨zipD ((rowG y m).map .int) ((rowG (fun s => x (t - s)) (t + 1)).map .int), none⟩ : Src) M = _
        rw [zip_rows']
      have ez : ∀ (g : ES (List Wv)) (Γ : VEnv) (M : Store), vZip g Γ M = (g Γ M).bind kZip := fun _ _ _ => rfl
      have mm := fun M => e_minL (M := M) (f := fun s => y s + x (t - s)) (n := min m (t + 1)) (by omega)
      simp -implicitDefEqProofs [-List.append_assoc, -Int.natCast_add, ez, kr, kz, cz, mm, fam])
  simp -implicitDefEqProofs [-List.append_assoc, -Int.natCast_add, f8, f6, f7, em, fn M hM]
  rw [kRange1_of (by omega) (by omega)]
  simp -implicitDefEqProofs [-List.append_assoc, -Int.natCast_add]
  rw [cc]
  simp -implicitDefEqProofs [-List.append_assoc, -Int.natCast_add, f6, f7, lo, cutM_same]
/-- L is -1 or a tick at which f is below s -/
def Has (f s : Nat → Int) (L : Int) : Prop := L = -1 ∨ ∃ n : Nat, L = (n : Int) ∧ f n < s n
theorem gain_bd {u : Int} {z P : Nat} (hu : u.natAbs ≤ 1000000000000000) (hP : P ≤ 400) : (gain u z P).natAbs ≤ 400000000000000000 := by
  unfold gain
  rw [Int.natAbs_mul, Int.natAbs_natCast]
  calc u.natAbs * (P / z) ≤ 1000000000000000 * 400 := Nat.mul_le_mul hu (Nat.le_trans (Nat.div_le_self _ _) hP)
    _ = 400000000000000000 := rfl
theorem last_ok {f s : Nat → Int} {zf hf zs hs P : Nat} {uf us : Int} (cf : CurB f zf hf uf) (cs : CurB s zs hs us) (hM : Pl M) (hP : P ≤ 400) (P0 : 1 ≤ P) (df : zf ∣ P) (ds : zs ∣ P) (hg : gain us zs P < gain uf zf P) :
    ∃ L : Int, LastB f s L ∧ ph_last_below [.t (curD f zf hf uf), .t (curD s zs hs us), .t (nD P)] M = .ok (.t (.int L)) M := by
  unfold ph_last_below
  rw [fnSem_ap]
  unfold m_last_below
  have zf0 := cf.cv.pos
  have zs0 := cs.cv.pos
  have lf := cf.len
  have ls := cs.len
  have bf := cf.ub
  have bs := cs.ub
  have f8f : ∀ M, fFld [5] 8 (.t (curD f zf hf uf)) M = .ok (.t (nD hf)) M := fun M => rfl
  have f8s : ∀ M, fFld [5] 8 (.t (curD s zs hs us)) M = .ok (.t (nD hs)) M := fun M => rfl
  have gf : ∀ M, ph_gain_in [.t (curD f zf hf uf), .t (nD P)] M = _ := fun M => gain_ok zf0 (by omega) (by omega) (by omega)
  have gs : ∀ M, ph_gain_in [.t (curD s zs hs us), .t (nD P)] M = _ := fun M => gain_ok zs0 (by omega) (by omega) (by omega)
  have perf := cf.cv.per df (H := max hf hs) (by omega)
  have pers := cs.cv.per ds (H := max hf hs) (by omega)
  have g1 := gain_bd (z := zf) bf hP
  have g2 := gain_bd (z := zs) bs hP
  generalize gain uf zf P = xf at *
  generalize gain us zs P = xs at *
  have mx2 := fun M => e_max2N (M := M) hf hs
  generalize hH : max hf hs = H at *
  have n1 : ∀ M, oPlus (.t (nD H)) (.t (nD P)) M = .ok (.t (nD (H + P))) M := fun M => nPlus _ _
  have nf : ∀ M, Pl M → ph_first_numbers [.t (curD f zf hf uf), .t (nD (H + P))] M = _ := fun M hM => first_ok cf.cv hM (by omega) (by omega)
  have ns : ∀ M, Pl M → ph_first_numbers [.t (curD s zs hs us), .t (nD (H + P))] M = _ := fun M hM => first_ok cs.cv hM (by omega) (by omega)
  have atf : ∀ k, k < H + P → L2.atI ((rowG f (H + P)).map D.int) (k : Int) = some (.int (f k)) := fun k hk => rowG_at rfl hk
  have ats : ∀ k, k < H + P → L2.atI ((rowG s (H + P)).map D.int) (k : Int) = some (.int (s k)) := fun k hk => rowG_at rfl hk
  simp -implicitDefEqProofs [-List.append_assoc, -Int.natCast_add, f8f, f8s, mx2, gf, gs, n1, nf M hM, ns M hM]
  rw [kRange1_of (by omega) (by omega)]
  simp -implicitDefEqProofs [-List.append_assoc, -Int.natCast_add]
  obtain ⟨Γ1, M1, e1, L, x8, q1, q2, q3, q4⟩ := for_all (ds := rangeD 0 H) (t := tgN 8) (m0 := M.length) (body := (vIfS (vTest (vOp oLt (vOp oIx (vVar 5) (vVar 8)) (vOp oIx (vVar 6) (vVar 8)))) (vAsg (vVar 8) (tgN 7)) (vNext)))
    (fun i Γ M' => ∃ (L : Int) (x8 : Option Wv), Γ = [some (.t (curD f zf hf uf)), some (.t (curD s zs hs us)), some (.t (nD P)), some (.t (nD H)), some (.t (.int (xf - xs))), some (.t (.lst ((rowG f (H + P)).map .int))), some (.t (.lst ((rowG s (H + P)).map .int))), some (.t (.int L)), x8, none] ∧ M' = M ∧
      Has f s L ∧ ((∀ t, t < i → f t < s t → (t : Int) ≤ L) ∧ L < (i : Int)))
    (fun i Γ M' ⟨_, _, _, e, _⟩ => by rw [e])
    (fun i d Γ M' hd hI => by
      obtain ⟨L, x8, q1, q2, q3, q4, q5⟩ := hI
      obtain ⟨hi, rfl⟩ := rangeD_get0 hd
      subst q1 q2
      have h1 := atf i (by omega)
      have h2 := ats i (by omega)
      rw [turn_nm]
      by_cases c : f i < s i
      · refine ⟨[some (.t (curD f zf hf uf)), some (.t (curD s zs hs us)), some (.t (nD P)), some (.t (nD H)), some (.t (.int (xf - xs))), some (.t (.lst ((rowG f (H + P)).map .int))), some (.t (.lst ((rowG s (H + P)).map .int))), some (.t (nD i)), some (.t (nD i)), none], M', ?_, (i : Int), _, rfl, rfl, .inr ⟨i, rfl, c⟩, fun t ht _ => by omega, by omega⟩
        simp -implicitDefEqProofs [-List.append_assoc, h1, h2, c]
      · refine ⟨[some (.t (curD f zf hf uf)), some (.t (curD s zs hs us)), some (.t (nD P)), some (.t (nD H)), some (.t (.int (xf - xs))), some (.t (.lst ((rowG f (H + P)).map .int))), some (.t (.lst ((rowG s (H + P)).map .int))), some (.t (.int L)), some (.t (nD i)), none], M', ?_, L, _, rfl, rfl, q3, fun t ht hb => ?_, by omega⟩
        · simp -implicitDefEqProofs [-List.append_assoc, h1, h2, c]
        · by_cases e : t = i
          · subst e; omega
          · exact q4 t (by omega) hb)
    (Γ := [some (.t (curD f zf hf uf)), some (.t (curD s zs hs us)), some (.t (nD P)), some (.t (nD H)), some (.t (.int (xf - xs))), some (.t (.lst ((rowG f (H + P)).map .int))), some (.t (.lst ((rowG s (H + P)).map .int))), some (.t (.int (-1))), none, none]) (M := M)
    ⟨-1, none, rfl, rfl, .inl rfl, fun t ht => by omega, by omega⟩
  rw [e1]
  subst q1 q2
  obtain ⟨q4, q5⟩ := q4
  rw [rangeD_len] at q4
  have hk : (((H + P : Nat) : Int) - (H : Int)).toNat = P := by omega
  simp -implicitDefEqProofs [-List.append_assoc, -Int.natCast_add, n1]
  rw [kRange2_of (by omega) (by omega) (by omega) (by omega), hk]
  simp -implicitDefEqProofs [-List.append_assoc, -Int.natCast_add]
  obtain ⟨Γ2, M2, e2, L2', y8, y9, r1, r2, r3, r4⟩ := for_all (ds := rangeD (H : Int) P) (t := tgN 8) (m0 := M1.length) (body := (vIfS (vTest (vOp oLt (vOp oIx (vVar 5) (vVar 8)) (vOp oIx (vVar 6) (vVar 8)))) (vSeq (vAsg (vOp oFdiv (vOp oSub (vOp oSub (vOp oIx (vVar 6) (vVar 8)) (vOp oIx (vVar 5) (vVar 8))) (vC (.int 1))) (vVar 4)) (tgN 9))
    (vAsg (vCall fMax2 (vCons (vVar 7) (vCons (vOp oPlus (vVar 8) (vOp oTimes (vVar 9) (vVar 2))) (vNil)))) (tgN 7))) (vNext)))
    (fun i Γ M' => ∃ (L : Int) (x8 x9 : Option Wv), Γ = [some (.t (curD f zf hf uf)), some (.t (curD s zs hs us)), some (.t (nD P)), some (.t (nD H)), some (.t (.int (xf - xs))), some (.t (.lst ((rowG f (H + P)).map .int))), some (.t (.lst ((rowG s (H + P)).map .int))), some (.t (.int L)), x8, x9] ∧ M' = M1 ∧
      Has f s L ∧ ∀ t, (t < H ∨ ∃ j k, j < i ∧ t = H + j + k * P) → f t < s t → (t : Int) ≤ L)
    (fun i Γ M' ⟨_, _, _, _, e, _⟩ => by rw [e])
    (fun i d Γ M' hd hI => by
      obtain ⟨L, x8, x9, q1, q2, q3, q4⟩ := hI
      obtain ⟨hi, rfl⟩ := rangeD_get hd
      subst q1 q2
      rw [show (H : Int) + (i : Int) = ((H + i : Nat) : Int) by omega]
      have h1 := atf (H + i) (by omega)
      have h2 := ats (H + i) (by omega)
      have v1 := cf.vb (H + i) (by omega)
      have v2 := cs.vb (H + i) (by omega)
      have pf := per_mul perf (H + i) (by omega)
      have ps := per_mul pers (H + i) (by omega)
      rw [turn_nm]
      by_cases c : f (H + i) < s (H + i)
      · obtain ⟨q, hq, hb, hl⟩ := last_of pf ps hg c
        have fd : ∀ M, oFdiv (.t (.int (s (H + i) - f (H + i) - 1))) (.t (.int (xf - xs))) M = .ok (.t (nD q)) M := fun M => by rw [e_fdiv62 (by omega) (by omega), hq]
        have qb : (q : Int) ≤ s (H + i) - f (H + i) - 1 := by rw [← hq]; exact Int.ediv_le_self _ (by omega)
        have tm : ∀ M, oTimes (.t (nD q)) (.t (nD P)) M = .ok (.t (nD (q * P))) M := fun M => by rw [nD, nD, e_times62 (by omega) (by omega)]; simp [nD]
        have np : ∀ M, oPlus (.t (nD (H + i))) (.t (nD (q * P))) M = .ok (.t (nD (H + i + q * P))) M := fun M => nPlus _ _
        have mx := fun M => e_max2I (M := M) L ((H + i + q * P : Nat) : Int)
        refine ⟨[some (.t (curD f zf hf uf)), some (.t (curD s zs hs us)), some (.t (nD P)), some (.t (nD H)), some (.t (.int (xf - xs))), some (.t (.lst ((rowG f (H + P)).map .int))), some (.t (.lst ((rowG s (H + P)).map .int))), some (.t (.int (max L ((H + i + q * P : Nat) : Int)))), some (.t (nD (H + i))), some (.t (nD q))], M', ?_, max L ((H + i + q * P : Nat) : Int), _, _, rfl, rfl, ?_, fun t ht hbt => ?_⟩
        · simp -implicitDefEqProofs [-List.append_assoc, -Int.natCast_add, -Int.natCast_mul, h1, h2, c, fd, tm, np, mx]
        · by_cases cc : L ≤ ((H + i + q * P : Nat) : Int)
          · exact .inr ⟨H + i + q * P, Int.max_eq_right cc, hb⟩
          · rw [Int.max_eq_left (by omega)]; exact q3
        · rcases ht with ht | ⟨j, k, hj, rfl⟩
          · have := q4 t (.inl ht) hbt
            exact Int.le_trans this (Int.le_max_left _ _)
          · by_cases e : j = i
            · subst e
              have := hl k hbt
              have h3 : k * P ≤ q * P := Nat.mul_le_mul_right _ this
              have h4 : ((H + j + k * P : Nat) : Int) ≤ ((H + j + q * P : Nat) : Int) := by omega
              exact Int.le_trans h4 (Int.le_max_right _ _)
            · have := q4 _ (.inr ⟨j, k, by omega, rfl⟩) hbt
              exact Int.le_trans this (Int.le_max_left _ _)
      · refine ⟨[some (.t (curD f zf hf uf)), some (.t (curD s zs hs us)), some (.t (nD P)), some (.t (nD H)), some (.t (.int (xf - xs))), some (.t (.lst ((rowG f (H + P)).map .int))), some (.t (.lst ((rowG s (H + P)).map .int))), some (.t (.int L)), some (.t (nD (H + i))), x9], M', ?_, L, _, _, rfl, rfl, q3, fun t ht hbt => ?_⟩
        · simp -implicitDefEqProofs [-List.append_assoc, -Int.natCast_add, h1, h2, c]
        · rcases ht with ht | ⟨j, k, hj, rfl⟩
          · exact q4 t (.inl ht) hbt
          · by_cases e : j = i
            · subst e
              rw [pf, ps] at hbt
              have : (k : Int) * xs ≤ (k : Int) * xf := Int.mul_le_mul_of_nonneg_left (by omega) (by omega)
              omega
            · exact q4 _ (.inr ⟨j, k, by omega, rfl⟩) hbt)
    (Γ := [some (.t (curD f zf hf uf)), some (.t (curD s zs hs us)), some (.t (nD P)), some (.t (nD H)), some (.t (.int (xf - xs))), some (.t (.lst ((rowG f (H + P)).map .int))), some (.t (.lst ((rowG s (H + P)).map .int))), some (.t (.int L)), x8, none]) (M := M1)
    ⟨L, x8, none, rfl, rfl, q3, fun t ht hb => by
      rcases ht with ht | ⟨j, k, hj, _⟩
      · exact q4 t ht hb
      · omega⟩
  rw [e2]
  subst r1 r2
  rw [rangeD_len] at r4
  refine ⟨L2', ⟨r3, fun t hb => r4 t ?_ hb⟩, ?_⟩
  · by_cases c : t < H
    · exact .inl c
    · refine .inr ⟨(t - H) % P, (t - H) / P, Nat.mod_lt _ (by omega), ?_⟩
      have := Nat.mod_add_div (t - H) P
      rw [Nat.mul_comm] at this
      omega
  · simp [cutM_same]
end
end K04

set_option Elab.async false
set_option linter.all false
set_option maxRecDepth 100000
set_option maxHeartbeats 400000
/-! least, convolved -/
namespace K04
open PySem PySem.Spec PyProof.Rows L2 VL
theorem pow60 {r : Int} (h : r.natAbs ≤ 1000000000000000000) : r.natAbs < 2 ^ 5000 := Nat.lt_of_le_of_lt h (Nat.lt_of_lt_of_le (show 1000000000000000000 < 2 ^ 60 by decide) (Nat.pow_le_pow_right (by omega) (by omega)))
section
variable {M : Store}
theorem told_ok {s : Nat → Int} {zs hs : Nat} {us L : Int} :
    ph_told_ticks [.t (curD s zs hs us), .t (.int L)] M = if L < (hs : Int) then .ok (.t (nD (hs + zs))) M else if L + 1 + (zs : Int) ≤ 400 then .ok (.t (.int (L + 1 + (zs : Int)))) M else .exc 3 [(3, .int (L + 1 + (zs : Int)))] M := by
  unfold ph_told_ticks
  rw [fnSem_ap]
  unfold m_told_ticks
  have f8 : ∀ M, fFld [5] 8 (.t (curD s zs hs us)) M = .ok (.t (nD hs)) M := fun M => rfl
  have f6 : ∀ M, fFld [5] 6 (.t (curD s zs hs us)) M = .ok (.t (nD zs)) M := fun M => rfl
  by_cases c : L < (hs : Int)
  · rw [if_pos c]
    simp -implicitDefEqProofs [-List.append_assoc, f8, f6, c, cutM_same, nD]
  · rw [if_neg c]
    by_cases c2 : L + 1 + (zs : Int) ≤ 400
    · rw [if_pos c2]
      have c2' : ¬ 400 < L + 1 + (zs : Int) := by omega
      simp -implicitDefEqProofs [-List.append_assoc, f8, f6, c, c2', cutM_same]
    · rw [if_neg c2]
      have c2' : 400 < L + 1 + (zs : Int) := by omega
      have kr : ∀ (Γ : VEnv) (M : Store) (x : Int), kRaise 3 2 [(3, 1)] [.t (.int x)] Γ M = .exc 3 [(3, .int x)] Γ M := fun Γ M x => kRaise_of rfl rfl
      simp -implicitDefEqProofs [-List.append_assoc, f8, f6, c, c2', kr, cutM_same]
abbrev dead5 (M : Store) : Store := M ++ [.dead, .dead, .dead, .dead, .dead]
theorem min_facts {a b : Nat → Int} {za ha zb hb s p z h : Nat} {ua ub r u : Int} (ca : Cv a za ha ua) (cb : Cv b zb hb ub) (la : ha + za ≤ 2500) (lb : hb + zb ≤ 2500) (hM : Pl M) (p0 : 1 ≤ p) (hl : s + p ≤ 100000) (hr : r.natAbs ≤ 1000000000000000000) (per : ∀ t, s ≤ t → mnf a b (t + p) = mnf a b t + r) (cv : Cv (mnf a b) z h u) :
    ph_first_numbers [.t (curD a za ha ua), .t (nD (s + p))] M = .ok (.f (.lst ((rowG a (s + p)).map .int))) M ∧ ph_first_numbers [.t (curD b zb hb ub), .t (nD (s + p))] M = .ok (.f (.lst ((rowG b (s + p)).map .int))) M ∧
    (∀ x2 x3 x4 x5 x6 x7 x8 : Option Wv, compL ⟨zipD ((rowG a (s + p)).map .int) ((rowG b (s + p)).map .int), none⟩ (.tup [9, 10]) vYes (vCall fMin2 (vCons (vVar 9) (vCons (vVar 10) (vNil)))) (M.length + 5) [some (.t (curD a za ha ua)), some (.t (curD b zb hb ub)), x2, x3, x4, x5, x6, x7, x8, none, none] (zipD ((rowG a (s + p)).map .int) ((rowG b (s + p)).map .int)) (dead5 M ++ [.lst []]) = .ok (.f (.lst ((rowG (mnf a b) (s + p)).map .int))) (dead5 M)) ∧
    ph_made [.t (.lst ((rowG (mnf a b) (s + p)).map .int)), .t (nD p), .t (.int r)] (dead5 M) = if h + z ≤ 400 then .ok (.t (curD (mnf a b) z h u)) (dead5 M) else .exc 3 [(3, nD (h + z))] (dead5 M) := by
  have hM' : Pl (dead5 M) := hM.append rfl
  have zl := cv.zmin p p0 ⟨s, r, per⟩
  have hl' := cv.head_le p0 per
  refine ⟨first_ok ca hM (by omega) (by omega), first_ok cb hM (by omega) (by omega), fun x2 x3 x4 x5 x6 x7 x8 => ?_, made_is (.inl rfl) hM' p0 (by omega) (pow60 hr) per cv (by omega)⟩
  have cz := comp_zip (f := a) (g := b) (n := s + p) (mnf a b) (i := 9) (j := 10) (elt := (vCall fMin2 (vCons (vVar 9) (vCons (vVar 10) (vNil))))) (Γ := [some (.t (curD a za ha ua)), some (.t (curD b zb hb ub)), x2, x3, x4, x5, x6, x7, x8, none, none]) hM' (by omega) (fun s acc hs => by simp -implicitDefEqProofs [-List.append_assoc, mnf])
  rw [show (dead5 M).length = M.length + 5 by simp] at cz
  exact cz
noncomputable def m_leastF : Nat → SemS := fun k0 =>
    vSeq (vAsg (vDef 2 ph_common_period (vCons (vVar 0) (vCons (vVar 1) (vNil)))) (tgN 2))
    (vSeq (vAsg (vOp oSub (vDef 2 ph_gain_in (vCons (vVar 0) (vCons (vVar 2) (vNil)))) (vDef 2 ph_gain_in (vCons (vVar 1) (vCons (vVar 2) (vNil))))) (tgN 3))
    (vSeq (vIfS (vTest (vOp oEq (vVar 3) (vC (.int 0)))) (vPar 4 5 (vCons (vOp oPlus (vCall fMax2 (vCons (vFld [5] 8 (vVar 0)) (vCons (vFld [5] 8 (vVar 1)) (vNil)))) (vVar 2)) (vCons (vDef 2 ph_gain_in (vCons (vVar 0) (vCons (vVar 2) (vNil)))) (vNil)))) (vSeq (vAsg (vIf (vTest (vOp oLt (vVar 3) (vC (.int 0)))) (vTup (vCons (vVar 0) (vCons (vVar 1) (vNil)))) (vTup (vCons (vVar 1) (vCons (vVar 0) (vNil))))) (tgTup 2 (tgsCons (tgN 6) (tgsCons (tgN 7) (tgsNil)))))
    (vSeq (vAsg (vDef 2 ph_told_ticks (vCons (vVar 6) (vCons (vDef 3 ph_last_below (vCons (vVar 7) (vCons (vVar 6) (vCons (vVar 2) (vNil))))) (vNil)))) (tgN 4))
    (vPar 2 5 (vCons (vFld [5] 6 (vVar 6)) (vCons (vFld [5] 7 (vVar 6)) (vNil)))))))
    (vSeq (vAsg (vCall (fZipV k0) (vCons (vDef 2 ph_first_numbers (vCons (vVar 0) (vCons (vVar 4) (vNil)))) (vCons (vDef 2 ph_first_numbers (vCons (vVar 1) (vCons (vVar 4) (vNil)))) (vNil)))) (tgN 8))
    (vRet (vDef 3 ph_made (vCons (vComp (vZipS k0 (vVar 8)) (.tup [9, 10]) [9, 10] (vYes) (vCall fMin2 (vCons (vVar 9) (vCons (vVar 10) (vNil))))) (vCons (vVar 2) (vCons (vVar 5) (vNil)))))))))
theorem least_ok' {a b : Nat → Int} {za ha zb hb z h : Nat} {ua ub u : Int} (ca : CurB a za ha ua) (cb : CurB b zb hb ub) (hM : Pl M) (hP : Nat.lcm za zb ≤ 400) (cv : Cv (mnf a b) z h u) :
    ph_least [.t (curD a za ha ua), .t (curD b zb hb ub)] M = if h + z ≤ 400 then .ok (.t (curD (mnf a b) z h u)) M else .exc 3 [(3, nD (h + z))] M := by
  have za0 := ca.cv.pos
  have zb0 := cb.cv.pos
  have la := ca.len
  have lb := cb.len
  have ba := ca.ub
  have bb := cb.ub
  obtain ⟨p1, p2⟩ := lcm_ge za0 zb0
  have cp := common_per (M := M) (g := a) (z := za) (h := ha) (u := ua) (g' := b) (z' := zb) (h' := hb) (u' := ub) (by omega) (by omega)
  rw [if_pos hP] at cp
  have da := Nat.dvd_lcm_left za zb
  have db := Nat.dvd_lcm_right za zb
  generalize Nat.lcm za zb = P at *
  have ga : ∀ M, ph_gain_in [.t (curD a za ha ua), .t (nD P)] M = _ := fun M => gain_ok za0 (by omega) (by omega) (by omega)
  have gb : ∀ M, ph_gain_in [.t (curD b zb hb ub), .t (nD P)] M = _ := fun M => gain_ok zb0 (by omega) (by omega) (by omega)
  have bga := gain_bd (z := za) ba hP
  have bgb := gain_bd (z := zb) bb hP
  have dl : (dead5 M).length = M.length + 5 := by simp
  have zs := fun k (xs ys : List D) => kZipS_s (k := k) (m := M.length) (M := M) (xs := xs) (ys := ys) rfl
  unfold ph_least
  rw [fnSem_ap]
  rw [show m_least = vAnyK m_leastF from rfl]
  rcases Int.lt_trichotomy (gain ua za P - gain ub zb P) 0 with c | c | c
  · obtain ⟨L, hL, el⟩ := last_ok (f := b) (s := a) (M := M) cb ca hM hP (by omega) db da (by omega)
    have cv2 : Cv (mnf b a) z h u := by rw [mnf_comm b a]; exact cv
    have f6 : ∀ M, fFld [5] 6 (.t (curD a za ha ua)) M = .ok (.t (nD za)) M := fun M => rfl
    have f7 : ∀ M, fFld [5] 7 (.t (curD a za ha ua)) M = .ok (.t (.int ua)) M := fun M => rfl
    have tk := told_ok (M := M) (s := a) (zs := za) (hs := ha) (us := ua) (L := L)
    have c0 : ¬ gain ua za P - gain ub zb P = 0 := by omega
    have good : ∀ (H n : Nat), ha ≤ H → L < (H : Int) → H ≤ 3000 → H + za = n → ph_told_ticks [.t (curD a za ha ua), .t (.int L)] M = .ok (.t (nD n)) M → fnEnd M.length (vAnyK m_leastF ([Wv.t (curD a za ha ua), Wv.t (curD b zb hb ub)].map some ++ List.replicate (11 - 2) none) M) = if h + z ≤ 400 then .ok (.t (curD (mnf a b) z h u)) M else .exc 3 [(3, nD (h + z))] M := fun H n h1 h2 h3 hn ek => by
      have per : ∀ t, H ≤ t → mnf a b (t + za) = mnf a b t + ua := fun t ht => by
        rw [mnf_comm a b]; exact mnf_per ca.cv hL h1 h2 t ht
      obtain ⟨fa, fb, fc, fm⟩ := min_facts (M := M) (s := H) (p := za) (r := ua) ca.cv cb.cv la lb hM za0 (by omega) (by omega) per cv
      subst hn
      generalize hn : H + za = n at *
      generalize gain ua za P = xa at *
      generalize gain ub zb P = xb at *
      have c1 : xa - xb < 0 := by omega
      rw [vAnyK_eq (r := if h + z ≤ 400 then .ok (.rt (.t (curD (mnf a b) z h u))) [some (.t (curD a za ha ua)), some (.t (curD b zb hb ub)), some (.t (nD za)), some (.t (.int (xa - xb))), some (.t (nD n)), some (.t (.int ua)), some (.t (curD a za ha ua)), some (.t (curD b zb hb ub)), some (.l (M.length + 4)), none, none] (dead5 M) else .exc 3 [(3, nD (h + z))] [some (.t (curD a za ha ua)), some (.t (curD b zb hb ub)), some (.t (nD za)), some (.t (.int (xa - xb))), some (.t (nD n)), some (.t (.int ua)), some (.t (curD a za ha ua)), some (.t (curD b zb hb ub)), some (.l (M.length + 4)), none, none] (dead5 M)) (fun k => ?_)]
      · split
        · simp [cutM_app hM]
        · simp [cutM_app hM]
      · unfold m_leastF
        by_cases cz : h + z ≤ 400
        · rw [if_pos cz] at fm ⊢
          simp -implicitDefEqProofs [-List.append_assoc, -Int.natCast_add, cp, ga, gb, c0, c1, el, ek, f6, f7, fa, fb, zs k, fc, fm]
        · rw [if_neg cz] at fm ⊢
          simp -implicitDefEqProofs [-List.append_assoc, -Int.natCast_add, cp, ga, gb, c0, c1, el, ek, f6, f7, fa, fb, zs k, fc, fm]
    by_cases c2 : L < (ha : Int)
    · rw [if_pos c2] at tk
      exact good ha (ha + za) (Nat.le_refl _) c2 (by omega) rfl tk
    · rw [if_neg c2] at tk
      obtain ⟨n, rfl⟩ : ∃ n : Nat, L = (n : Int) := ⟨L.toNat, by omega⟩
      have cn := mnf_cv ca.cv hL (by omega)
      obtain ⟨e1, e2, e3⟩ := cn.uniq cv2
      by_cases c3 : (n : Int) + 1 + (za : Int) ≤ 400
      · rw [if_pos c3] at tk
        refine good (n + 1) (n + 1 + za) (by omega) (by omega) (by omega) rfl ?_
        rw [tk]
        simp [nD]
      · rw [if_neg c3] at tk
        have ce : ¬ h + z ≤ 400 := by omega
        rw [if_neg ce]
        have eh : (n : Int) + 1 + (za : Int) = ((h + z : Nat) : Int) := by omega
        rw [eh] at tk
        clear good
        generalize gain ua za P = xa at *
        generalize gain ub zb P = xb at *
        have c1 : xa - xb < 0 := by omega
        rw [vAnyK_eq (r := .exc 3 [(3, nD (h + z))] [some (.t (curD a za ha ua)), some (.t (curD b zb hb ub)), some (.t (nD P)), some (.t (.int (xa - xb))), none, none, some (.t (curD a za ha ua)), some (.t (curD b zb hb ub)), none, none, none] M) (fun k => ?_)]
        · simp [cutM_same]
        · unfold m_leastF
          simp -implicitDefEqProofs [-List.append_assoc, -Int.natCast_add, cp, ga, gb, c0, c1, el, tk]
  · have e0 : gain ua za P = gain ub zb P := by omega
    have per : ∀ t, max ha hb ≤ t → mnf a b (t + P) = mnf a b t + gain ua za P := fun t ht => by
      have x := ca.cv.gain da t (by omega)
      have y := cb.cv.gain db t (by omega)
      unfold mnf
      rw [x, y, e0]
      split <;> split <;> omega
    obtain ⟨fa, fb, fc, fm⟩ := min_facts (M := M) ca.cv cb.cv la lb hM (by omega) (by omega) (by omega) per cv
    have mx2 := fun M => e_max2N (M := M) ha hb
    have f8a : ∀ M, fFld [5] 8 (.t (curD a za ha ua)) M = .ok (.t (nD ha)) M := fun M => rfl
    have f8b : ∀ M, fFld [5] 8 (.t (curD b zb hb ub)) M = .ok (.t (nD hb)) M := fun M => rfl
    have n1 : ∀ M, oPlus (.t (nD (max ha hb))) (.t (nD P)) M = .ok (.t (nD (max ha hb + P))) M := fun M => nPlus _ _
    generalize max ha hb + P = n at *
    generalize gain ua za P = xa at *
    generalize gain ub zb P = xb at *
    subst e0
    have c0 : xa - xa = 0 := by omega
    rw [vAnyK_eq (r := if h + z ≤ 400 then .ok (.rt (.t (curD (mnf a b) z h u))) [some (.t (curD a za ha ua)), some (.t (curD b zb hb ub)), some (.t (nD P)), some (.t (.int 0)), some (.t (nD n)), some (.t (.int xa)), none, none, some (.l (M.length + 4)), none, none] (dead5 M) else .exc 3 [(3, nD (h + z))] [some (.t (curD a za ha ua)), some (.t (curD b zb hb ub)), some (.t (nD P)), some (.t (.int 0)), some (.t (nD n)), some (.t (.int xa)), none, none, some (.l (M.length + 4)), none, none] (dead5 M)) (fun k => ?_)]
    · split
      · simp [cutM_app hM]
      · simp [cutM_app hM]
    · unfold m_leastF
      by_cases cz : h + z ≤ 400
      · rw [if_pos cz] at fm ⊢
        simp -implicitDefEqProofs [-List.append_assoc, -Int.natCast_add, cp, ga, gb, c0, f8a, f8b, mx2, n1, fa, fb, zs k, fc, fm]
      · rw [if_neg cz] at fm ⊢
        simp -implicitDefEqProofs [-List.append_assoc, -Int.natCast_add, cp, ga, gb, c0, f8a, f8b, mx2, n1, fa, fb, zs k, fc, fm]
  · obtain ⟨L, hL, el⟩ := last_ok (f := a) (s := b) (M := M) ca cb hM hP (by omega) da db (by omega)
    have cv2 : Cv (mnf a b) z h u := cv
    have f6 : ∀ M, fFld [5] 6 (.t (curD b zb hb ub)) M = .ok (.t (nD zb)) M := fun M => rfl
    have f7 : ∀ M, fFld [5] 7 (.t (curD b zb hb ub)) M = .ok (.t (.int ub)) M := fun M => rfl
    have tk := told_ok (M := M) (s := b) (zs := zb) (hs := hb) (us := ub) (L := L)
    have c0 : ¬ gain ua za P - gain ub zb P = 0 := by omega
    have good : ∀ (H n : Nat), hb ≤ H → L < (H : Int) → H ≤ 3000 → H + zb = n → ph_told_ticks [.t (curD b zb hb ub), .t (.int L)] M = .ok (.t (nD n)) M → fnEnd M.length (vAnyK m_leastF ([Wv.t (curD a za ha ua), Wv.t (curD b zb hb ub)].map some ++ List.replicate (11 - 2) none) M) = if h + z ≤ 400 then .ok (.t (curD (mnf a b) z h u)) M else .exc 3 [(3, nD (h + z))] M := fun H n h1 h2 h3 hn ek => by
      have per : ∀ t, H ≤ t → mnf a b (t + zb) = mnf a b t + ub := fun t ht => by
        exact mnf_per cb.cv hL h1 h2 t ht
      obtain ⟨fa, fb, fc, fm⟩ := min_facts (M := M) (s := H) (p := zb) (r := ub) ca.cv cb.cv la lb hM zb0 (by omega) (by omega) per cv
      subst hn
      generalize hn : H + zb = n at *
      generalize gain ua za P = xa at *
      generalize gain ub zb P = xb at *
      have c1 : ¬ (xa - xb < 0) := by omega
      rw [vAnyK_eq (r := if h + z ≤ 400 then .ok (.rt (.t (curD (mnf a b) z h u))) [some (.t (curD a za ha ua)), some (.t (curD b zb hb ub)), some (.t (nD zb)), some (.t (.int (xa - xb))), some (.t (nD n)), some (.t (.int ub)), some (.t (curD b zb hb ub)), some (.t (curD a za ha ua)), some (.l (M.length + 4)), none, none] (dead5 M) else .exc 3 [(3, nD (h + z))] [some (.t (curD a za ha ua)), some (.t (curD b zb hb ub)), some (.t (nD zb)), some (.t (.int (xa - xb))), some (.t (nD n)), some (.t (.int ub)), some (.t (curD b zb hb ub)), some (.t (curD a za ha ua)), some (.l (M.length + 4)), none, none] (dead5 M)) (fun k => ?_)]
      · split
        · simp [cutM_app hM]
        · simp [cutM_app hM]
      · unfold m_leastF
        by_cases cz : h + z ≤ 400
        · rw [if_pos cz] at fm ⊢
          simp -implicitDefEqProofs [-List.append_assoc, -Int.natCast_add, cp, ga, gb, c0, c1, el, ek, f6, f7, fa, fb, zs k, fc, fm]
        · rw [if_neg cz] at fm ⊢
          simp -implicitDefEqProofs [-List.append_assoc, -Int.natCast_add, cp, ga, gb, c0, c1, el, ek, f6, f7, fa, fb, zs k, fc, fm]
    by_cases c2 : L < (hb : Int)
    · rw [if_pos c2] at tk
      exact good hb (hb + zb) (Nat.le_refl _) c2 (by omega) rfl tk
    · rw [if_neg c2] at tk
      obtain ⟨n, rfl⟩ : ∃ n : Nat, L = (n : Int) := ⟨L.toNat, by omega⟩
      have cn := mnf_cv cb.cv hL (by omega)
      obtain ⟨e1, e2, e3⟩ := cn.uniq cv2
      by_cases c3 : (n : Int) + 1 + (zb : Int) ≤ 400
      · rw [if_pos c3] at tk
        refine good (n + 1) (n + 1 + zb) (by omega) (by omega) (by omega) rfl ?_
        rw [tk]
        simp [nD]
      · rw [if_neg c3] at tk
        have ce : ¬ h + z ≤ 400 := by omega
        rw [if_neg ce]
        have eh : (n : Int) + 1 + (zb : Int) = ((h + z : Nat) : Int) := by omega
        rw [eh] at tk
        clear good
        generalize gain ua za P = xa at *
        generalize gain ub zb P = xb at *
        have c1 : ¬ (xa - xb < 0) := by omega
        rw [vAnyK_eq (r := .exc 3 [(3, nD (h + z))] [some (.t (curD a za ha ua)), some (.t (curD b zb hb ub)), some (.t (nD P)), some (.t (.int (xa - xb))), none, none, some (.t (curD b zb hb ub)), some (.t (curD a za ha ua)), none, none, none] M) (fun k => ?_)]
        · simp [cutM_same]
        · unfold m_leastF
          simp -implicitDefEqProofs [-List.append_assoc, -Int.natCast_add, cp, ga, gb, c0, c1, el, tk]
end
end K04

set_option Elab.async false
set_option linter.all false
set_option maxRecDepth 100000
set_option maxHeartbeats 400000
/-! convolved -/
namespace K04
open PySem PySem.Spec PyProof.Rows L2 VL
abbrev CurS := Cur 100000000000000
theorem CurS.big {g : Nat → Int} {z h : Nat} {u : Int} (c : CurS g z h u) : CurB g z h u := ⟨c.cv, c.len, by have := c.ub; omega, fun t ht => by have := c.vb t ht; omega⟩
/-- the pieces of a convolution: what is known of them -/
structure Pc (slow fast : Nat → Int) (zs hs zf hf P zn hn zw hw : Nat) (us un uw : Int) : Prop where
  N : CurB (fam slow fast (hf + P)) zn hn un
  zn_le : zn ≤ zs
  zn_dvd : zn ∣ zs
  hn_le : hn ≤ hs + (hf + P) - 1
  F : 1 ≤ hs → CurB (fam fast slow hs) zw hw uw ∧ zw ≤ zf ∧ zw ∣ zf ∧ hw ≤ hf + hs - 1
theorem pc_of {slow fast : Nat → Int} {zs hs zf hf P : Nat} {us uf : Int} (cs : CurS slow zs hs us) (cf : CurS fast zf hf uf) (ls : hs + zs ≤ 400) (lf : hf + zf ≤ 400) (P0 : 1 ≤ P) (hP : P ≤ 400) :
    ∃ zn hn zw hw un uw, Pc slow fast zs hs zf hf P zn hn zw hw us un uw := by
  have zs0 := cs.cv.pos
  have zf0 := cf.cv.pos
  have us' := cs.ub
  have uf' := cf.ub
  have perN := fun t ht => fam_per (y := fast) (m := hf + P) cs.cv (by omega) t ht
  obtain ⟨zn, hn, un, c1, c2, c3, c4⟩ := cv_full zs0 (by omega) (pow60 (by omega)) perN
  have bN := fun t ht => fam_bd (x := slow) (y := fast) (m := hf + P) (B := 100000000000000) (T := 6000) (by omega) (by omega) cs.vb cf.vb t ht
  have N := Cur.of c1 (by omega) bN (by omega)
  have dN := c1.dvd zs0 ⟨_, us, perN⟩
  by_cases h0 : 1 ≤ hs
  · have perF := fun t ht => fam_per (y := slow) (m := hs) cf.cv h0 t ht
    obtain ⟨zw, hw, uw, d1, d2, d3, d4⟩ := cv_full zf0 (by omega) (pow60 (by omega)) perF
    have bF := fun t ht => fam_bd (x := fast) (y := slow) (m := hs) (B := 100000000000000) (T := 6000) h0 (by omega) cf.vb cs.vb t ht
    have F := Cur.of d1 (by omega) bF (by omega)
    exact ⟨zn, hn, zw, hw, un, uw, N, c3, dN, c4, fun _ => ⟨F, d3, d1.dvd zf0 ⟨_, uf, perF⟩, d4⟩⟩
  · exact ⟨zn, hn, 0, 0, un, 0, N, c3, dN, c4, fun h => absurd h h0⟩
theorem cnv_zero {slow fast : Nat → Int} {hs m : Nat} (h : hs = 0) : cnv slow fast hs m = fam slow fast m := by
  funext t; unfold cnv; rw [if_pos h]
theorem cnv_pos {slow fast : Nat → Int} {hs m : Nat} (h : 1 ≤ hs) : cnv slow fast hs m = mnf (fam slow fast m) (fam fast slow hs) := by
  funext t; unfold cnv; rw [if_neg (by omega)]
section
variable {M : Store}
/-- what is folded, by the slower one -/
noncomputable def cfn (a b : Nat → Int) (za ha : Nat) (ua : Int) (zb hb : Nat) (ub : Int) (P : Nat) : Nat → Int := if gain ua za P ≤ gain ub zb P then cnv a b ha (hb + P) else cnv b a hb (ha + P)
theorem conv_ok {a b : Nat → Int} {za ha zb hb z h : Nat} {ua ub u : Int} (ca : CurS a za ha ua) (cb : CurS b zb hb ub) (la : ha + za ≤ 400) (lb : hb + zb ≤ 400) (hM : Pl M) (cv : Cv (cfn a b za ha ua zb hb ub (Nat.lcm za zb)) z h u) :
    ph_convolved [.t (curD a za ha ua), .t (curD b zb hb ub)] M = if 400 < Nat.lcm za zb then .exc 3 [(3, nD (Nat.lcm za zb))] M else if h + z ≤ 400 then .ok (.t (curD (cfn a b za ha ua zb hb ub (Nat.lcm za zb)) z h u)) M else .exc 3 [(3, nD (h + z))] M := by
  unfold ph_convolved
  rw [fnSem_ap]
  unfold m_convolved
  have za0 := ca.cv.pos
  have zb0 := cb.cv.pos
  have ba := ca.ub
  have bb := cb.ub
  obtain ⟨p1, p2⟩ := lcm_ge za0 zb0
  have cp := common_per (M := M) (g := a) (z := za) (h := ha) (u := ua) (g' := b) (z' := zb) (h' := hb) (u' := ub) (by omega) (by omega)
  have da := Nat.dvd_lcm_left za zb
  have db := Nat.dvd_lcm_right za zb
  have hlcm : ∀ x y, x ∣ za → y ∣ zb → Nat.lcm x y ∣ Nat.lcm za zb := fun x y h1 h2 => Nat.lcm_dvd (Nat.dvd_trans h1 da) (Nat.dvd_trans h2 db)
  have hlcm' : ∀ x y, x ∣ zb → y ∣ za → Nat.lcm x y ∣ Nat.lcm za zb := fun x y h1 h2 => Nat.lcm_dvd (Nat.dvd_trans h1 db) (Nat.dvd_trans h2 da)
  generalize Nat.lcm za zb = P at *
  by_cases c1 : 400 < P
  · rw [if_neg (by omega)] at cp
    rw [if_pos c1]
    simp -implicitDefEqProofs [-List.append_assoc, cp, cutM_same]
  rw [if_pos (by omega)] at cp
  rw [if_neg c1]
  have ga : ∀ M, ph_gain_in [.t (curD a za ha ua), .t (nD P)] M = _ := fun M => gain_ok za0 (by omega) (by omega) (by omega)
  have gb : ∀ M, ph_gain_in [.t (curD b zb hb ub), .t (nD P)] M = _ := fun M => gain_ok zb0 (by omega) (by omega) (by omega)
  have n1 : ∀ a b M, oPlus (.t (nD a)) (.t (nD b)) M = .ok (.t (nD (a + b))) M := fun a b M => nPlus _ _
  have f8 : ∀ g z h u M, fFld [5] 8 (.t (curD g z h u)) M = .ok (.t (nD h)) M := fun _ _ _ _ _ => rfl
  have f6 : ∀ g z h u M, fFld [5] 6 (.t (curD g z h u)) M = .ok (.t (nD z)) M := fun _ _ _ _ _ => rfl
  have f7 : ∀ g z h u M, fFld [5] 7 (.t (curD g z h u)) M = .ok (.t (.int u)) M := fun _ _ _ _ _ => rfl
  have f5 : ∀ g z h u M, fFld [5] 5 (.t (curD g z h u)) M = .ok (.t (.tup ((rowG g (h + z)).map .int))) M := fun _ _ _ _ _ => rfl
  -- either way
  have core : ∀ (slow fast : Nat → Int) (zs hs zf hf : Nat) (us uf : Int) (cs : CurS slow zs hs us) (cf : CurS fast zf hf uf) (ls : hs + zs ≤ 400) (lf : hf + zf ≤ 400) (hl : ∀ x y, x ∣ zs → y ∣ zf → Nat.lcm x y ∣ P) (cv : Cv (cnv slow fast hs (hf + P)) z h u),
      ∃ (d1 d2 : D), ph_first_numbers [.t (curD fast zf hf uf), .t (nD (hf + P))] M = .ok (.f (.lst ((rowG fast (hf + P)).map .int))) M ∧ ph_first_numbers [.t (curD slow zs hs us), .t (nD hs)] M = .ok (.f (.lst ((rowG slow hs).map .int))) M ∧
        ph_best_shifted [.t (curD slow zs hs us), .t (.lst ((rowG fast (hf + P)).map .int))] M = .ok (.f d1) M ∧
        (hs = 0 → ∃ x y w, (∀ M, fFld [5] 5 (.t d1) M = .ok (.t x) M) ∧ (∀ M, fFld [5] 6 (.t d1) M = .ok (.t y) M) ∧ (∀ M, fFld [5] 7 (.t d1) M = .ok (.t w) M) ∧ ph_made [.t x, .t y, .t w] M = if h + z ≤ 400 then .ok (.t (curD (cnv slow fast hs (hf + P)) z h u)) M else .exc 3 [(3, nD (h + z))] M) ∧
        (1 ≤ hs → ph_best_shifted [.t (curD fast zf hf uf), .t (.lst ((rowG slow hs).map .int))] M = .ok (.f d2) M ∧ ph_least [.t d1, .t d2] M = if h + z ≤ 400 then .ok (.t (curD (cnv slow fast hs (hf + P)) z h u)) M else .exc 3 [(3, nD (h + z))] M) := by
    intro slow fast zs hs zf hf us uf cs cf ls lf hl cv
    have zs0 := cs.cv.pos
    have zf0 := cf.cv.pos
    have us' := cs.ub
    have uf' := cf.ub
    obtain ⟨zn, hn, zw, hw, un, uw, pc⟩ := pc_of cs cf ls lf (by omega : 1 ≤ P) (by omega)
    refine ⟨curD (fam slow fast (hf + P)) zn hn un, curD (fam fast slow hs) zw hw uw, first_ok cf.cv hM (by omega) (by omega), first_ok cs.cv hM (by omega) (by omega), best_ok cs.cv hM (by omega) (by omega) (by omega) (by omega) pc.N.cv, fun h0 => ?_, fun h0 => ?_⟩
    · refine ⟨_, _, _, fun M => f5 _ _ _ _ M, fun M => f6 _ _ _ _ M, fun M => f7 _ _ _ _ M, ?_⟩
      rw [cnv_zero h0] at cv ⊢
      obtain ⟨rfl, rfl, rfl⟩ := pc.N.cv.uniq cv
      have := pc.N.len
      have := pc.N.ub
      exact made_is (.inr rfl) hM pc.N.cv.pos (by omega) (pow60 (by omega)) pc.N.cv.step pc.N.cv (by omega)
    · obtain ⟨F, w1, w2, w3⟩ := pc.F h0
      refine ⟨best_ok cf.cv hM h0 (by omega) (by omega) (by omega) F.cv, ?_⟩
      rw [cnv_pos h0] at cv ⊢
      have := Nat.le_of_dvd (by omega) (hl zn zw pc.zn_dvd w2)
      exact least_ok' pc.N F hM (by omega) cv
  by_cases c2 : gain ua za P ≤ gain ub zb P
  · have ec : cfn a b za ha ua zb hb ub P = cnv a b ha (hb + P) := by unfold cfn; rw [if_pos c2]
    rw [ec] at cv ⊢
    obtain ⟨d1, d2, e1, e2, e3, e4, e5⟩ := core a b za ha zb hb ua ub ca cb la lb hlcm cv
    generalize gain ua za P = xa at *
    generalize gain ub zb P = xb at *
    by_cases c3 : ha = 0
    · obtain ⟨x, y, w, g1, g2, g3, g4⟩ := e4 c3
      have c5 : decide (ha = 0) = true := decide_eq_true c3
      have c6 : decide ((ha : Int) = 0) = true := decide_eq_true (by omega)
      by_cases c4 : h + z ≤ 400
      · rw [if_pos c4] at g4 ⊢
        simp -implicitDefEqProofs [-List.append_assoc, -Int.natCast_add, cp, ga, gb, c2, f8, n1, e1, e3, c5, c6, g1, g2, g3, g4, cutM_same]
      · rw [if_neg c4] at g4 ⊢
        simp -implicitDefEqProofs [-List.append_assoc, -Int.natCast_add, cp, ga, gb, c2, f8, n1, e1, e3, c5, c6, g1, g2, g3, g4, cutM_same]
    · obtain ⟨g1, g2⟩ := e5 (by omega)
      have c3' : ¬ (ha : Int) = 0 := by omega
      by_cases c4 : h + z ≤ 400
      · rw [if_pos c4] at g2 ⊢
        simp -implicitDefEqProofs [-List.append_assoc, -Int.natCast_add, cp, ga, gb, c2, f8, n1, e1, e2, e3, c3', c3, g1, g2, cutM_same]
      · rw [if_neg c4] at g2 ⊢
        simp -implicitDefEqProofs [-List.append_assoc, -Int.natCast_add, cp, ga, gb, c2, f8, n1, e1, e2, e3, c3', c3, g1, g2, cutM_same]
  · have ec : cfn a b za ha ua zb hb ub P = cnv b a hb (ha + P) := by unfold cfn; rw [if_neg c2]
    rw [ec] at cv ⊢
    obtain ⟨d1, d2, e1, e2, e3, e4, e5⟩ := core b a zb hb za ha ub ua cb ca lb la hlcm' cv
    generalize gain ua za P = xa at *
    generalize gain ub zb P = xb at *
    by_cases c3 : hb = 0
    · obtain ⟨x, y, w, g1, g2, g3, g4⟩ := e4 c3
      have c5 : decide (hb = 0) = true := decide_eq_true c3
      have c6 : decide ((hb : Int) = 0) = true := decide_eq_true (by omega)
      by_cases c4 : h + z ≤ 400
      · rw [if_pos c4] at g4 ⊢
        simp -implicitDefEqProofs [-List.append_assoc, -Int.natCast_add, cp, ga, gb, c2, f8, n1, e1, e3, c5, c6, g1, g2, g3, g4, cutM_same]
      · rw [if_neg c4] at g4 ⊢
        simp -implicitDefEqProofs [-List.append_assoc, -Int.natCast_add, cp, ga, gb, c2, f8, n1, e1, e3, c5, c6, g1, g2, g3, g4, cutM_same]
    · obtain ⟨g1, g2⟩ := e5 (by omega)
      have c3' : ¬ (hb : Int) = 0 := by omega
      by_cases c4 : h + z ≤ 400
      · rw [if_pos c4] at g2 ⊢
        simp -implicitDefEqProofs [-List.append_assoc, -Int.natCast_add, cp, ga, gb, c2, f8, n1, e1, e2, e3, c3', c3, g1, g2, cutM_same]
      · rw [if_neg c4] at g2 ⊢
        simp -implicitDefEqProofs [-List.append_assoc, -Int.natCast_add, cp, ga, gb, c2, f8, n1, e1, e2, e3, c3', c3, g1, g2, cutM_same]
end
end K04

set_option Elab.async false
set_option linter.all false
set_option maxRecDepth 100000
set_option maxHeartbeats 400000
/-! the law's folding -/
namespace K04
open PySem PySem.Spec PyProof.Rows L2 VL
/-- what the law says of a function: its canonical form, or that it is too long -/
noncomputable def outc (g : Nat → Int) (z h : Nat) (u : Int) : D := if h + z ≤ 400 then whole g z h u else .tup [.str "long", nD (h + z)]
section
variable {M : Store}
theorem family_ok {x y : Nat → Int} {K m n : Nat} (hM : Pl M) (hm : 1 ≤ m) (hn : n ≤ K) (hK : K ≤ 100000) (hm2 : m ≤ 100000) :
    ph_law_family [.t (.lst ((rowG x K).map .int)), .t (.lst ((rowG y K).map .int)), .t (nD m), .t (nD n)] M = .ok (.f (.lst ((rowG (fam x y m) n).map .int))) M := by
  unfold ph_law_family
  rw [fnSem_ap]
  unfold m_law_family
  simp -implicitDefEqProofs [-List.append_assoc, -Int.natCast_add]
  rw [kRange1_of (by omega) (by omega)]
  simp -implicitDefEqProofs [-List.append_assoc, -Int.natCast_add]
  obtain ⟨Γ', M', e4, x5, x6, g1, g2⟩ := for_all (ds := rangeD 0 n) (t := tgN 5) (m0 := M.length + 1) (body := (vSeq (vAsg (vCall fMin2 (vCons (vVar 2) (vCons (vOp oPlus (vVar 5) (vC (.int 1))) (vNil)))) (tgN 6))
    (vDrop (vMt mAppend (vVar 4) (vCons (vCall fMinL (vCons (vComp (vRange1 (vCons (vVar 6) (vNil))) (.nm 7) [7] (vYes) (vOp oPlus (vOp oIx (vVar 1) (vVar 7)) (vOp oIx (vVar 0) (vOp oSub (vVar 5) (vVar 7))))) (vNil))) (vNil))))))
    (fun i Γ M' => ∃ x5 x6, Γ = [some (.t (.lst ((rowG x K).map .int))), some (.t (.lst ((rowG y K).map .int))), some (.t (nD m)), some (.t (nD n)), some (.l M.length), x5, x6, none] ∧ M' = M ++ [.lst ((rowG (fam x y m) i).map .int)])
    (fun i Γ M' ⟨_, _, _, e⟩ => by rw [e]; simp)
    (fun t d Γ M' hd hI => by
      obtain ⟨x5, x6, g1, g2⟩ := hI
      obtain ⟨ht, rfl⟩ := rangeD_get0 hd
      subst g1 g2
      refine ⟨[some (.t (.lst ((rowG x K).map .int))), some (.t (.lst ((rowG y K).map .int))), some (.t (nD m)), some (.t (nD n)), some (.l M.length), some (.t (nD t)), some (.t (nD (min m (t + 1)))), none], M ++ [.lst ((rowG (fam x y m) (t + 1)).map .int)], ?_, _, _, rfl, rfl⟩
      have hM' : Pl (M ++ [.lst ((rowG (fam x y m) t).map .int)]) := hM.append Pl.nil.lst
      have p1 : ∀ M, oPlus (.t (nD t)) (.t (.int 1)) M = .ok (.t (nD (t + 1))) M := fun M => nPlus t 1
      have mi := fun M => e_min2N (M := M) m (t + 1)
      have cr := comp_range (n := min m (t + 1)) (fun s => y s + x (t - s)) (j := 7) (elt := (vOp oPlus (vOp oIx (vVar 1) (vVar 7)) (vOp oIx (vVar 0) (vOp oSub (vVar 5) (vVar 7))))) (Γ := [some (.t (.lst ((rowG x K).map .int))), some (.t (.lst ((rowG y K).map .int))), some (.t (nD m)), some (.t (nD n)), some (.l M.length), some (.t (nD t)), some (.t (nD (min m (t + 1)))), none]) hM' (by omega) (fun s acc hs => by
        have h1 : L2.atI ((rowG y K).map D.int) (s : Int) = some (.int (y s)) := rowG_at (k := s) rfl (by omega)
        have h2 : L2.atI ((rowG x K).map D.int) ((t : Int) - (s : Int)) = some (.int (x (t - s))) := rowG_at (k := t - s) (by omega) (by omega)
        refine ⟨.t (.int (y s + x (t - s))), ?_, rfl⟩
        simp -implicitDefEqProofs [-List.append_assoc, h1, h2])
      rw [show (M ++ [Cel.lst ((rowG (fam x y m) t).map .int)]).length = M.length + 1 by simp] at cr
      have mm := fun M => e_minL (M := M) (f := fun s => y s + x (t - s)) (n := min m (t + 1)) (by omega)
      have ap : mAppend M.length [.t (.int (mn (fun s => y s + x (t - s)) (min m (t + 1))))] (M ++ [Cel.lst ((rowG (fam x y m) t).map .int)]) = .ok (.t .non) (M ++ [.lst ((rowG (fam x y m) (t + 1)).map .int)]) := by
        rw [e_append (cell0 rfl) (by simp; omega), set0 rfl, row_succ]
        simp [fam]
      have kr := kRange1_of (j := ((min m (t + 1) : Nat) : Int)) (M := M ++ [Cel.lst ((rowG (fam x y m) t).map .int)]) (by omega) (by omega)
      rw [Int.toNat_natCast] at kr
      rw [turn_nm]
      generalize min m (t + 1) = w at *
      simp -implicitDefEqProofs [-List.append_assoc, -Int.natCast_add, p1, mi, cell0, kr, cr, mm, ap])
    (Γ := [some (.t (.lst ((rowG x K).map .int))), some (.t (.lst ((rowG y K).map .int))), some (.t (nD m)), some (.t (nD n)), some (.l M.length), none, none, none]) (M := M ++ [.lst []])
    ⟨none, none, rfl, rfl⟩
  rw [e4]
  subst g1 g2
  rw [rangeD_len]
  simp -implicitDefEqProofs [-List.append_assoc, cell0, set0, cutM_app hM]
theorem per_dvd {g : Nat → Int} {s z P : Nat} {u : Int} (per : ∀ t, s ≤ t → g (t + z) = g t + u) (hd : z ∣ P) : ∀ t, s ≤ t → g (t + P) = g t + gain u z P := fun t ht => by
  have := per_mul per t ht (P / z)
  rw [Nat.div_mul_cancel hd] at this
  rw [this]
  unfold gain
  rw [Int.mul_comm]
theorem limit_out {g : Nat → Int} {z h : Nat} {u : Int} {M : Store} : ph_law_limit [.t (whole g z h u)] M = .ok (.t (outc g z h u)) M := limit_ok
/-- L is -1 or a tick from start on at which f is below s -/
def HasF (f s : Nat → Int) (start : Nat) (L : Int) : Prop := L = -1 ∨ ∃ n : Nat, L = (n : Int) ∧ f n < s n ∧ start ≤ n
/-- the last tick from start on at which f is below s -/
theorem met_last {f s : Nat → Int} {start P : Nat} {gf gs : Int} {K : Nat} {c0 c1 : D} {M M0 : Store} {zs0 zs1 zs2 : Option Wv} {k0 : Nat} (hk : M0.length = k0) (eM : M = M0 ++ [.lst ((rowG s K).map .int), .lst ((rowG f K).map .int)]) (P0 : 1 ≤ P) (hP : P ≤ 400) (hK : start + P ≤ K) (hK2 : K ≤ 5000)
    (pf : ∀ t, start ≤ t → f (t + P) = f t + gf) (ps : ∀ t, start ≤ t → s (t + P) = s t + gs) (hg : gs < gf) (bg : (gf - gs).natAbs ≤ 1000000000000000000) (bf : ∀ t, t ≤ 6000 → (f t).natAbs ≤ 1000000000000000) (bs : ∀ t, t ≤ 6000 → (s t).natAbs ≤ 1000000000000000) {x5 x6 x7 : Option Wv} {c2 : Wv} {sz : Option Wv} :
    ∃ (Z : Int) (x11 : Option Wv), HasF f s start Z ∧ (∀ t : Nat, start ≤ t → f t < s t → (t : Int) ≤ Z) ∧
      forL ⟨rangeD (start : Int) P, none⟩ (tgN 11) (vIfS (vTest (vOp oLt (vOp oIx (vVar 9) (vVar 11)) (vOp oIx (vVar 8) (vVar 11)))) (vAsg (vCall fMax2 (vCons (vVar 12) (vCons (vOp oPlus (vVar 11) (vOp oTimes (vOp oFdiv (vOp oSub (vOp oSub (vOp oIx (vVar 8) (vVar 11)) (vOp oIx (vVar 9) (vVar 11))) (vC (.int 1))) (vVar 3)) (vVar 2))) (vNil)))) (tgN 12)) (vNext)) (k0 + 2) (rangeD (start : Int) P)
        [some (.t c0), some (.t c1), some (.t (nD P)), some (.t (.int (gf - gs))), some (.t (nD start)), x5, x6, x7, some (.l k0), some (.l (k0 + 1)), none, none, some (.t (.int (-1))), none, none] M =
      .ok .nx [some (.t c0), some (.t c1), some (.t (nD P)), some (.t (.int (gf - gs))), some (.t (nD start)), x5, x6, x7, some (.l k0), some (.l (k0 + 1)), none, x11, some (.t (.int Z)), none, none] M := by
  have e8 : M[k0]? = some (.lst ((rowG s K).map .int)) := by rw [eM]; exact getT0 hk
  have e9 : M[k0 + 1]? = some (.lst ((rowG f K).map .int)) := by rw [eM]; exact getT hk 1
  have lM : M.length = k0 + 2 := by rw [eM]; simp [hk]
  have ats : ∀ k, k < K → L2.atI ((rowG s K).map D.int) (k : Int) = some (.int (s k)) := fun k hk => rowG_at rfl hk
  have atf : ∀ k, k < K → L2.atI ((rowG f K).map D.int) (k : Int) = some (.int (f k)) := fun k hk => rowG_at rfl hk
  clear eM
  obtain ⟨Γ', M', e, L, x11, r1, r2, r3, r4⟩ := for_all (ds := rangeD (start : Int) P) (t := tgN 11) (m0 := k0 + 2) (body := (vIfS (vTest (vOp oLt (vOp oIx (vVar 9) (vVar 11)) (vOp oIx (vVar 8) (vVar 11)))) (vAsg (vCall fMax2 (vCons (vVar 12) (vCons (vOp oPlus (vVar 11) (vOp oTimes (vOp oFdiv (vOp oSub (vOp oSub (vOp oIx (vVar 8) (vVar 11)) (vOp oIx (vVar 9) (vVar 11))) (vC (.int 1))) (vVar 3)) (vVar 2))) (vNil)))) (tgN 12)) (vNext)))
    (fun i Γ M' => ∃ (L : Int) (x11 : Option Wv), Γ = [some (.t c0), some (.t c1), some (.t (nD P)), some (.t (.int (gf - gs))), some (.t (nD start)), x5, x6, x7, some (.l k0), some (.l (k0 + 1)), none, x11, some (.t (.int L)), none, none] ∧ M' = M ∧
      HasF f s start L ∧ ∀ t, (∃ j k, j < i ∧ t = start + j + k * P) → f t < s t → (t : Int) ≤ L)
    (fun i Γ M' ⟨_, _, _, e, _⟩ => by rw [e]; exact lM)
    (fun i d Γ M' hd hI => by
      obtain ⟨L, x11, q1, q2, q3, q4⟩ := hI
      obtain ⟨hi, rfl⟩ := rangeD_get hd
      subst q1 q2
      rw [show (start : Int) + (i : Int) = ((start + i : Nat) : Int) by omega]
      have h1 := atf (start + i) (by omega)
      have h2 := ats (start + i) (by omega)
      have v1 := bf (start + i) (by omega)
      have v2 := bs (start + i) (by omega)
      have pf' := per_mul pf (start + i) (by omega)
      have ps' := per_mul ps (start + i) (by omega)
      rw [turn_nm]
      by_cases c : f (start + i) < s (start + i)
      · obtain ⟨q, hq, hb, hl⟩ := last_of pf' ps' hg c
        have fd : ∀ M, oFdiv (.t (.int (s (start + i) - f (start + i) - 1))) (.t (.int (gf - gs))) M = .ok (.t (nD q)) M := fun M => by rw [e_fdiv62 (by omega) (by omega), hq]
        have qb : (q : Int) ≤ s (start + i) - f (start + i) - 1 := by rw [← hq]; exact Int.ediv_le_self _ (by omega)
        have tm : ∀ M, oTimes (.t (nD q)) (.t (nD P)) M = .ok (.t (nD (q * P))) M := fun M => by rw [nD, nD, e_times62 (by omega) (by omega)]; simp [nD]
        have np : ∀ M, oPlus (.t (nD (start + i))) (.t (nD (q * P))) M = .ok (.t (nD (start + i + q * P))) M := fun M => nPlus _ _
        have mx := fun M => e_max2I (M := M) L ((start + i + q * P : Nat) : Int)
        refine ⟨[some (.t c0), some (.t c1), some (.t (nD P)), some (.t (.int (gf - gs))), some (.t (nD start)), x5, x6, x7, some (.l k0), some (.l (k0 + 1)), none, some (.t (nD (start + i))), some (.t (.int (max L ((start + i + q * P : Nat) : Int)))), none, none], M', ?_, max L ((start + i + q * P : Nat) : Int), _, rfl, rfl, ?_, fun t ht hbt => ?_⟩
        · simp -implicitDefEqProofs [-List.append_assoc, -Int.natCast_add, -Int.natCast_mul, e_ixC e8, e_ixC e9, h1, h2, c, fd, tm, np, mx]
        · by_cases cc : L ≤ ((start + i + q * P : Nat) : Int)
          · rw [Int.max_eq_right cc]
            exact .inr ⟨start + i + q * P, rfl, hb, by omega⟩
          · rw [Int.max_eq_left (by omega)]; exact q3
        · obtain ⟨j, k, hj, rfl⟩ := ht
          by_cases e : j = i
          · subst e
            have := hl k hbt
            have h3 : k * P ≤ q * P := Nat.mul_le_mul_right _ this
            have h4 : ((start + j + k * P : Nat) : Int) ≤ ((start + j + q * P : Nat) : Int) := by omega
            exact Int.le_trans h4 (Int.le_max_right _ _)
          · have := q4 _ ⟨j, k, by omega, rfl⟩ hbt
            exact Int.le_trans this (Int.le_max_left _ _)
      · refine ⟨[some (.t c0), some (.t c1), some (.t (nD P)), some (.t (.int (gf - gs))), some (.t (nD start)), x5, x6, x7, some (.l k0), some (.l (k0 + 1)), none, some (.t (nD (start + i))), some (.t (.int L)), none, none], M', ?_, L, _, rfl, rfl, q3, fun t ht hbt => ?_⟩
        · simp -implicitDefEqProofs [-List.append_assoc, -Int.natCast_add, e_ixC e8, e_ixC e9, h1, h2, c]
        · obtain ⟨j, k, hj, rfl⟩ := ht
          by_cases e : j = i
          · subst e
            rw [pf', ps'] at hbt
            have : (k : Int) * gs ≤ (k : Int) * gf := Int.mul_le_mul_of_nonneg_left (by omega) (by omega)
            omega
          · exact q4 _ ⟨j, k, by omega, rfl⟩ hbt)
    (Γ := [some (.t c0), some (.t c1), some (.t (nD P)), some (.t (.int (gf - gs))), some (.t (nD start)), x5, x6, x7, some (.l k0), some (.l (k0 + 1)), none, none, some (.t (.int (-1))), none, none]) (M := M)
    ⟨-1, none, rfl, rfl, .inl rfl, fun t ht => by obtain ⟨j, k, hj, _⟩ := ht; omega⟩
  subst r1 r2
  rw [rangeD_len] at r4
  refine ⟨L, x11, r3, fun t ht hb => r4 t ⟨(t - start) % P, (t - start) / P, Nat.mod_lt _ (by omega), ?_⟩ hb, e⟩
  have := Nat.mod_add_div (t - start) P
  rw [Nat.mul_comm] at this
  omega
end
end K04

set_option Elab.async false
set_option linter.all false
set_option maxRecDepth 100000
set_option maxHeartbeats 800000
/-! the law's folding, the whole of it -/
namespace K04
open PySem PySem.Spec PyProof.Rows L2 VL
section
variable {M : Store}
theorem ext_loop {N F : Nat → Int} {zs zf K n : Nat} {us uf : Int} {c0 c1 : D} {x2 x3 x4 x5 x6 x7 x10 x11 x12 x13 x14 : Option Wv} (hK : K + n ≤ 100000) (d2 : ∀ M, oIx (.t c0) (.t (.int 2)) M = .ok (.t (nD zs)) M) (d3 : ∀ M, oIx (.t c0) (.t (.int 3)) M = .ok (.t (.int us)) M) (e2 : ∀ M, oIx (.t c1) (.t (.int 2)) M = .ok (.t (nD zf)) M) (e3 : ∀ M, oIx (.t c1) (.t (.int 3)) M = .ok (.t (.int uf)) M)
    (zs0 : 1 ≤ zs) (zf0 : 1 ≤ zf) (ls : zs ≤ K) (lf : zf ≤ K) (pN : ∀ t, K ≤ t → N t = N (t - zs) + us) (pF : ∀ t, K ≤ t → F t = F (t - zf) + uf) :
    ∃ y, forL ⟨rangeD (K : Int) n, none⟩ (tgN 11) (vSeq (vDrop (vMt mAppend (vVar 8) (vCons (vOp oPlus (vOp oIx (vVar 8) (vOp oSub (vVar 11) (vOp oIx (vVar 0) (vC (.int 2))))) (vOp oIx (vVar 0) (vC (.int 3)))) (vNil))))
    (vDrop (vMt mAppend (vVar 9) (vCons (vOp oPlus (vOp oIx (vVar 9) (vOp oSub (vVar 11) (vOp oIx (vVar 1) (vC (.int 2))))) (vOp oIx (vVar 1) (vC (.int 3)))) (vNil))))) (M.length + 2) (rangeD (K : Int) n)
      [some (.t c0), some (.t c1), x2, x3, x4, x5, x6, x7, some (.l M.length), some (.l (M.length + 1)), x10, x11, x12, x13, x14] (M ++ [.lst ((rowG N K).map .int), .lst ((rowG F K).map .int)]) =
      .ok .nx [some (.t c0), some (.t c1), x2, x3, x4, x5, x6, x7, some (.l M.length), some (.l (M.length + 1)), x10, y, x12, x13, x14] (M ++ [.lst ((rowG N (K + n)).map .int), .lst ((rowG F (K + n)).map .int)]) := by
  obtain ⟨Γ', M', e, y, g1, g2⟩ := for_all (ds := rangeD (K : Int) n) (t := tgN 11) (m0 := M.length + 2) (body := (vSeq (vDrop (vMt mAppend (vVar 8) (vCons (vOp oPlus (vOp oIx (vVar 8) (vOp oSub (vVar 11) (vOp oIx (vVar 0) (vC (.int 2))))) (vOp oIx (vVar 0) (vC (.int 3)))) (vNil))))
    (vDrop (vMt mAppend (vVar 9) (vCons (vOp oPlus (vOp oIx (vVar 9) (vOp oSub (vVar 11) (vOp oIx (vVar 1) (vC (.int 2))))) (vOp oIx (vVar 1) (vC (.int 3)))) (vNil))))))
    (fun i Γ M' => ∃ y, Γ = [some (.t c0), some (.t c1), x2, x3, x4, x5, x6, x7, some (.l M.length), some (.l (M.length + 1)), x10, y, x12, x13, x14] ∧ M' = M ++ [.lst ((rowG N (K + i)).map .int), .lst ((rowG F (K + i)).map .int)])
    (fun i Γ M' ⟨_, _, e⟩ => by rw [e]; simp)
    (fun i d Γ M' hd hI => by
      obtain ⟨y, g1, g2⟩ := hI
      obtain ⟨hi, rfl⟩ := rangeD_get hd
      subst g1 g2
      refine ⟨[some (.t c0), some (.t c1), x2, x3, x4, x5, x6, x7, some (.l M.length), some (.l (M.length + 1)), x10, some (.t (.int ((K : Int) + (i : Int)))), x12, x13, x14], M ++ [.lst ((rowG N (K + (i + 1))).map .int), .lst ((rowG F (K + (i + 1))).map .int)], ?_, _, rfl, rfl⟩
      have h1 : L2.atI ((rowG N (K + i)).map D.int) ((K : Int) + (i : Int) - (zs : Int)) = some (.int (N (K + i - zs))) := rowG_at (k := K + i - zs) (by omega) (by omega)
      have h2 : L2.atI ((rowG F (K + i)).map D.int) ((K : Int) + (i : Int) - (zf : Int)) = some (.int (F (K + i - zf))) := rowG_at (k := K + i - zf) (by omega) (by omega)
      have q1 := pN (K + i) (by omega)
      have q2 := pF (K + i) (by omega)
      have s8 : ∀ A B : List D, (M ++ [Cel.lst A, .lst B])[M.length]? = some (.lst A) := fun A B => getT0 rfl
      have s9 : ∀ A B : List D, (M ++ [Cel.lst A, .lst B])[M.length + 1]? = some (.lst B) := fun A B => getT rfl 1
      have ap1 : mAppend M.length [.t (.int (N (K + i - zs) + us))] (M ++ [.lst ((rowG N (K + i)).map .int), .lst ((rowG F (K + i)).map .int)]) = .ok (.t .non) (M ++ [.lst ((rowG N (K + (i + 1))).map .int), .lst ((rowG F (K + i)).map .int)]) := by
        rw [e_append (s8 _ _) (by simp; omega), setT0 rfl, ← Nat.add_assoc, row_succ, ← q1]
        simp
      have ap2 : mAppend (M.length + 1) [.t (.int (F (K + i - zf) + uf))] (M ++ [.lst ((rowG N (K + (i + 1))).map .int), .lst ((rowG F (K + i)).map .int)]) = .ok (.t .non) (M ++ [.lst ((rowG N (K + (i + 1))).map .int), .lst ((rowG F (K + (i + 1))).map .int)]) := by
        rw [e_append (s9 _ _) (by simp; omega), setT rfl 1, ← Nat.add_assoc K i 1, row_succ F, ← q2]
        simp
      have i8 : ∀ (A B : List D) (j : Int), oIx (.l M.length) (.t (.int j)) (M ++ [Cel.lst A, .lst B]) = kIx (M ++ [Cel.lst A, .lst B]) (L2.atI A j) := fun A B j => e_ixC (s8 A B)
      have i9 : ∀ (A B : List D) (j : Int), oIx (.l (M.length + 1)) (.t (.int j)) (M ++ [Cel.lst A, .lst B]) = kIx (M ++ [Cel.lst A, .lst B]) (L2.atI B j) := fun A B j => e_ixC (s9 A B)
      rw [turn_nm]
      simp -implicitDefEqProofs [-List.append_assoc, s8, s9, i8, i9, d2, d3, e2, e3, h1, h2, ap1, ap2])
    (Γ := [some (.t c0), some (.t c1), x2, x3, x4, x5, x6, x7, some (.l M.length), some (.l (M.length + 1)), x10, x11, x12, x13, x14]) (M := M ++ [.lst ((rowG N K).map .int), .lst ((rowG F K).map .int)])
    ⟨x11, rfl, rfl⟩
  subst g1 g2
  rw [rangeD_len] at e
  exact ⟨y, e⟩
theorem met_ok {s f : Nat → Int} {zs hs zf hf P z h : Nat} {us uf u gv : Int} (cs : CurS s zs hs us) (cf : CurS f zf hf uf) (ls : hs + zs ≤ 400) (lf : hf + zf ≤ 400) (hM : Pl M) (P0 : 1 ≤ P) (hP : P ≤ 400) (ds : zs ∣ P) (df : zf ∣ P) (hg : gv = gain uf zf P - gain us zs P) (g0 : 0 ≤ gv) (cv : Cv (cnv s f hs (hf + P)) z h u) :
    ph_law_met [.t (whole s zs hs us), .t (whole f zf hf uf), .t (nD P), .t (.int gv)] M = .ok (.t (outc (cnv s f hs (hf + P)) z h u)) M := by
  unfold ph_law_met
  rw [fnSem_ap]
  unfold m_law_met
  have zs0 := cs.cv.pos
  have zf0 := cf.cv.pos
  have us' := cs.ub
  have uf' := cf.ub
  have zsP := Nat.le_of_dvd P0 ds
  have zfP := Nat.le_of_dvd P0 df
  have a1 : ∀ M, oIx (.t (whole s zs hs us)) (.t (.int 1)) M = _ := fun M => (due_at s zs hs us M).2.1
  have a2 : ∀ M, oIx (.t (whole s zs hs us)) (.t (.int 2)) M = _ := fun M => (due_at s zs hs us M).2.2.1
  have a3 : ∀ M, oIx (.t (whole s zs hs us)) (.t (.int 3)) M = _ := fun M => (due_at s zs hs us M).2.2.2
  have b1 : ∀ M, oIx (.t (whole f zf hf uf)) (.t (.int 1)) M = _ := fun M => (due_at f zf hf uf M).2.1
  have b2 : ∀ M, oIx (.t (whole f zf hf uf)) (.t (.int 2)) M = _ := fun M => (due_at f zf hf uf M).2.2.1
  have b3 : ∀ M, oIx (.t (whole f zf hf uf)) (.t (.int 3)) M = _ := fun M => (due_at f zf hf uf M).2.2.2
  have n1 : ∀ a b M, oPlus (.t (nD a)) (.t (nD b)) M = .ok (.t (nD (a + b))) M := fun a b M => nPlus _ _
  have t2 : ∀ k, k ≤ 1000 → ∀ M, oTimes (.t (.int 2)) (.t (nD k)) M = .ok (.t (nD (2 * k))) M := fun k hk M => by rw [nD, e_times62 (by omega) (by omega)]; simp [nD]
  obtain ⟨zn, hn, zw, hw, un, uw, pc⟩ := pc_of cs cf ls lf P0 hP
  have perN := fun t ht => fam_per (y := f) (m := hf + P) cs.cv (by omega) t ht
  generalize hst : hs + hf + P = start
  generalize hsz : start + 2 * P = size
  have r1 : ∀ M, Pl M → ph_law_row [.t (whole s zs hs us), .t (nD size)] M = .ok (.f (.lst ((rowG s size).map .int))) M := fun M hM => by
    rw [lrow_ok cs.cv hM (by omega) (by omega), show max (hs + zs) size = size by omega]
  have r2 : ∀ M, Pl M → ph_law_row [.t (whole f zf hf uf), .t (nD size)] M = .ok (.f (.lst ((rowG f size).map .int))) M := fun M hM => by
    rw [lrow_ok cf.cv hM (by omega) (by omega), show max (hf + zf) size = size by omega]
  have fN := family_ok (M := M) (x := s) (y := f) (K := size) (m := hf + P) (n := size) hM (by omega) (Nat.le_refl _) (by omega) (by omega)
  have tP := t2 P (by omega)
  have tz := t2 zs (by omega)
  by_cases c1 : hs = 0
  · have c5 : decide (hs = 0) = true := decide_eq_true c1
    have c6 : decide ((hs : Int) = 0) = true := decide_eq_true (by omega)
    rw [cnv_zero c1] at cv ⊢
    have wh := whole_cell (M := M ++ [.lst ((rowG (fam s f (hf + P)) size).map .int)]) (n := M.length) (g := fam s f (hf + P)) (s := start) (p := zs) (K := size) (hM.append Pl.nil.lst) (cell0 rfl) zs0 (by omega) (by omega) (fun t ht => perN t (by omega)) cv
    simp -implicitDefEqProofs [-List.append_assoc, -Int.natCast_add, -Int.natCast_mul, a1, a2, b1, n1, tP, hst, hsz, r1 M hM, r2 M hM, fN, c5, c6, wh, limit_out, cutM_app hM]
  have hs1 : 1 ≤ hs := by omega
  rw [cnv_pos hs1] at cv ⊢
  obtain ⟨cF, w1, w2, w3⟩ := pc.F hs1
  have cN := pc.N
  have perF := fun t ht => fam_per (y := s) (m := hs) cf.cv hs1 t ht
  have PN := per_dvd (s := start) (fun t ht => perN t (by omega)) ds
  have PF := per_dvd (s := start) (fun t ht => perF t (by omega)) df
  have hM1 : Pl (M ++ [.lst ((rowG (fam s f (hf + P)) size).map .int)]) := hM.append Pl.nil.lst
  have fF := family_ok (M := M ++ [.lst ((rowG (fam s f (hf + P)) size).map .int)]) (x := f) (y := s) (K := size) (m := hs) (n := size) hM1 hs1 (Nat.le_refl _) (by omega) (by omega)
  have e2 : ∀ A B : List D, (M ++ [Cel.lst A] ++ [.lst B]) = M ++ [.lst A, .lst B] := fun A B => by simp
  have l1 : ∀ A : List D, (M ++ [Cel.lst A]).length = M.length + 1 := fun A => by simp
  have s8 : ∀ A B : List D, (M ++ [Cel.lst A, .lst B])[M.length]? = some (.lst A) := fun A B => getT0 rfl
  have s9 : ∀ A B : List D, (M ++ [Cel.lst A, .lst B])[M.length + 1]? = some (.lst B) := fun A B => getT rfl 1
  have i8 : ∀ (A B : List D) (j : Int), oIx (.l M.length) (.t (.int j)) (M ++ [Cel.lst A, .lst B]) = kIx (M ++ [Cel.lst A, .lst B]) (L2.atI A j) := fun A B j => e_ixC (s8 A B)
  have i9 : ∀ (A B : List D) (j : Int), oIx (.l (M.length + 1)) (.t (.int j)) (M ++ [Cel.lst A, .lst B]) = kIx (M ++ [Cel.lst A, .lst B]) (L2.atI B j) := fun A B j => e_ixC (s9 A B)
  have hM2 : ∀ A B : List D, Pl (M ++ [Cel.lst A, .lst B]) := fun A B => hM.append rfl
  have c5 : decide (hs = 0) = false := decide_eq_false c1
  have c6 : decide ((hs : Int) = 0) = false := decide_eq_false (by omega)
  have bg1 := gain_bd (u := us) (z := zs) (P := P) (by omega) hP
  have bg2 := gain_bd (u := uf) (z := zf) (P := P) (by omega) hP
  generalize gain us zs P = gs at *
  generalize gain uf zf P = gf at *
  generalize fam s f (hf + P) = N at *
  generalize fam f s hs = F at *
  -- a comprehension of the lesser ones
  have cmn : ∀ (T : Nat) (K : Nat) (x2 x3 x4 x5 x6 x7 x10 x12 x13 x14 : Option Wv), T ≤ K → K ≤ 100000 → compL ⟨rangeD 0 T, none⟩ (.nm 11) vYes (vCall fMin2 (vCons (vOp oIx (vVar 8) (vVar 11)) (vCons (vOp oIx (vVar 9) (vVar 11)) (vNil)))) (M.length + 2) [some (.t (whole s zs hs us)), some (.t (whole f zf hf uf)), x2, x3, x4, x5, x6, x7, some (.l M.length), some (.l (M.length + 1)), x10, none, x12, x13, x14] (rangeD 0 T) (M ++ [.lst ((rowG N K).map .int), .lst ((rowG F K).map .int)] ++ [.lst []]) =
      .ok (.f (.lst ((rowG (mnf N F) T).map .int))) (M ++ [.lst ((rowG N K).map .int), .lst ((rowG F K).map .int)]) := fun T K x2 x3 x4 x5 x6 x7 x10 x12 x13 x14 hT hK => by
    have cr := comp_range (n := T) (mnf N F) (j := 11) (elt := (vCall fMin2 (vCons (vOp oIx (vVar 8) (vVar 11)) (vCons (vOp oIx (vVar 9) (vVar 11)) (vNil))))) (Γ := [some (.t (whole s zs hs us)), some (.t (whole f zf hf uf)), x2, x3, x4, x5, x6, x7, some (.l M.length), some (.l (M.length + 1)), x10, none, x12, x13, x14]) (hM2 ((rowG N K).map .int) ((rowG F K).map .int)) (by omega) (fun t acc ht => by
      have h1 : L2.atI ((rowG N K).map D.int) (t : Int) = some (.int (N t)) := rowG_at rfl (by omega)
      have h2 : L2.atI ((rowG F K).map D.int) (t : Int) = some (.int (F t)) := rowG_at rfl (by omega)
      have j8 : ∀ (A B C : List D) (j : Int), oIx (.l M.length) (.t (.int j)) (M ++ [Cel.lst A, .lst B] ++ [.lst C]) = kIx (M ++ [Cel.lst A, .lst B] ++ [.lst C]) (L2.atI A j) := fun A B C j => e_ixC (by rw [List.getElem?_append_left (by simp)]; exact s8 A B)
      have j9 : ∀ (A B C : List D) (j : Int), oIx (.l (M.length + 1)) (.t (.int j)) (M ++ [Cel.lst A, .lst B] ++ [.lst C]) = kIx (M ++ [Cel.lst A, .lst B] ++ [.lst C]) (L2.atI B j) := fun A B C j => e_ixC (by rw [List.getElem?_append_left (by simp)]; exact s9 A B)
      refine ⟨.t (.int (mnf N F t)), ?_, rfl⟩
      simp -implicitDefEqProofs [-List.append_assoc, j8, j9, h1, h2, mnf])
    rw [show (M ++ [Cel.lst ((rowG N K).map .int), .lst ((rowG F K).map .int)]).length = M.length + 2 by simp] at cr
    exact cr
  have kr1 : ∀ (T : Nat) (M : Store), T ≤ 100000 → kRange1 [.t (nD T)] M = .ok ⟨rangeD 0 T, none⟩ M := fun T M hT => by
    rw [nD, kRange1_of (by omega) (by omega), Int.toNat_natCast]
  have kr2 : ∀ (A B : Nat) (M : Store), A ≤ 100000 → B ≤ 100000 → kRange2 [.t (nD A), .t (nD B)] M = .ok ⟨rangeD (A : Int) (B - A), none⟩ M := fun A B M hA hB => by
    rw [nD, nD, kRange2_of (by omega) (by omega) (by omega) (by omega), show ((B : Int) - (A : Int)).toNat = B - A by omega]
  have el : (M ++ [Cel.lst ((rowG N size).map .int), .lst ((rowG F size).map .int)]).length = M.length + 2 := by simp
  by_cases c2 : gv = 0
  · have eg : gf = gs := by omega
    have per : ∀ t, start ≤ t → mnf N F (t + P) = mnf N F t + gs := fun t ht => by
      have x := PN t ht
      have y := PF t ht
      unfold mnf
      rw [x, y, eg]
      split <;> split <;> omega
    have wh := whole_is (M := M ++ [.lst ((rowG N size).map .int), .lst ((rowG F size).map .int)]) (g := mnf N F) (s := start) (p := P) (K := size) (hM2 _ _) P0 (by omega) (by omega) per cv
    have cc := fun x2 x3 x4 x5 x6 x7 x10 x12 x13 x14 => cmn size size x2 x3 x4 x5 x6 x7 x10 x12 x13 x14 (Nat.le_refl _) (by omega)
    simp -implicitDefEqProofs [-List.append_assoc, -Int.natCast_add, -Int.natCast_mul, a1, a2, b1, n1, tP, hst, hsz, r1 M hM, r2 M hM, fN, c5, c6, c2, fF, e2, l1, kr1 size _ (by omega), el, cc, wh, limit_out, cutM_app hM]
  · have c2' : decide (gv = 0) = false := decide_eq_false c2
    subst hg
    obtain ⟨Z, x11, hZ, hZ2, e5⟩ := met_last (f := F) (s := N) (start := start) (P := P) (gf := gf) (gs := gs) (K := size) (c0 := whole s zs hs us) (c1 := whole f zf hf uf) (M := M ++ [.lst ((rowG N size).map .int), .lst ((rowG F size).map .int)]) (M0 := M) (k0 := M.length) rfl rfl P0 hP (by omega) (by omega) PF PN (by omega) (by omega) cF.vb cN.vb (x5 := some (.t (nD size))) (x6 := some (.t (.lst ((rowG s size).map .int)))) (x7 := some (.t (.lst ((rowG f size).map .int)))) (zs0 := none) (zs1 := none) (zs2 := none) (c2 := .l 0) (sz := none)
    have wN := whole_cell (M := M ++ [.lst ((rowG N size).map .int), .lst ((rowG F size).map .int)]) (n := M.length) (g := N) (s := start) (p := zs) (K := size) (hM2 _ _) (s8 _ _) zs0 (by omega) (by omega) (fun t ht => perN t (by omega)) cN.cv
    have d2 : ∀ M, oIx (.t (whole N zn hn un)) (.t (.int 2)) M = _ := fun M => (due_at N zn hn un M).2.2.1
    have kk : start + P - start = P := by omega
    have tail : ∀ H : Nat, max (Z + 1) (start : Int) = (H : Int) → ¬ 400 < Z + 1 + (zn : Int) → H ≤ 2500 → start ≤ H → (∀ t, H ≤ t → mnf N F (t + zs) = mnf N F t + us) →
        fnEnd M.length (m_law_met ([Wv.t (whole s zs hs us), .t (whole f zf hf uf), .t (nD P), .t (.int (gf - gs))].map some ++ List.replicate (15 - 4) none) M) = .ok (.t (outc (mnf N F) z h u)) M := fun H hH c3 hH2 hH3 per => by
      generalize hT : H + 2 * zs = T
      have mx : ∀ M, fMax2 [.t (.int (Z + 1)), .t (nD start)] M = .ok (.t (nD H)) M := fun M => by rw [nD, e_max2I, hH]
      obtain ⟨y, e6⟩ := ext_loop (M := M) (N := N) (F := F) (zs := zs) (zf := zf) (K := size) (n := T - size) (us := us) (uf := uf) (c0 := whole s zs hs us) (c1 := whole f zf hf uf) (x2 := some (.t (nD P))) (x3 := some (.t (.int (gf - gs)))) (x4 := some (.t (nD start))) (x5 := some (.t (nD size))) (x6 := some (.t (.lst ((rowG s size).map .int)))) (x7 := some (.t (.lst ((rowG f size).map .int)))) (x10 := none) (x11 := x11) (x12 := some (.t (.int Z))) (x13 := some (.t (whole N zn hn un))) (x14 := some (.t (nD H)))
        (by omega) a2 a3 b2 b3 zs0 zf0 (by omega) (by omega) (fun t ht => by have := perN (t - zs) (by omega); rwa [show t - zs + zs = t by omega] at this) (fun t ht => by have := perF (t - zf) (by omega); rwa [show t - zf + zf = t by omega] at this)
      have cc := fun x2 x3 x4 x5 x6 x7 x10 x12 x13 x14 => cmn T (size + (T - size)) x2 x3 x4 x5 x6 x7 x10 x12 x13 x14 (by omega) (by omega)
      have wh := whole_is (M := M ++ [.lst ((rowG N (size + (T - size))).map .int), .lst ((rowG F (size + (T - size))).map .int)]) (g := mnf N F) (s := H) (p := zs) (K := T) (hM2 _ _) zs0 (by omega) (by omega) per cv
      unfold m_law_met
      simp -implicitDefEqProofs [-List.append_assoc, -Int.natCast_add, -Int.natCast_mul, a1, a2, b1, n1, tP, hst, hsz, r1 M hM, r2 M hM, fN, c5, c6, c2, c2', fF, e2, l1]
      rw [kr2 start (start + P) _ (by omega) (by omega), kk]
      simp -implicitDefEqProofs [-List.append_assoc, -Int.natCast_add, -Int.natCast_mul, e5, wN, d2, a2, c3, mx, tz, n1, hT]
      rw [kr2 size T _ (by omega) (by omega)]
      simp -implicitDefEqProofs [-List.append_assoc, -Int.natCast_add, -Int.natCast_mul, e6, a2, tz, n1, hT, kr1 T _ (by omega), cc, wh, limit_out, cutM_app hM]
    have fold : fnEnd M.length (m_law_met ([Wv.t (whole s zs hs us), .t (whole f zf hf uf), .t (nD P), .t (.int (gf - gs))].map some ++ List.replicate (15 - 4) none) M) = .ok (.t (outc (mnf N F) z h u)) M := by
      rcases hZ with e | ⟨n, e, hb, hn1⟩
      · refine tail start (by omega) (by have := pc.zn_le; omega) (by omega) (Nat.le_refl _) fun t ht => ?_
        have nb : ∀ t, start ≤ t → mnf N F t = N t := fun t ht => by
          unfold mnf
          rw [if_neg fun q => by have := hZ2 t ht q; omega]
        rw [nb (t + zs) (by omega), nb t ht]
        exact perN t (by omega)
      · have hL : LastB F N (n : Int) := ⟨.inr ⟨n, rfl, hb⟩, fun t hbt => by
          by_cases c : start ≤ t
          · have := hZ2 t c hbt; omega
          · omega⟩
        have cn := mnf_cv cN.cv hL (by have := pc.hn_le; omega)
        rw [mnf_comm] at cn
        obtain ⟨q1, q2, q3⟩ := cn.uniq cv
        by_cases c3 : 400 < Z + 1 + (zn : Int)
        · have hh : ¬ h + z ≤ 400 := by omega
          have eo : outc (mnf N F) z h u = .tup [.str "long", .int (Z + 1 + (zn : Int))] := by
            unfold outc
            rw [if_neg hh, nD, show ((h + z : Nat) : Int) = Z + 1 + (zn : Int) by omega]
          rw [eo]
          unfold m_law_met
          simp -implicitDefEqProofs [-List.append_assoc, -Int.natCast_add, -Int.natCast_mul, a1, a2, b1, n1, tP, hst, hsz, r1 M hM, r2 M hM, fN, c5, c6, c2, c2', fF, e2, l1]
          rw [kr2 start (start + P) _ (by omega) (by omega), kk]
          simp -implicitDefEqProofs [-List.append_assoc, -Int.natCast_add, -Int.natCast_mul, e5, wN, d2, a2, c3, cutM_app hM]
        · refine tail (n + 1) (by omega) c3 (by omega) (by omega) fun t ht => ?_
          rw [mnf_comm N F]
          have h1 := hL.after (t := t + zs) (by omega)
          have h2 := hL.after (t := t) (by omega)
          rw [h1, h2]
          exact perN t (by omega)
    exact fold
end
end K04

set_option Elab.async false
set_option linter.all false
set_option maxRecDepth 100000
set_option maxHeartbeats 400000
/-! folded, both, asked, due -/
namespace K04
open PySem PySem.Spec PyProof.Rows L2 VL
section
variable {M : Store}
theorem folded_ok {a b : Nat → Int} {za ha zb hb z h : Nat} {ua ub u : Int} (ca : CurS a za ha ua) (cb : CurS b zb hb ub) (la : ha + za ≤ 400) (lb : hb + zb ≤ 400) (hM : Pl M) (cv : Cv (cfn a b za ha ua zb hb ub (Nat.lcm za zb)) z h u) :
    ph_law_folded [.t (whole a za ha ua), .t (whole b zb hb ub)] M = .ok (.t (if 400 < Nat.lcm za zb then .tup [.str "long", nD (Nat.lcm za zb)] else outc (cfn a b za ha ua zb hb ub (Nat.lcm za zb)) z h u)) M := by
  unfold ph_law_folded
  rw [fnSem_ap]
  unfold m_law_folded
  have za0 := ca.cv.pos
  have zb0 := cb.cv.pos
  have ba := ca.ub
  have bb := cb.ub
  obtain ⟨p1, p2⟩ := lcm_ge za0 zb0
  have cp := lcommon_ok (M := M) (a := za) (b := zb) za0 zb0 (by omega) (by omega)
  have a2 : ∀ M, oIx (.t (whole a za ha ua)) (.t (.int 2)) M = _ := fun M => (due_at a za ha ua M).2.2.1
  have a3 : ∀ M, oIx (.t (whole a za ha ua)) (.t (.int 3)) M = _ := fun M => (due_at a za ha ua M).2.2.2
  have b2 : ∀ M, oIx (.t (whole b zb hb ub)) (.t (.int 2)) M = _ := fun M => (due_at b zb hb ub M).2.2.1
  have b3 : ∀ M, oIx (.t (whole b zb hb ub)) (.t (.int 3)) M = _ := fun M => (due_at b zb hb ub M).2.2.2
  have da := Nat.dvd_lcm_left za zb
  have db := Nat.dvd_lcm_right za zb
  generalize Nat.lcm za zb = P at *
  by_cases c1 : 400 < P
  · rw [if_pos c1]
    have c1' : (400 : Int) < (P : Int) := by omega
    simp -implicitDefEqProofs [-List.append_assoc, cp, a2, b2, c1', cutM_same]
  rw [if_neg c1]
  have c1' : ¬ (400 : Int) < (P : Int) := by omega
  have fa : ∀ M, oFdiv (.t (nD P)) (.t (nD za)) M = .ok (.t (nD (P / za))) M := fun M => nFdiv za0 (by omega)
  have fb : ∀ M, oFdiv (.t (nD P)) (.t (nD zb)) M = .ok (.t (nD (P / zb))) M := fun M => nFdiv zb0 (by omega)
  have dla : P / za ≤ P := Nat.div_le_self _ _
  have dlb : P / zb ≤ P := Nat.div_le_self _ _
  have ga : gain ua za P = ua * ((P / za : Nat) : Int) := rfl
  have gb : gain ub zb P = ub * ((P / zb : Nat) : Int) := rfl
  have ta : ∀ M, oTimes (.t (.int ua)) (.t (nD (P / za))) M = .ok (.t (.int (gain ua za P))) M := fun M => by rw [ga]; exact e_times62 (by omega) (by rw [Int.natAbs_natCast]; omega)
  have tb : ∀ M, oTimes (.t (.int ub)) (.t (nD (P / zb))) M = .ok (.t (.int (gain ub zb P))) M := fun M => by rw [gb]; exact e_times62 (by omega) (by rw [Int.natAbs_natCast]; omega)
  by_cases c2 : gain ua za P ≤ gain ub zb P
  · have ec : cfn a b za ha ua zb hb ub P = cnv a b ha (hb + P) := by unfold cfn; rw [if_pos c2]
    rw [ec] at cv ⊢
    have em := met_ok (M := M) (gv := gain ub zb P - gain ua za P) ca cb la lb hM (by omega) (by omega) da db rfl (by omega) cv
    clear ga gb
    generalize P / za = xa at *
    generalize P / zb = xb at *
    generalize gain ua za P = xga at *
    generalize gain ub zb P = xgb at *
    have c3 : ¬ xgb - xga < 0 := by omega
    simp -implicitDefEqProofs [-List.append_assoc, -Int.natCast_ediv, cp, a2, b2, a3, b3, c1', fa, fb, ta, tb, c3, em, cutM_same]
  · have ec : cfn a b za ha ua zb hb ub P = cnv b a hb (ha + P) := by unfold cfn; rw [if_neg c2]
    rw [ec] at cv ⊢
    have em := met_ok (M := M) (gv := -(gain ub zb P - gain ua za P)) cb ca lb la hM (by omega) (by omega) db da (by omega) (by omega) cv
    clear ga gb
    generalize P / za = xa at *
    generalize P / zb = xb at *
    generalize gain ua za P = xga at *
    generalize gain ub zb P = xgb at *
    have c3 : xgb - xga < 0 := by omega
    simp -implicitDefEqProofs [-List.append_assoc, -Int.natCast_ediv, cp, a2, b2, a3, b3, c1', fa, fb, ta, tb, c3, em, cutM_same]
theorem run_plain {hd : HdD} {a : Addr} {cls : Value} {d : Option Addr} {C : Nat} {fs : List (Nat × D)} {Γ Γ' : VEnv} {M M' : Store} {fl : Fl} (hi : hd.i = none) (h : hd.h a cls d Γ M = .ok fl Γ' M') : hd.run a cls d C fs Γ M = .ok fl Γ' M' := by
  unfold HdD.run
  rw [hi]
  dsimp only
  rw [h]
theorem both_ok {a b : Nat → Int} {za ha zb hb z h : Nat} {ua ub u : Int} (ca : CurS a za ha ua) (cb : CurS b zb hb ub) (la : ha + za ≤ 400) (lb : hb + zb ≤ 400) (hM : Pl M) (cv : Cv (cfn a b za ha ua zb hb ub (Nat.lcm za zb)) z h u) :
    ph_law_both [.t (curD a za ha ua), .t (curD b zb hb ub)] M = .ok (.t (if 400 < Nat.lcm za zb then .tup [.str "long", nD (Nat.lcm za zb)] else outc (cfn a b za ha ua zb hb ub (Nat.lcm za zb)) z h u)) M := by
  unfold ph_law_both
  rw [fnSem_ap]
  unfold m_law_both
  have e := conv_ok (M := M) ca cb la lb hM cv
  generalize Nat.lcm za zb = P at *
  generalize cfn a b za ha ua zb hb ub P = g at *
  have hx : ∀ (k : Nat), ph_convolved [.t (curD a za ha ua), .t (curD b zb hb ub)] M = .exc 3 [(3, nD k)] M → fnEnd M.length (vSeq (vTry (vAsg (vDef 2 ph_convolved (vCons (vVar 0) (vCons (vVar 1) (vNil)))) (tgN 2)) [⟨[(1, false), (2, false), (3, true), (4, false), (7, false)], (some 3), fun a cls dd => vRet (vTup (vCons (vC (.str "long")) (vCons (vDef 1 ph_law_number (vCons (vXf a cls dd [3] 3 (vVar 3)) (vNil))) (vNil))))⟩])
    (vRet (vDef 1 ph_law_shown (vCons (vVar 2) (vNil)))) ([Wv.t (curD a za ha ua), Wv.t (curD b zb hb ub)].map some ++ List.replicate (4 - 2) none) M) = .ok (.t (.tup [.str "long", nD k])) M := fun k e => by
    simp -implicitDefEqProofs [e]
    rw [tryHds_t rfl (fun ad cls dd => run_named (Γ' := [some (.t (curD a za ha ua)), some (.t (curD b zb hb ub)), none, some (.l M.length)]) hM rfl (x := .tup [.str "long", nD k]) ?_)]
    · simp [cutM_same]
    · have x1 : kXf ad cls dd [3] 3 (.l M.length) (M ++ [.exn ad cls dd 3 [(3, nD k)]]) = .ok (.t (nD k)) (M ++ [.exn ad cls dd 3 [(3, nD k)]]) := kXf_s (C := 3) (fs := [(3, nD k)]) (by simp) (by simp) rfl
      simp -implicitDefEqProofs [x1, number_ok]
  by_cases c1 : 400 < P
  · rw [if_pos c1] at e ⊢
    exact hx P e
  · rw [if_neg c1] at e ⊢
    unfold outc
    by_cases c2 : h + z ≤ 400
    · rw [if_pos c2] at e ⊢
      have sh := shown_ok (M := M) (g := g) (z := z) (h := h) (u := u) (by omega)
      simp -implicitDefEqProofs [e, sh, cutM_same]
    · rw [if_neg c2] at e ⊢
      exact hx _ e
theorem asked_ok {a b : Nat → Int} {za ha zb hb z h : Nat} {ua ub u : Int} (ca : Cv a za ha ua) (cb : Cv b zb hb ub) (hM : Pl M) (la : ha + za ≤ 400) (lb : hb + zb ≤ 400) (ba : ua.natAbs ≤ 1000000000000000) (bb : ub.natAbs ≤ 1000000000000000) (cd : Cv (dec a b (max ha hb + Nat.lcm za zb)) z h u) (hz : h + z ≤ 1000000) :
    ph_law_asked [.t (curD a za ha ua), .t (curD b zb hb ub)] M = .ok (.t (if 400 < Nat.lcm za zb then .tup [.str "long", nD (Nat.lcm za zb)] else if gain ub zb (Nat.lcm za zb) < gain ua za (Nat.lcm za zb) then .tup [.str "unbounded"] else whole (dec a b (max ha hb + Nat.lcm za zb)) z h u)) M := by
  unfold ph_law_asked
  rw [fnSem_ap]
  unfold m_law_asked
  have e := deconv_ok (M := M) ca cb hM la lb ba bb cd
  generalize Nat.lcm za zb = P at *
  generalize dec a b (max ha hb + P) = g at *
  by_cases c1 : 400 < P
  · rw [if_pos c1] at e ⊢
    simp -implicitDefEqProofs [e]
    rw [tryHds_t rfl (fun ad cls dd => run_named (Γ' := [some (.t (curD a za ha ua)), some (.t (curD b zb hb ub)), none, some (.l M.length)]) hM rfl (x := .tup [.str "long", nD P]) ?_)]
    · simp [cutM_same]
    · have x1 : kXf ad cls dd [3] 3 (.l M.length) (M ++ [.exn ad cls dd 3 [(3, nD P)]]) = .ok (.t (nD P)) (M ++ [.exn ad cls dd 3 [(3, nD P)]]) := kXf_s (C := 3) (fs := [(3, nD P)]) (by simp) (by simp) rfl
      simp -implicitDefEqProofs [x1, number_ok]
  · rw [if_neg c1] at e ⊢
    by_cases c2 : gain ub zb P < gain ua za P
    · rw [if_pos c2] at e ⊢
      simp -implicitDefEqProofs [e]
      rw [tryHds_f rfl, tryHds_t rfl (fun ad cls dd => run_plain rfl (fl := .rt (.t (.tup [.str "unbounded"]))) (Γ' := [some (.t (curD a za ha ua)), some (.t (curD b zb hb ub)), none, none]) (M' := M) ?_)]
      · simp [cutM_same]
      · simp
    · rw [if_neg c2] at e ⊢
      have sh := shown_ok (M := M) (g := g) (z := z) (h := h) (u := u) (by omega)
      simp -implicitDefEqProofs [e, sh, cutM_same]
theorem due_ok {ns : List Int} {q z h : Nat} {r u : Int} (hM : Pl M) (q0 : 1 ≤ q) (q1 : q ≤ ns.length) (hl : ns.length ≤ 100000) (cv : Cv (fS ns q r) z h u) : ph_law_due [.t (T3 ns (q : Int) r)] M = .ok (.t (whole (fS ns q r) z h u)) M := by
  unfold ph_law_due
  rw [fnSem_ap]
  unfold m_law_due
  have es : (ns.length : Int) - (q : Int) = ((ns.length - q : Nat) : Int) := by omega
  have er : ns = rowG (fS ns q r) ns.length := (rowL_self ns q r).symm
  simp -implicitDefEqProofs [-List.append_assoc, e_lenC (cell0 (M := M) rfl), es]
  rw [kRange2_of (by omega) (by omega) (by omega) (by omega), show ((ns.length : Int) + (q : Int) - (ns.length : Int)).toNat = q by omega]
  simp -implicitDefEqProofs [-List.append_assoc]
  obtain ⟨Γ', M', e4, x3, g1, g2⟩ := for_all (ds := rangeD (ns.length : Int) q) (t := tgN 3) (m0 := M.length + 1) (body := (vDrop (vMt mAppend (vVar 1) (vCons (vOp oPlus (vOp oIx (vVar 1) (vOp oSub (vVar 3) (vOp oIx (vVar 0) (vC (.int 1))))) (vOp oIx (vVar 0) (vC (.int 2)))) (vNil)))))
    (fun i Γ M' => ∃ x3, Γ = [some (.t (T3 ns (q : Int) r)), some (.l M.length), some (.t (nD (ns.length - q))), x3] ∧ M' = M ++ [.lst ((rowG (fS ns q r) (ns.length + i)).map .int)])
    (fun i Γ M' ⟨_, _, e⟩ => by rw [e]; simp)
    (fun i d Γ M' hd hI => by
      obtain ⟨x3, g1, g2⟩ := hI
      obtain ⟨hi, rfl⟩ := rangeD_get hd
      subst g1 g2
      refine ⟨[some (.t (T3 ns (q : Int) r)), some (.l M.length), some (.t (nD (ns.length - q))), some (.t (.int ((ns.length : Int) + (i : Int))))], M ++ [.lst ((rowG (fS ns q r) (ns.length + (i + 1))).map .int)], ?_, _, rfl, rfl⟩
      have ha : L2.atI ((rowG (fS ns q r) (ns.length + i)).map D.int) ((ns.length : Int) + (i : Int) - (q : Int)) = some (.int (fS ns q r (ns.length + i - q))) := rowG_at (k := ns.length + i - q) (by omega) (by omega)
      have st := fS_ge (ns := ns) (p := q) (r := r) (t := ns.length + i) q0 q1 (by omega)
      have ap : mAppend M.length [.t (.int (fS ns q r (ns.length + i - q) + r))] (M ++ [Cel.lst ((rowG (fS ns q r) (ns.length + i)).map .int)]) = .ok (.t .non) (M ++ [.lst ((rowG (fS ns q r) (ns.length + (i + 1))).map .int)]) := by
        rw [e_append (cell0 rfl) (by simp; omega), set0 rfl, ← Nat.add_assoc, row_succ, ← st]
        simp
      rw [turn_nm]
      simp -implicitDefEqProofs [-List.append_assoc, e_ixC (cell0 rfl), cell0, ha, ap])
    (Γ := [some (.t (T3 ns (q : Int) r)), some (.l M.length), some (.t (nD (ns.length - q))), none]) (M := M ++ [.lst (ns.map .int)])
    ⟨none, rfl, by rw [Nat.add_zero, ← er]⟩
  rw [e4]
  subst g1 g2
  rw [rangeD_len]
  have per := fun t ht => fS_per (r := r) q0 q1 t ht
  have wh := whole_cell (M := M ++ [.lst ((rowG (fS ns q r) (ns.length + q)).map .int)]) (n := M.length) (g := fS ns q r) (s := ns.length - q) (p := q) (K := ns.length + q) (hM.append Pl.nil.lst) (cell0 rfl) q0 (by omega) (by omega) per cv
  simp -implicitDefEqProofs [-List.append_assoc, wh, cutM_app hM]
end
end K04

set_option Elab.async false
set_option linter.all false
set_option maxRecDepth 100000
set_option maxHeartbeats 400000
/-! told rows, the draws of k04 -/
namespace K04
open PySem PySem.Spec PyProof.Rows L2 VL
theorem fS_bd {ns : List Int} {p : Nat} {r b : Int} (h0 : 0 < p) (h1 : p ≤ ns.length) (hb : 0 ≤ b) (hn : ∀ x ∈ ns, -b ≤ x ∧ x ≤ b) (hr : -b ≤ r ∧ r ≤ b) : ∀ t : Nat, -(b * ((t : Int) + 1)) ≤ fS ns p r t ∧ fS ns p r t ≤ b * ((t : Int) + 1) := by
  intro t
  induction t using Nat.strongRecOn with
  | _ t ih =>
    by_cases h : t < ns.length
    · rw [fS_lt h]
      have := hn ns[t] (List.getElem_mem _)
      have e : b * ((t : Int) + 1) = b * (t : Int) + b := by rw [Int.mul_add, Int.mul_one]
      have := Int.mul_nonneg hb (Int.natCast_nonneg t)
      omega
    · rw [fS_ge h0 h1 (by omega)]
      obtain ⟨i1, i2⟩ := ih (t - p) (by omega)
      have e : b * ((t : Int) + 1) = b * (((t - p : Nat) : Int) + 1) + b * (p : Int) := by
        rw [← Int.mul_add]; congr 1; omega
      have e2 : b ≤ b * (p : Int) := by
        have : b * 1 ≤ b * (p : Int) := Int.mul_le_mul_of_nonneg_left (by omega) hb
        omega
      omega
theorem comp_drawM {ds : List D} {j n : Nat} {elt : SemE} {Γ : VEnv} {M : Store} {lo hi : Int} (hM : Pl M) (hp : Pool M n) (hl : ds.length ≤ 16777216)
    (step : ∀ d acc M', d ∈ ds → Pool M' n → M'.length = M.length → ∃ v M2, lo ≤ v ∧ v ≤ hi ∧ elt (Γ.set j (some (.t d))) (M' ++ [.lst acc]) = .ok (.t (.int v)) (M2 ++ [.lst acc]) ∧ Pst n M' M2) :
    ∃ (xs : List Int) (M' : Store), xs.length = ds.length ∧ (∀ x ∈ xs, lo ≤ x ∧ x ≤ hi) ∧ compL ⟨ds, none⟩ (.nm j) vYes elt M.length Γ ds (M ++ [.lst []]) = .ok (.f (.lst (xs.map .int))) M' ∧ Pst n M M' := by
  obtain ⟨acc, M', e, xs, h1, h2, h3, h4⟩ := comp_rule (ds := ds) (b := .nm j) (cond := vYes) (elt := elt) (k := M.length) (Γ := Γ)
    (fun i acc M' => ∃ xs : List Int, acc = xs.map .int ∧ xs.length = i ∧ (∀ x ∈ xs, lo ≤ x ∧ x ≤ hi) ∧ Pst n M M')
    (fun i acc M' ⟨xs, h1, h2, h3, h4⟩ => ⟨h4.len, h4.pl hM, by rw [h1, List.length_map, h2]; exact Nat.le_refl _⟩) hl
    (fun i d acc M' hd ⟨xs, h1, h2, h3, h4⟩ => by
      obtain ⟨v, M2, a, b, c, q⟩ := step d acc M' (List.mem_of_getElem? hd) h4.pool h4.len
      refine ⟨_, rfl, .inr ⟨_, _, .int v, M2, rfl, c, rfl, xs ++ [v], by rw [h1]; simp, by simp [h2], fun x hx => ?_, h4.trans q⟩⟩
      rcases List.mem_append.mp hx with h | h
      · exact h3 x h
      · have : x = v := by simpa using h
        rw [this]; exact ⟨a, b⟩)
    (M := M) ⟨[], rfl, rfl, by simp, Pst.refl hp⟩
  exact ⟨xs, M', h2, h3, by rw [e, h1], h4⟩
/-- a told row: its canonical form, and what is made of it -/
structure Tol (ns : List Int) (q : Nat) (r : Int) (z h : Nat) (u : Int) : Prop where
  cur : CurS (fS ns q r) z h u
  len : h + z ≤ ns.length
  dvd : z ∣ q
  q0 : 1 ≤ q
  q1 : q ≤ ns.length
  l1 : ns.length ≤ 400
  made : ∀ (M : Store) (w : Wv), Pl M → SeqW M ns w → vMakeK true 5 4 ph_Curve_init [w, .t (.int q), .t (.int r)] M = .ok (.f (curD (fS ns q r) z h u)) M
theorem tol_of {ns : List Int} {q : Nat} {r b : Int} (R : Row b ns (q : Int) r) (hl : ns.length ≤ 400) (b0 : 0 ≤ b) (hb : b ≤ 1000000000) : ∃ z h u, Tol ns q r z h u := by
  obtain ⟨l0, l1, p0, p1, nb, r0, r1⟩ := R
  have q0 : 1 ≤ q := by omega
  have q1 : q ≤ ns.length := by omega
  obtain ⟨z, h, hz, hh, _⟩ := canonical_ok (M := []) (ns := ns) (q := q) (r := r) Pl.nil q0 q1 (by omega) (pow60 (by omega))
  have per := fun t ht => fS_per (r := r) q0 q1 t ht
  have cv := cv_of q0 per hz hh
  have k : (⟨ns, q, r, z, h⟩ : Gd).Ok := {
    l0 := l0
    l1 := hl
    hf := fun j hj _ => by
      have := nb ns[j] (List.getElem_mem _)
      show (ns[j]).natAbs ≤ _
      omega
    q0 := q0
    q1 := q1
    hr := by show r.natAbs ≤ _; omega
    hz := hz
    hh := hh }
  have zl := hz.le
  have hl' := hh.le
  have vb : ∀ t, t ≤ 6000 → (fS ns q r t).natAbs ≤ 6001000000000 := fun t ht => by
    have := fS_bd (p := q) (r := r) (b := b) q0 q1 b0 nb ⟨r0, r1⟩ t
    have e : b * ((t : Int) + 1) ≤ 1000000000 * 6001 := by
      have h1 : b * ((t : Int) + 1) ≤ 1000000000 * ((t : Int) + 1) := Int.mul_le_mul_of_nonneg_right hb (by omega)
      have h2 : (1000000000 : Int) * ((t : Int) + 1) ≤ 1000000000 * 6001 := Int.mul_le_mul_of_nonneg_left (by omega) (by omega)
      omega
    omega
  refine ⟨z, h, _, ⟨⟨cv, by omega, ?_, fun t ht => by have := vb t ht; omega⟩, by omega, Nat.dvd_of_mod_eq_zero hz.dvd, q0, q1, hl, fun M w hM hw => k.made hM hw⟩⟩
  have v1 := vb (ns.length - q + z) (by omega)
  have v2 := vb (ns.length - q) (by omega)
  omega
/-! ### a canonical form is there -/
theorem least_nat {P : Nat → Prop} : ∀ n, P n → ∃ m, P m ∧ ∀ k, k < m → ¬ P k := by
  intro n
  induction n using Nat.strongRecOn with
  | _ n ih =>
    intro hn
    by_cases h : ∃ k, k < n ∧ P k
    · obtain ⟨k, h1, h2⟩ := h
      exact ih k h1 h2
    · exact ⟨n, hn, fun k hk hp => h ⟨k, hk, hp⟩⟩
theorem cv_exists {g : Nat → Int} {p : Nat} (p0 : 1 ≤ p) (hp : Ev g p) : ∃ z h u, Cv g z h u := by
  obtain ⟨z, ⟨z0, s, u, hz⟩, hmin⟩ := least_nat (P := fun p => 1 ≤ p ∧ Ev g p) p ⟨p0, hp⟩
  obtain ⟨h, hh, hl⟩ := least_nat (P := fun s => ∀ t, s ≤ t → g (t + z) = g t + u) s hz
  refine ⟨z, h, u, z0, hh, fun q q0 hq => ?_, ?_⟩
  · by_cases c : q < z
    · exact absurd ⟨q0, hq⟩ (hmin q c)
    · omega
  · by_cases c : h = 0
    · exact .inl c
    · refine .inr fun e => hl (h - 1) (by omega) fun t ht => ?_
      by_cases e2 : t = h - 1
      · rw [e2]; exact e
      · exact hh t (by omega)
theorem Ev.mul {g : Nat → Int} {s z P : Nat} {u : Int} (per : ∀ t, s ≤ t → g (t + z) = g t + u) (hd : z ∣ P) : Ev g P := ⟨s, gain u z P, per_dvd per hd⟩
theorem Ev.of {g g' : Nat → Int} {n p : Nat} (e : ∀ t, n ≤ t → g t = g' t) (h : Ev g' p) : Ev g p := by
  obtain ⟨s, r, hr⟩ := h
  exact ⟨max n s, r, fun t ht => by rw [e (t + p) (by omega), e t (by omega)]; exact hr t (by omega)⟩
theorem cnv_ev {s f : Nat → Int} {zs hs zf hf P : Nat} {us uf : Int} (cs : CurS s zs hs us) (cf : CurS f zf hf uf) (ls : hs + zs ≤ 400) (lf : hf + zf ≤ 400) (P0 : 1 ≤ P) (hP : P ≤ 400) (ds : zs ∣ P) (df : zf ∣ P) (hg : gain us zs P ≤ gain uf zf P) : Ev (cnv s f hs (hf + P)) P := by
  obtain ⟨zn, hn, zw, hw, un, uw, pc⟩ := pc_of cs cf ls lf P0 hP
  have perN := fun t ht => fam_per (y := f) (m := hf + P) cs.cv (by omega) t ht
  by_cases h0 : hs = 0
  · rw [cnv_zero h0]
    exact Ev.mul perN ds
  · have hs1 : 1 ≤ hs := by omega
    rw [cnv_pos hs1]
    obtain ⟨cF, w1, w2, w3⟩ := pc.F hs1
    have perF := fun t ht => fam_per (y := s) (m := hs) cf.cv hs1 t ht
    have PN := per_dvd perN ds
    have PF := per_dvd perF df
    by_cases c : gain us zs P = gain uf zf P
    · refine ⟨hs + (hf + P) + (hf + hs), gain us zs P, fun t ht => ?_⟩
      have x := PN t (by omega)
      have y := PF t (by omega)
      unfold mnf
      rw [x, y, c]
      split <;> split <;> omega
    · have dn : zn ∣ P := Nat.dvd_trans pc.zn_dvd ds
      have dw : zw ∣ P := Nat.dvd_trans w2 df
      have gn : gain un zn P = gain us zs P := by
        have a := pc.N.cv.gain dn (hs + (hf + P) + hn) (by omega)
        have b := PN (hs + (hf + P) + hn) (by omega)
        omega
      have gw : gain uw zw P = gain uf zf P := by
        have a := cF.cv.gain dw (hf + hs + hw) (by omega)
        have b := PF (hf + hs + hw) (by omega)
        omega
      obtain ⟨L, hL, _⟩ := last_ok (M := []) cF pc.N Pl.nil hP P0 dw dn (by omega)
      rw [mnf_comm]
      refine Ev.of (g' := fam s f (hf + P)) (n := (L + 1).toNat) (fun t ht => hL.after (by omega)) (Ev.mul perN ds)
theorem cfn_ev {a b : Nat → Int} {za ha zb hb P : Nat} {ua ub : Int} (ca : CurS a za ha ua) (cb : CurS b zb hb ub) (la : ha + za ≤ 400) (lb : hb + zb ≤ 400) (P0 : 1 ≤ P) (hP : P ≤ 400) (da : za ∣ P) (db : zb ∣ P) : Ev (cfn a b za ha ua zb hb ub P) P := by
  unfold cfn
  by_cases c : gain ua za P ≤ gain ub zb P
  · rw [if_pos c]; exact cnv_ev ca cb la lb P0 hP da db c
  · rw [if_neg c]; exact cnv_ev cb ca lb la P0 hP db da (by omega)
/-- the first curve lies below what is folded exactly if it lies below all splits -/
theorem cfn_iff {a b g : Nat → Int} {za ha zb hb P : Nat} {ua ub : Int} (ca : Cv a za ha ua) (cb : Cv b zb hb ub) (P0 : 1 ≤ P) (da : za ∣ P) (db : zb ∣ P) : (∀ t, g t ≤ cfn a b za ha ua zb hb ub P t) ↔ Below g a b := by
  unfold cfn
  by_cases c : gain ua za P ≤ gain ub zb P
  · rw [if_pos c, cnv_iff ca cb da db P0 c]
    exact ⟨Below.symm, Below.symm⟩
  · rw [if_neg c, cnv_iff cb ca db da P0 (by omega)]
/-! ### the draws -/
section
variable {M : Store} {n : Nat}
theorem base_ok (hM : Pl M) (hp : Pool M n) : ∃ ns p r M', ph_law_base [.l n] M = .ok (.t (T3 ns p r)) M' ∧ Row 100 ns p r ∧ ns.length ≤ 6 ∧ Pst n M M' := by
  unfold ph_law_base
  rw [fnSem_ap]
  unfold m_law_base
  obtain ⟨a, M1, a0, a1, e1, p1⟩ := draw_at (m := 6) hp (by omega) (by omega)
  obtain ⟨b, M2, b0, b1, e2, p2⟩ := draw_at (m := 1 + a) p1.pool (by omega) (by omega)
  obtain ⟨c, M3, c0, c1, e3, p3⟩ := draw_at (m := 2) p2.pool (by omega) (by omega)
  obtain ⟨w, hw, w1⟩ : ∃ w : Int, L2.atI [D.int 19, D.int 3] c = some (.int w) ∧ (w = 19 ∨ w = 3) := by
    have : c = 0 ∨ c = 1 := by omega
    rcases this with rfl | rfl
    · exact ⟨19, rfl, .inl rfl⟩
    · exact ⟨3, rfl, .inr rfl⟩
  have p03 := (p1.trans p2).trans p3
  obtain ⟨xs, M4, x1, x2, e4, p4⟩ := comp_drawM (ds := rangeD 0 (1 + a).toNat) (j := 5) (n := n) (elt := vOp oSub (vDef 2 ph_law_draw (vCons (vVar 0) (vCons (vVar 3) vNil))) (vOp oFdiv (vVar 3) (vC (D.int 2)))) (Γ := [some (.l n), some (.t (.int (1 + a))), some (.t (.int (1 + b))), some (.t (.int w)), none, none]) (lo := -9) (hi := 9) (p03.pl hM) p3.pool (by rw [rangeD_len]; omega) (fun d acc M' _ hp' hl => by
    obtain ⟨v, M2', v0, v1, ev, pv⟩ := draw_app (m := w) (T := [Cel.lst acc]) hp' (by omega) (by omega)
    have fd : ∀ M, oFdiv (.t (.int w)) (.t (.int 2)) M = .ok (.t (.int (w / 2))) M := fun M => e_fdiv62 (by omega) (by omega)
    refine ⟨v - w / 2, M2', by omega, by omega, ?_, pv⟩
    simp -implicitDefEqProofs [-List.append_assoc, ev, fd])
  obtain ⟨r, M5, r0, r1, e5, p5⟩ := draw_at (m := 7) p4.pool (by omega) (by omega)
  have p05 := (p03.trans p4).trans p5
  simp -implicitDefEqProofs [-List.append_assoc, e1, e2, e3, hw]
  rw [kRange1_of (by omega) (by omega)]
  simp -implicitDefEqProofs [-List.append_assoc, e4, e5]
  rw [rangeD_len] at x1
  refine ⟨xs, 1 + b, r - 3, M5, ⟨⟨rfl, rfl, rfl⟩, cutM_same p05.len⟩, ⟨by omega, by omega, by omega, by omega, fun x hx => by have := x2 x hx; omega, by omega, by omega⟩, by omega, p05⟩
theorem long_ok {p : Nat} (hM : Pl M) (hp : Pool M n) (h1 : 1 ≤ p) (h2 : p ≤ 30) :
    ∃ ns r M', ph_law_long [.l n, .t (nD p)] M = .ok (.t (T3 ns (p : Int) r)) M' ∧ p ≤ ns.length ∧ ns.length ≤ p + 2 ∧ (∀ i (h : i < ns.length), i + 1 < ns.length → 0 ≤ ns[i] ∧ ns[i] ≤ 3) ∧ (∀ h : ns.length - 1 < ns.length, 9 ≤ ns[ns.length - 1] ∧ ns[ns.length - 1] ≤ 12) ∧ -1 ≤ r ∧ r ≤ 1 ∧ Pst n M M' := by
  unfold ph_law_long
  rw [fnSem_ap]
  unfold m_law_long
  obtain ⟨a, M1, a0, a1, e1, p1⟩ := draw_at (m := 3) hp (by omega) (by omega)
  obtain ⟨xs, M2, x1, x2, e2, p2⟩ := comp_drawM (ds := rangeD 0 ((p : Int) + a).toNat) (j := 4) (n := n) (elt := vDef 2 ph_law_draw (vCons (vVar 0) (vCons (vC (D.int 4)) vNil))) (Γ := [some (.l n), some (.t (nD p)), some (.t (.int ((p : Int) + a))), none, none]) (lo := 0) (hi := 3) (p1.pl hM) p1.pool (by rw [rangeD_len]; omega) (fun d acc M' _ hp' hl => by
    obtain ⟨v, M2', v0, v1, ev, pv⟩ := draw_app (m := 4) (T := [Cel.lst acc]) hp' (by omega) (by omega)
    refine ⟨v, M2', by omega, by omega, ?_, pv⟩
    simp -implicitDefEqProofs [-List.append_assoc, ev])
  rw [rangeD_len] at x1
  have p02 := p1.trans p2
  have hl2 : M2.length = M.length := p02.len
  obtain ⟨r, M3, r0, r1, e3, p3⟩ := draw_app (m := 3) (T := [Cel.dead]) p2.pool (by omega) (by omega)
  have hxl : xs.length - 1 < xs.length := by omega
  have at1 : L2.atI (xs.map D.int) (-1) = some (.int xs[xs.length - 1]) := by
    rw [atI_neg (i := -1) (k := 1) rfl (by omega) (by simp; omega)]
    simp [hxl]
  have st : kSetI (.t (.int (xs[xs.length - 1] + 9))) (.l M.length) (.t (.int (-1))) (M2 ++ [Cel.lst (xs.map .int)]) = some (M2 ++ [Cel.lst ((xs.set (xs.length - 1) (xs[xs.length - 1] + 9)).map .int)]) := by
    rw [kSetI_neg (i := -1) (k := 1) (cell0 hl2) rfl (by omega) (by simp; omega), set0 hl2, List.length_map, List.map_set]
  simp -implicitDefEqProofs [-List.append_assoc, e1]
  rw [kRange1_of (by omega) (by omega)]
  simp -implicitDefEqProofs [-List.append_assoc, -List.map_set, e2, hl2, cell0 hl2, e_ixC (cell0 hl2), at1, st, set0 hl2, e3]
  have lst := x2 xs[xs.length - 1] (List.getElem_mem _)
  refine ⟨xs.set (xs.length - 1) (xs[xs.length - 1] + 9), r - 1, M3, ⟨⟨rfl, rfl⟩, cutM_app ((p02.trans p3).pl hM) (p3.len.trans hl2)⟩, by rw [List.length_set]; omega, by rw [List.length_set]; omega, fun i h hi => ?_, fun h => ?_, by omega, by omega, p02.trans p3⟩
  · rw [List.length_set] at hi
    rw [List.getElem_set_ne (by omega)]
    exact x2 _ (List.getElem_mem _)
  · simp only [List.length_set, List.getElem_set_self]
    omega
theorem Row.of_long {p : Nat} {ns : List Int} {r : Int} (h1 : 1 ≤ p) (a : p ≤ ns.length) (b : ns.length ≤ p + 2) (hp : p ≤ 30) (c : ∀ i (h : i < ns.length), i + 1 < ns.length → 0 ≤ ns[i] ∧ ns[i] ≤ 3) (d : ∀ h : ns.length - 1 < ns.length, 9 ≤ ns[ns.length - 1] ∧ ns[ns.length - 1] ≤ 12) (r0 : -1 ≤ r ∧ r ≤ 1) : Row 100 ns (p : Int) r := by
  refine ⟨by omega, by omega, by omega, by omega, fun x hx => ?_, by omega, by omega⟩
  obtain ⟨i, hi, rfl⟩ := List.getElem_of_mem hx
  by_cases e : i + 1 < ns.length
  · have := c i hi e; omega
  · have e2 : i = ns.length - 1 := by omega
    subst e2
    have := d hi; omega
end
end K04

set_option Elab.async false
set_option linter.all false
set_option maxRecDepth 100000
set_option maxHeartbeats 400000
/-! the two rows -/
namespace K04
open PySem PySem.Spec PyProof.Rows L2 VL
section
variable {M : Store} {n : Nat}
theorem two_ok (hM : Pl M) (hp : Pool M n) : ∃ ns p r ms q s M', ph_law_two [.l n] M = .ok (.f (.lst [T3 ns p r, T3 ms q s])) M' ∧ (Row 100 ns p r ∧ ns.length ≤ 35) ∧ (Row 100 ms q s ∧ ms.length ≤ 35) ∧ Pst n M M' := by
  unfold ph_law_two
  rw [fnSem_ap]
  unfold m_law_two
  obtain ⟨m, M1, m0, m1, e1, p1⟩ := draw_at (m := 8) hp (by omega) (by omega)
  by_cases c0 : m = 0
  · subst c0
    obtain ⟨c, M2, c0, c1, e2, p2⟩ := draw_at (m := 4) p1.pool (by omega) (by omega)
    obtain ⟨x, y, hw, x0, x1, y0, y1⟩ : ∃ x y : Nat, L2.atI [D.tup [.int 7, .int 9], D.tup [.int 12, .int 13], D.tup [.int 16, .int 25], D.tup [.int 19, .int 21]] c = some (.tup [nD x, nD y]) ∧ 1 ≤ x ∧ x ≤ 30 ∧ 1 ≤ y ∧ y ≤ 30 := by
      have : c = 0 ∨ c = 1 ∨ c = 2 ∨ c = 3 := by omega
      rcases this with rfl | rfl | rfl | rfl
      · exact ⟨7, 9, rfl, by omega, by omega, by omega, by omega⟩
      · exact ⟨12, 13, rfl, by omega, by omega, by omega, by omega⟩
      · exact ⟨16, 25, rfl, by omega, by omega, by omega, by omega⟩
      · exact ⟨19, 21, rfl, by omega, by omega, by omega, by omega⟩
    have p02 := p1.trans p2
    obtain ⟨ns, r, M3, e3, a1, a2, a3, a4, a5, a6, p3⟩ := long_ok (p02.pl hM) p2.pool x0 x1
    have p03 := p02.trans p3
    obtain ⟨ms, s, M4, e4, b1, b2, b3, b4, b5, b6, p4⟩ := long_ok (p03.pl hM) p3.pool y0 y1
    simp -implicitDefEqProofs [-List.append_assoc, e1, e2, hw, e3, e4]
    exact ⟨ns, x, r, ms, y, s, M4, ⟨⟨⟨rfl, rfl, rfl⟩, rfl, rfl, rfl⟩, cutM_same (p03.trans p4).len⟩, ⟨Row.of_long x0 a1 a2 x1 a3 a4 ⟨a5, a6⟩, by omega⟩, ⟨Row.of_long y0 b1 b2 y1 b3 b4 ⟨b5, b6⟩, by omega⟩, p03.trans p4⟩
  · obtain ⟨ns, p, r, M2, e2, R, l, p2⟩ := base_ok (p1.pl hM) p1.pool
    obtain ⟨ms, q, s, M3, e3, S, k, p3⟩ := base_ok ((p1.trans p2).pl hM) p2.pool
    have p03 := (p1.trans p2).trans p3
    have c5 : decide (m = 0) = false := decide_eq_false c0
    by_cases c1 : m < 3
    · have c6 : decide (m < 3) = true := decide_eq_true c1
      have mn : ∀ M, fMin2 [.t (.int p), .t (.int q)] M = .ok (.t (.int (min p q))) M := fun M => by
        show Res.ok (Rv.t (.int (if q < p then q else p))) M = _
        congr 3
        split <;> omega
      simp -implicitDefEqProofs [-List.append_assoc, e1, c0, c1, c5, c6, e2, e3, mn]
      obtain ⟨l0, l1, q0, q1, nb, r0, r1⟩ := R
      obtain ⟨l0', l1', q0', q1', nb', r0', r1'⟩ := S
      exact ⟨ns, min p q, r, ms, min p q, r, M3, ⟨⟨⟨rfl, rfl, rfl⟩, rfl, rfl, rfl⟩, cutM_same p03.len⟩, ⟨⟨l0, l1, by omega, by omega, nb, r0, r1⟩, by omega⟩, ⟨⟨l0', l1', by omega, by omega, nb', r0, r1⟩, by omega⟩, p03⟩
    · have c6 : decide (m < 3) = false := decide_eq_false c1
      simp -implicitDefEqProofs [-List.append_assoc, e1, c0, c1, c5, c6, e2, e3]
      exact ⟨ns, p, r, ms, q, s, M3, ⟨⟨⟨rfl, rfl, rfl⟩, rfl, rfl, rfl⟩, cutM_same p03.len⟩, ⟨R, by omega⟩, ⟨S, by omega⟩, p03⟩
end
end K04

set_option Elab.async false
set_option linter.all false
set_option maxRecDepth 100000
set_option maxHeartbeats 400000
/-! the rows beside a curve -/
namespace K04
open PySem PySem.Spec PyProof.Rows L2 VL
section
variable {M : Store} {n : Nat}
theorem beside_ok {g : Nat → Int} {z h : Nat} {u : Int} (hM : Pl M) (hp : Pool M n) (cv : Cv g z h u) (hl : h + z ≤ 300) (bg : ∀ t, t < h + z + 4 → (g t).natAbs ≤ 100000000) (bu : u.natAbs ≤ 100000000) :
    ∃ xs ys r1 r2 M', ph_law_beside [.l n, .t (whole g z h u)] M = .ok (.f (.lst [T3 xs (z : Int) r1, T3 ys (z : Int) r2, T3 xs (z : Int) (u - 1)])) M' ∧ (Row 1000000000 xs (z : Int) r1 ∧ xs.length ≤ 310) ∧ (Row 1000000000 ys (z : Int) r2 ∧ ys.length ≤ 310) ∧ (Row 1000000000 xs (z : Int) (u - 1) ∧ xs.length ≤ 310) ∧ Pst n M M' := by
  unfold ph_law_beside
  rw [fnSem_ap]
  unfold m_law_beside
  have z0 := cv.pos
  obtain ⟨k, M1, k0, k1, e1, p1⟩ := draw_at (m := 4) hp (by omega) (by omega)
  obtain ⟨k, rfl⟩ : ∃ j : Nat, k = j := ⟨k.toNat, by omega⟩
  have er := lrow_ok cv (p1.pl hM) (n := h + z + k) (by omega) (by omega)
  rw [show max (h + z) (h + z + k) = h + z + k by omega, nD, show ((h + z + k : Nat) : Int) = (h : Int) + (z : Int) + (k : Int) by omega] at er
  have lr : (rowG g (h + z + k)).length = h + z + k := by unfold rowG; simp
  have mr : ∀ x ∈ rowG g (h + z + k), x.natAbs ≤ 100000000 := fun x hx => by
    unfold rowG at hx
    obtain ⟨t, ht, rfl⟩ := List.mem_map.mp hx
    have := List.mem_range.mp ht
    exact bg t (by omega)
  have ar : ∀ i : Nat, i < h + z + k → L2.atI ((rowG g (h + z + k)).map D.int) (i : Int) = some (.int (g i)) := fun i hi => by
    rw [atI_nat rfl (by rw [List.length_map, lr]; exact hi)]
    unfold rowG
    simp [hi]
  generalize rowG g (h + z + k) = row at er lr mr ar
  obtain ⟨xs, M2, x1, x2, e2, p2⟩ := comp_drawM (ds := row.map .int) (j := 5) (n := n) (elt := vOp oPlus (vVar 5) (vDef 2 ph_law_draw (vCons (vVar 0) (vCons (vC (.int 3)) (vNil))))) (Γ := [some (.l n), some (.t (whole g z h u)), some (.t (.int ((h : Int) + (z : Int) + (k : Int)))), some (.t (.lst (row.map .int))), none, none, none, none, none]) (lo := -100000000) (hi := 100000002) (p1.pl hM) p1.pool (by rw [List.length_map]; omega) (fun d acc M' hd hp' hl => by
    obtain ⟨x, hx, rfl⟩ := List.mem_map.mp hd
    have := mr x hx
    obtain ⟨v, M2', v0, v1, ev, pv⟩ := draw_app (m := 3) (T := [Cel.lst acc]) hp' (by omega) (by omega)
    refine ⟨x + v, M2', by omega, by omega, ?_, pv⟩
    simp -implicitDefEqProofs [-List.append_assoc, ev])
  rw [List.length_map, lr] at x1
  have p02 := p1.trans p2
  obtain ⟨a, M3, a0, a1, e3, p3⟩ := draw_at (m := 2) p2.pool (by omega) (by omega)
  have p03 := p02.trans p3
  have l3 : M3.length = M.length := p03.len
  obtain ⟨i, M4, i0, i1, e4, p4⟩ := draw_app (m := (h : Int) + (z : Int) + (k : Int)) (T := [Cel.lst [T3 xs (z : Int) (u + a)], Cel.lst (xs.map .int)]) p3.pool (by omega) (by omega)
  obtain ⟨i, rfl⟩ : ∃ j : Nat, i = j := ⟨i.toNat, by omega⟩
  obtain ⟨b, M5, b0, b1, e5, p5⟩ := draw_app (m := 2) (T := [Cel.lst [T3 xs (z : Int) (u + a)], Cel.lst (xs.map .int)]) p4.pool (by omega) (by omega)
  have p05 := (p03.trans p4).trans p5
  have l5 : M5.length = M.length := p05.len
  have bi := bg i (by omega)
  have ai := ar i (by omega)
  have st : kSetI (.t (.int (g i - 1 - b))) (.l (M.length + 1)) (.t (.int (i : Int))) (M5 ++ [Cel.lst [T3 xs (z : Int) (u + a)], Cel.lst (xs.map .int)]) = some (M5 ++ [Cel.lst [T3 xs (z : Int) (u + a)], Cel.lst ((xs.set i (g i - 1 - b)).map .int)]) := by
    rw [kSetI_nat (xs := xs.map .int) (k := i) (by rw [getT l5]; rfl) rfl (by simp; omega), setT l5, List.map_set]
    rfl
  have ly : (xs.set i (g i - 1 - b)).length = xs.length := by simp
  have my : ∀ x ∈ xs.set i (g i - 1 - b), -100000010 ≤ x ∧ x ≤ 100000010 := fun x hx => by
    rcases mem_set' hx with hx | rfl
    · have := x2 x hx; omega
    · omega
  generalize xs.set i (g i - 1 - b) = ys at st ly my
  obtain ⟨c, M6, c0, c1, e6, p6⟩ := draw_app (m := 2) (T := [Cel.lst [T3 xs (z : Int) (u + a)], Cel.dead]) p5.pool (by omega) (by omega)
  have p06 := p05.trans p6
  have l6 : M6.length = M.length := p06.len
  obtain ⟨d0, d1, d2, d3⟩ := due_at g z h u M
  have d := due_at g z h u
  have d1 := fun M => (d M).2.1
  have d2 := fun M => (d M).2.2.1
  have d3 := fun M => (d M).2.2.2
  have sm1 : ∀ (M : Store) (n : Nat) (d a : D), kApp n d M (some (.lst [a])) = .ok (.t .non) (M.set n (.lst [a, d])) := fun M n d a => kApp_s (by simp)
  have sm2 : ∀ (M : Store) (a b c : D), kPlusC M [c] (some (.lst [a, b])) = .ok (.f (.lst [a, b, c])) M := fun M a b c => kPlusC_s (by simp)
  simp -implicitDefEqProofs [-List.append_assoc, -Int.natCast_add, e1, d1, d2, d3, er, e2, e3, l3, e4, e5, ai, st, l5]
  simp -implicitDefEqProofs [-Int.natCast_add, e4, e5, ai, st, l5, d1, d2, d3, getT l5, getT0 l5, setT l5, setT0 l5, e6, getT l6, getT0 l6, setT l6, setT0 l6, sm1, sm2, cutM_app (p06.pl hM) l6]
  refine ⟨xs, ys, u + a, u + c, M6, ⟨⟨⟨rfl, rfl⟩, ⟨rfl, rfl⟩, rfl⟩, rfl⟩, ⟨⟨by omega, by omega, by omega, by omega, fun x hx => by have := x2 x hx; omega, by omega, by omega⟩, by omega⟩, ⟨⟨by omega, by omega, by omega, by omega, fun x hx => by have := my x hx; omega, by omega, by omega⟩, by omega⟩, ⟨⟨by omega, by omega, by omega, by omega, fun x hx => by have := x2 x hx; omega, by omega, by omega⟩, by omega⟩, p06⟩
end
end K04

set_option Elab.async false
set_option linter.all false
set_option maxRecDepth 100000
set_option maxHeartbeats 400000
/-! one row beside -/
namespace K04
open PySem PySem.Spec PyProof.Rows L2 VL
theorem shp_long (k : Nat) : shp 3 (.tup [.str "long", nD k]) = true := by simp [shp, shps]; decide +kernel
theorem shp_outc (g : Nat → Int) (z h : Nat) (u : Int) : shp 3 (outc g z h u) = true := by
  unfold outc
  split
  · exact shp_whole g z h u
  · exact shp_long _
theorem fam_bdd {x y : Nat → Int} {m T B : Nat} (hm : 1 ≤ m) (bx : ∀ t, t ≤ T → (x t).natAbs ≤ B) (bY : ∀ t, t ≤ T → (y t).natAbs ≤ B) (t : Nat) (ht : t ≤ T) : (fam x y m t).natAbs ≤ 2 * B := by
  obtain ⟨⟨s, h1, h2⟩, _⟩ := mn_spec (f := fun s => y s + x (t - s)) (n := min m (t + 1)) (by omega)
  unfold fam
  rw [h2]
  have a := bx (t - s) (by omega)
  have b := bY s (by omega)
  show (y s + x (t - s)).natAbs ≤ 2 * B
  omega
theorem cnv_bd {s f : Nat → Int} {hs m T B : Nat} (hm : 1 ≤ m) (bs : ∀ t, t ≤ T → (s t).natAbs ≤ B) (bf : ∀ t, t ≤ T → (f t).natAbs ≤ B) (t : Nat) (ht : t ≤ T) : (cnv s f hs m t).natAbs ≤ 2 * B := by
  unfold cnv
  have a := fam_bdd hm bs bf t ht
  split
  · exact a
  · have b := fam_bdd (m := hs) (by omega) bf bs t ht
    unfold mnf
    split
    · exact b
    · exact a
theorem cfn_bd {a b : Nat → Int} {za ha zb hb P T B : Nat} {ua ub : Int} (P0 : 1 ≤ P) (ba : ∀ t, t ≤ T → (a t).natAbs ≤ B) (bb : ∀ t, t ≤ T → (b t).natAbs ≤ B) (t : Nat) (ht : t ≤ T) : (cfn a b za ha ua zb hb ub P t).natAbs ≤ 2 * B := by
  unfold cfn
  split
  · exact cnv_bd (by omega) ba bb t ht
  · exact cnv_bd (by omega) bb ba t ht
theorem Cv.ubd {g : Nat → Int} {z h T B : Nat} {u : Int} (c : Cv g z h u) (hl : h + z ≤ T) (bg : ∀ t, t ≤ T → (g t).natAbs ≤ B) : u.natAbs ≤ 2 * B := by
  have := c.next
  have a := bg (h + z) hl
  have b := bg h (by omega)
  omega
theorem dec_bd {a b : Nat → Int} {n T B : Nat} (hn : 1 ≤ n) (ba : ∀ t, t ≤ T + n → (a t).natAbs ≤ B) (bb : ∀ t, t ≤ T + n → (b t).natAbs ≤ B) (t : Nat) (ht : t ≤ T) : (dec a b n t).natAbs ≤ 2 * B := by
  obtain ⟨⟨s, h1, h2⟩, _⟩ := mx_spec (f := fun s => a (t + s) - b s) (n := n) hn
  unfold dec
  rw [h2]
  have x := ba (t + s) (by omega)
  have y := bb s (by omega)
  show (a (t + s) - b s).natAbs ≤ 2 * B
  omega
/-- the facts of a turn -/
structure Res1 (a b : Nat → Int) (za ha zb hb z h : Nat) (ua ub u : Int) (ns : List Int) (r : Int) (M : Store) : Prop where
  facts : ∃ (cu du o : D) (y : Bool), ph_law_due [.t (T3 ns (z : Int) r)] M = .ok (.t du) M ∧ vMakeK true 5 4 ph_Curve_init [.t (.lst (ns.map .int)), .t (nD z), .t (.int r)] M = .ok (.f cu) M ∧
    ph_law_below [.t (whole (dec a b (max ha hb + Nat.lcm za zb)) z h u), .t du] M = .ok (.t (.bl y)) M ∧ ph_law_said [.t (curD (dec a b (max ha hb + Nat.lcm za zb)) z h u), .t cu, .t (.bl y)] M = .ok (.t (.bl true)) M ∧
    ph_law_folded [.t (whole b zb hb ub), .t du] M = .ok (.t o) M ∧ ph_law_both [.t (curD b zb hb ub), .t cu] M = .ok (.t o) M ∧ oNe (.t o) (.t o) M = .ok (.t (.bl false)) M ∧
    ((∃ k : Int, fLen [.t o] M = .ok (.t (.int k)) M ∧ k ≠ 6) ∨ (fLen [.t o] M = .ok (.t (.int 6)) M ∧ ∃ cv, ph_convolved [.t (curD b zb hb ub), .t cu] M = .ok (.t cv) M ∧ ph_law_said [.t (curD a za ha ua), .t cv, .t (.bl y)] M = .ok (.t (.bl true)) M))
theorem res1 {a b : Nat → Int} {za ha zb hb z h : Nat} {ua ub u r : Int} {ns : List Int} {M : Store} (ca : CurS a za ha ua) (cb : CurS b zb hb ub) (la : ha + za ≤ 400) (lb : hb + zb ≤ 400) (hP : Nat.lcm za zb ≤ 60) (hg : gain ua za (Nat.lcm za zb) ≤ gain ub zb (Nat.lcm za zb)) (cd : CurS (dec a b (max ha hb + Nat.lcm za zb)) z h u) (hz : z ∣ za) (hM : Pl M) (R : Row 1000000000 ns (z : Int) r) (hl : ns.length ≤ 310) :
    Res1 a b za ha zb hb z h ua ub u ns r M := by
  have P0 : 1 ≤ Nat.lcm za zb := Nat.lcm_pos ca.cv.pos cb.cv.pos
  have hza : za ≤ 60 := Nat.le_trans (lcm_ge ca.cv.pos cb.cv.pos).1 hP
  have hzz : z ≤ za := Nat.le_of_dvd ca.cv.pos hz
  obtain ⟨zc, hc, uc, T⟩ := tol_of R (by omega) (by omega) (by omega)
  have hcl : hc + zc ≤ 400 := by have := T.len; omega
  have zcz : zc ∣ z := T.dvd
  have l1 : Nat.lcm z zc ≤ 400 := by
    have : Nat.lcm z zc ∣ z := Nat.lcm_dvd (Nat.dvd_refl _) zcz
    have := Nat.le_of_dvd cd.cv.pos this
    omega
  have l2d : Nat.lcm zb zc ∣ Nat.lcm za zb := Nat.lcm_dvd (Nat.dvd_lcm_right _ _) (Nat.dvd_trans zcz (Nat.dvd_trans hz (Nat.dvd_lcm_left _ _)))
  have l2 : Nat.lcm zb zc ≤ 60 := Nat.le_trans (Nat.le_of_dvd P0 l2d) hP
  have P20 : 1 ≤ Nat.lcm zb zc := Nat.lcm_pos cb.cv.pos T.cur.cv.pos
  have ev := cfn_ev cb T.cur lb hcl P20 (by omega) (Nat.dvd_lcm_left _ _) (Nat.dvd_lcm_right _ _)
  obtain ⟨zf, hf, uf, cf⟩ := cv_exists P20 ev
  have e1 := due_ok hM T.q0 T.q1 (by have := T.l1; omega) T.cur.cv
  have e2 := T.made M _ hM SeqW.lst
  have e3 := below_ok cd.big T.cur.big hM l1
  have e4 := said_ok cd.big T.cur.big hM l1 rfl
  have e5 := folded_ok cb T.cur lb hcl hM cf
  have e6 := both_ok cb T.cur lb hcl hM cf
  have e7 := conv_ok cb T.cur lb hcl hM cf
  rw [if_neg (by omega)] at e5 e6 e7
  refine ⟨_, _, _, _, e1, e2, e3, e4, e5, e6, ne_self rfl (shp_outc _ _ _ _), ?_⟩
  by_cases c : hf + zf ≤ 400
  · refine .inr ?_
    rw [if_pos c] at e7
    refine ⟨by unfold outc; rw [if_pos c]; exact e_lenT _, _, e7, ?_⟩
    have bf := cfn_bd (za := zb) (ha := hb) (zb := zc) (hb := hc) (ua := ub) (ub := uc) P20 cb.vb T.cur.vb
    have cF : CurB (cfn b (fS ns z r) zb hb ub zc hc uc (Nat.lcm zb zc)) zf hf uf := ⟨cf, by omega, by have := cf.ubd (T := 6000) (by omega) bf; omega, fun t ht => by have := bf t ht; omega⟩
    have zfd : zf ∣ Nat.lcm zb zc := cf.dvd P20 ev
    have l3 : Nat.lcm za zf ≤ 400 := by
      have : Nat.lcm za zf ∣ Nat.lcm za zb := Nat.lcm_dvd (Nat.dvd_lcm_left _ _) (Nat.dvd_trans zfd l2d)
      have := Nat.le_of_dvd P0 this
      omega
    refine said_ok ca.big cF hM l3 ?_
    have i1 := resid (c := fS ns z r) ca.cv cb.cv (Nat.dvd_lcm_left za zb) (Nat.dvd_lcm_right za zb) P0 hg
    have i2 := cfn_iff (g := a) cb.cv T.cur.cv P20 (Nat.dvd_lcm_left zb zc) (Nat.dvd_lcm_right zb zc)
    by_cases q : Below a b (fS ns z r)
    · rw [Nab_t (i1.mpr q), Nab_t (i2.mpr q)]
    · rw [Nab_f (fun w => q (i1.mp w)), Nab_f (fun w => q (i2.mp w))]
  · refine .inl ⟨2, ?_, by omega⟩
    unfold outc; rw [if_neg c]; exact e_lenT _
end K04

set_option Elab.async false
set_option linter.all false
set_option maxRecDepth 100000
set_option maxHeartbeats 400000
/-! the residual -/
namespace K04
open PySem PySem.Spec PyProof.Rows L2 VL
section
variable {M : Store} {n : Nat}
theorem residual_ok {a b : Nat → Int} {za ha zb hb z h : Nat} {ua ub u : Int} (hM : Pl M) (hp : Pool M n) (ca : CurS a za ha ua) (cb : CurS b zb hb ub) (la : ha + za ≤ 100) (lb : hb + zb ≤ 100) (hP : Nat.lcm za zb ≤ 60) (hg : gain ua za (Nat.lcm za zb) ≤ gain ub zb (Nat.lcm za zb))
    (cd : Cv (dec a b (max ha hb + Nat.lcm za zb)) z h u) (ba : ∀ t, t ≤ 7000 → (a t).natAbs ≤ 1000000) (bb : ∀ t, t ≤ 7000 → (b t).natAbs ≤ 1000000) :
    ∃ M', ph_law_residual [.l n, .t (curD a za ha ua), .t (curD b zb hb ub), .t (.lst [whole a za ha ua, whole b zb hb ub]), .t (whole (dec a b (max ha hb + Nat.lcm za zb)) z h u)] M = .ok (.t (.bl true)) M' ∧ Pst n M M' := by
  unfold ph_law_residual
  rw [fnSem_ap]
  unfold m_law_residual
  have P0 : 1 ≤ Nat.lcm za zb := Nat.lcm_pos ca.cv.pos cb.cv.pos
  have bua := ca.ub
  have bub := cb.ub
  have per := fun t ht => dec_per (b := b) (n := max ha hb + Nat.lcm za zb) ca.cv (by omega) t ht
  have hz : z ∣ za := cd.dvd ca.cv.pos ⟨ha, ua, per⟩
  have hh : h ≤ ha := cd.head_le ca.cv.pos per
  have hzz : z ≤ za := Nat.le_of_dvd ca.cv.pos hz
  have bd := dec_bd (n := max ha hb + Nat.lcm za zb) (T := 6500) (B := 1000000) (by omega) (fun t ht => ba t (by omega)) (fun t ht => bb t (by omega))
  have bu := cd.ubd (T := 6500) (by omega) bd
  have cD : CurS (dec a b (max ha hb + Nat.lcm za zb)) z h u := ⟨cd, by omega, by omega, fun t ht => by have := bd t (by omega); omega⟩
  have e1 := deconv_ok (M := M) ca.cv cb.cv hM (by omega) (by omega) (by omega) (by omega) cd
  rw [if_neg (by omega), if_neg (by omega)] at e1
  obtain ⟨xs, ys, r1, r2, M1, e2, ⟨R1, l1⟩, ⟨R2, l2⟩, ⟨R3, l3⟩, p1⟩ := beside_ok hM hp cD.cv (by omega) (fun t ht => by have := bd t (by omega); omega) (by omega)
  have hM1 := p1.pl hM
  obtain ⟨Γ', M', e3, g1, x6, x7, x8, x9, x10, g2⟩ := for_all (ds := [T3 xs (z : Int) r1, T3 ys (z : Int) r2, T3 xs (z : Int) (u - 1)]) (t := tgN 6) (m0 := M1.length) (body := (vSeq (vAsg (vDef 1 ph_law_due (vCons (vVar 6) (vNil))) (tgN 7)) (vSeq (vAsg (vMake true 5 4 ph_Curve_init (vCons (vCall fList (vCons (vOp oIx (vVar 6) (vC (.int 0))) (vNil))) (vCons (vOp oIx (vVar 6) (vC (.int 1))) (vCons (vOp oIx (vVar 6) (vC (.int 2))) (vNil))))) (tgN 8)) (vSeq (vAsg (vDef 2 ph_law_below (vCons (vVar 4) (vCons (vVar 7) (vNil)))) (tgN 9)) (vSeq (vIfS (vNot (vTest (vDef 3 ph_law_said (vCons (vVar 5) (vCons (vVar 8) (vCons (vVar 9) (vNil))))))) (vRet (vC (.bl false))) (vNext)) (vSeq (vAsg (vDef 2 ph_law_folded (vCons (vOp oIx (vVar 3) (vC (.int 1))) (vCons (vVar 7) (vNil)))) (tgN 10)) (vSeq (vIfS (vTest (vOp oNe (vDef 2 ph_law_both (vCons (vVar 2) (vCons (vVar 8) (vNil)))) (vVar 10))) (vRet (vC (.bl false))) (vNext)) (vIfS (vAnd (vTest (vOp oEq (vCall fLen (vCons (vVar 10) (vNil))) (vC (.int 6)))) (vNot (vTest (vDef 3 ph_law_said (vCons (vVar 1) (vCons (vDef 2 ph_convolved (vCons (vVar 2) (vCons (vVar 8) (vNil)))) (vCons (vVar 9) (vNil)))))))) (vRet (vC (.bl false))) (vNext)))))))))
    (fun i Γ M' => M' = M1 ∧ ∃ x6 x7 x8 x9 x10, Γ = [some (.l n), some (.t (curD a za ha ua)), some (.t (curD b zb hb ub)), some (.t (.lst [whole a za ha ua, whole b zb hb ub])), some (.t (whole (dec a b (max ha hb + Nat.lcm za zb)) z h u)), some (.t (curD (dec a b (max ha hb + Nat.lcm za zb)) z h u)), x6, x7, x8, x9, x10])
    (fun i Γ M' ⟨g, _⟩ => by rw [g])
    (fun i d Γ M' hd ⟨g, x6, x7, x8, x9, x10, g2⟩ => by
      subst g g2
      obtain ⟨ns, r, rfl, R, l⟩ : ∃ ns r, d = T3 ns (z : Int) r ∧ Row 1000000000 ns (z : Int) r ∧ ns.length ≤ 310 := by
        have hd' := List.mem_of_getElem? hd
        simp only [List.mem_cons, List.not_mem_nil, or_false] at hd'
        rcases hd' with rfl | rfl | rfl
        · exact ⟨_, _, rfl, R1, l1⟩
        · exact ⟨_, _, rfl, R2, l2⟩
        · exact ⟨_, _, rfl, R3, l3⟩
      obtain ⟨cu, du, o, y, f1, f2, f3, f4, f5, f6, f7, f8⟩ := (res1 ca cb (by omega) (by omega) hP hg cD hz hM1 R l).facts
      generalize curD (dec a b (max ha hb + Nat.lcm za zb)) z h u = rest at *
      generalize whole (dec a b (max ha hb + Nat.lcm za zb)) z h u = due at *
      generalize whole a za ha ua = wa at *
      generalize whole b zb hb ub = wb at *
      generalize curD a za ha ua = one at *
      generalize curD b zb hb ub = two at *
      rw [turn_nm]
      rcases f8 with ⟨k, f8, hk⟩ | ⟨f8, cv, f9, f10⟩
      · have c5 : decide (k = 6) = false := decide_eq_false hk
        simp -implicitDefEqProofs [-List.append_assoc, f1, f2, f3, f4, f5, f6, f7, f8, c5, hk]
        exact ⟨_, _, ⟨rfl, rfl⟩, rfl, _, _, _, _, _, rfl⟩
      · simp -implicitDefEqProofs [-List.append_assoc, f1, f2, f3, f4, f5, f6, f7, f8, f9, f10]
        exact ⟨_, _, ⟨rfl, rfl⟩, rfl, _, _, _, _, _, rfl⟩)
    (Γ := [some (.l n), some (.t (curD a za ha ua)), some (.t (curD b zb hb ub)), some (.t (.lst [whole a za ha ua, whole b zb hb ub])), some (.t (whole (dec a b (max ha hb + Nat.lcm za zb)) z h u)), some (.t (curD (dec a b (max ha hb + Nat.lcm za zb)) z h u)), none, none, none, none, none]) (M := M1)
    ⟨rfl, none, none, none, none, none, rfl⟩
  subst g1 g2
  have es := shown_ok (M := M') (g := dec a b (max ha hb + Nat.lcm za zb)) (z := z) (h := h) (u := u) (by omega)
  have eq := eq_self (M := M') (shp_whole (dec a b (max ha hb + Nat.lcm za zb)) z h u)
  generalize curD (dec a b (max ha hb + Nat.lcm za zb)) z h u = rest at *
  generalize whole (dec a b (max ha hb + Nat.lcm za zb)) z h u = due at *
  simp -implicitDefEqProofs [-List.append_assoc, e1, e2, e3, es, eq, cutM_same p1.len]
  exact p1
end
end K04

set_option Elab.async false
set_option linter.all false
set_option maxRecDepth 100000
set_option maxHeartbeats 400000
/-! far periods -/
namespace K04
open PySem PySem.Spec PyProof.Rows L2 VL
theorem prime_dvd19 {z : Nat} (h : z ∣ 19) : z = 1 ∨ z = 19 := by
  have := Nat.le_of_dvd (by omega) h
  have key : ∀ z : Fin 20, z.val ∣ 19 → z.val = 1 ∨ z.val = 19 := by decide
  exact key ⟨z, by omega⟩ h
theorem prime_dvd23 {z : Nat} (h : z ∣ 23) : z = 1 ∨ z = 23 := by
  have := Nat.le_of_dvd (by omega) h
  have key : ∀ z : Fin 24, z.val ∣ 23 → z.val = 1 ∨ z.val = 23 := by decide
  exact key ⟨z, by omega⟩ h
/-- period 1 -/
theorem one_per {ns : List Int} {q h : Nat} {r u : Int} (q0 : 1 ≤ q) (q1 : q ≤ ns.length) (cv : Cv (fS ns q r) 1 h u) : r = (q : Int) * u := by
  have a := cv.mul (max h ns.length) (by omega) q
  have b := fS_ge (r := r) q0 q1 (t := max h ns.length + q) (by omega)
  rw [Nat.mul_one] at a
  rw [show max h ns.length + q - q = max h ns.length by omega] at b
  omega
theorem far19 {ns : List Int} {z h : Nat} {r u : Int} (T : Tol ns 19 r z h u) (hr : 5 ≤ r ∧ r ≤ 13) : z = 19 := by
  rcases prime_dvd19 T.dvd with rfl | e
  · have := one_per T.q0 T.q1 T.cur.cv
    omega
  · exact e
theorem far23 {ns : List Int} {z h : Nat} {r u : Int} (T : Tol ns 23 r z h u) (hr : -1 ≤ r ∧ r ≤ 1) (c : ∀ i (h : i < ns.length), i + 1 < ns.length → 0 ≤ ns[i] ∧ ns[i] ≤ 3) (d : ∀ h : ns.length - 1 < ns.length, 9 ≤ ns[ns.length - 1] ∧ ns[ns.length - 1] ≤ 12) : z = 23 := by
  rcases prime_dvd23 T.dvd with rfl | e
  · have e := one_per T.q0 T.q1 T.cur.cv
    have q1 := T.q1
    obtain rfl : u = 0 := by omega
    obtain rfl : r = 0 := by omega
    have per := fun t ht => fS_ge (r := 0) T.q0 T.q1 (t := t) ht
    have pm := per_mul (g := fS ns 23 0) (s := ns.length - 23) (p := 23) (r := 0) (fun t ht => by
      have := per (t + 23) (by omega)
      rw [this, show t + 23 - 23 = t by omega])
    have a := pm (ns.length - 1) (by omega) h
    have b := pm (ns.length - 2) (by omega) h
    have s := T.cur.cv.step (ns.length - 2 + h * 23) (by omega)
    rw [show ns.length - 2 + h * 23 + 1 = ns.length - 1 + h * 23 by omega, a, b, fS_lt (by omega), fS_lt (by omega)] at s
    have x := c (ns.length - 2) (by omega) (by omega)
    have y := d (by omega)
    omega
  · exact e
section
variable {M : Store} {n : Nat}
theorem far_asked {a b : Nat → Int} {za ha zb hb : Nat} {ua ub : Int} (hM : Pl M) (ca : CurS a za ha ua) (cb : CurS b zb hb ub) (la : ha + za ≤ 400) (lb : hb + zb ≤ 400) (hP : Nat.lcm za zb = 437) :
    ph_law_asked [.t (curD a za ha ua), .t (curD b zb hb ub)] M = .ok (.t (.tup [.str "long", .int 437])) M := by
  have bua := ca.ub
  have bub := cb.ub
  have per := fun t ht => dec_per (b := b) (n := max ha hb + Nat.lcm za zb) ca.cv (by omega) t ht
  obtain ⟨z, h, u, cd, l1, l2, l3⟩ := cv_full ca.cv.pos (by omega) (pow60 (by omega)) per
  have e := asked_ok ca.cv cb.cv hM la lb (by omega) (by omega) cd (by omega)
  rw [if_pos (by omega), hP] at e
  exact e
theorem far_ok (hM : Pl M) (hp : Pool M n) : ∃ M', ph_law_far [.l n] M = .ok (.t (.bl true)) M' ∧ Pst n M M' := by
  unfold ph_law_far
  rw [fnSem_ap]
  unfold m_law_far
  obtain ⟨ns, r, M1, e1, a1, a2, a3, a4, a5, a6, p1⟩ := long_ok (p := 19) hM hp (by omega) (by omega)
  obtain ⟨ms, s, M2, e2, b1, b2, b3, b4, b5, b6, p2⟩ := long_ok (p := 23) (p1.pl hM) p1.pool (by omega) (by omega)
  have p02 := p1.trans p2
  obtain ⟨v, M3, v0, v1, e3, p3⟩ := draw_at (m := 9) p2.pool (by omega) (by omega)
  have p03 := p02.trans p3
  have hM3 := p03.pl hM
  have R1 := Row.of_long (by omega) a1 a2 (by omega) a3 a4 ⟨a5, a6⟩
  have R1' : Row 100 ns ((19 : Nat) : Int) (5 + v) := ⟨R1.l0, R1.l1, R1.p0, R1.p1, R1.nb, by omega, by omega⟩
  have R2 := Row.of_long (by omega) b1 b2 (by omega) b3 b4 ⟨b5, b6⟩
  obtain ⟨z1, h1, u1, T1⟩ := tol_of R1' (by omega) (by omega) (by omega)
  obtain ⟨z2, h2, u2, T2⟩ := tol_of R2 (by omega) (by omega) (by omega)
  obtain rfl := far19 T1 (by omega)
  obtain rfl := far23 T2 (by omega) b3 b4
  have f1 : vMakeK true 5 4 ph_Curve_init [.t (.tup (ns.map .int)), .t (.int 19), .t (.int (5 + v))] M3 = .ok (.f (curD (fS ns 19 (5 + v)) 19 h1 u1)) M3 := T1.made M3 _ hM3 SeqW.tup
  have f2 : vMakeK true 5 4 ph_Curve_init [.t (.tup (ms.map .int)), .t (.int 23), .t (.int s)] M3 = .ok (.f (curD (fS ms 23 s) 23 h2 u2)) M3 := T2.made M3 _ hM3 SeqW.tup
  have l1 := T1.len
  have l2 := T2.len
  have f3 := far_asked hM3 T1.cur T2.cur (by omega) (by omega) (by decide)
  have f4 := far_asked hM3 T2.cur T1.cur (by omega) (by omega) (by decide)
  have sl : shp 3 (.tup [.str "long", .int 437]) = true := shp_long 437
  have f5 := ne_self (M := M3) (w := .t (.tup [.str "long", .int 437])) rfl sl
  have f6 := eq_self (M := M3) sl
  change ph_law_long [.l n, .t (.int 19)] M = .ok (.t (.tup [.lst (ns.map .int), .int 19, .int r])) M1 at e1
  change ph_law_long [.l n, .t (.int 23)] M1 = .ok (.t (.tup [.lst (ms.map .int), .int 23, .int s])) M2 at e2
  simp -implicitDefEqProofs [-List.append_assoc, e1, e2, e3, f1, f2, f3, f4, f5, f6, cutM_same p03.len]
  exact p03
end
end K04

set_option Elab.async false
set_option linter.all false
set_option maxRecDepth 100000
set_option maxHeartbeats 400000
/-! the law -/
namespace K04
open PySem PySem.Spec PyProof.Rows L2 VL
/-- what a pair answers -/
def PairF (ca cb wa wb : D) (za zb : Nat) (N : Store) : Prop := ∃ o : D, ph_law_rest [.t wa, .t wb] N = .ok (.t o) N ∧ ph_law_asked [.t ca, .t cb] N = .ok (.t o) N ∧ oNe (.t o) (.t o) N = .ok (.t (.bl false)) N ∧
  ((∃ k : Int, fLen [.t o] N = .ok (.t (.int k)) N ∧ k ≠ 6) ∨ (fLen [.t o] N = .ok (.t (.int 6)) N ∧ ph_law_common [.t (nD za), .t (nD zb)] N = .ok (.t (nD (Nat.lcm za zb))) N ∧
    (¬ ((Nat.lcm za zb : Nat) : Int) ≤ 60 ∨ (((Nat.lcm za zb : Nat) : Int) ≤ 60 ∧ ∃ N', ph_law_residual [.l 0, .t ca, .t cb, .t (.lst [wa, wb]), .t o] N = .ok (.t (.bl true)) N' ∧ Pst 0 N N'))))
theorem pair_ok {ns ms : List Int} {p q za ha zb hb : Nat} {r s ua ub : Int} {N : Store} (R : Row 100 ns (p : Int) r) (l1 : ns.length ≤ 35) (S : Row 100 ms (q : Int) s) (l2 : ms.length ≤ 35) (T1 : Tol ns p r za ha ua) (T2 : Tol ms q s zb hb ub) (hM : Pl N) (hp : Pool N 0) :
    PairF (curD (fS ns p r) za ha ua) (curD (fS ms q s) zb hb ub) (whole (fS ns p r) za ha ua) (whole (fS ms q s) zb hb ub) za zb N := by
  have m1 := T1.len
  have m2 := T2.len
  have bua := T1.cur.ub
  have bub := T2.cur.ub
  have P0 : 1 ≤ Nat.lcm za zb := Nat.lcm_pos T1.cur.cv.pos T2.cur.cv.pos
  have per := fun t ht => dec_per (b := fS ms q s) (n := max ha hb + Nat.lcm za zb) T1.cur.cv (by omega) t ht
  obtain ⟨z, h, u, cd, k1, k2, k3⟩ := cv_full T1.cur.cv.pos (by omega) (pow60 (by omega)) per
  have e1 := rest_ok T1.cur.cv T2.cur.cv hM (by omega) (by omega) (by omega) (by omega) cd
  have e2 := asked_ok T1.cur.cv T2.cur.cv hM (by omega) (by omega) (by omega) (by omega) cd (by omega)
  by_cases c1 : 400 < Nat.lcm za zb
  · rw [if_pos c1] at e1 e2
    exact ⟨_, e1, e2, ne_self rfl (shp_long _), .inl ⟨2, e_lenT _, by omega⟩⟩
  · rw [if_neg c1] at e1 e2
    by_cases c2 : gain ub zb (Nat.lcm za zb) < gain ua za (Nat.lcm za zb)
    · rw [if_pos c2] at e1 e2
      exact ⟨_, e1, e2, ne_self rfl (by simp [shp, shps]; decide +kernel), .inl ⟨1, e_lenT _, by omega⟩⟩
    · rw [if_neg c2] at e1 e2
      refine ⟨_, e1, e2, ne_self rfl (shp_whole _ _ _ _), .inr ⟨e_lenT _, lcommon_ok T1.cur.cv.pos T2.cur.cv.pos (by omega) (by omega), ?_⟩⟩
      by_cases c3 : Nat.lcm za zb ≤ 60
      · refine .inr ⟨by omega, ?_⟩
        refine residual_ok hM hp T1.cur T2.cur (by omega) (by omega) c3 (by omega) cd (fun t ht => ?_) (fun t ht => ?_)
        · have := fS_bd T1.q0 T1.q1 (by omega) R.nb ⟨R.r0, R.r1⟩ t
          omega
        · have := fS_bd T2.q0 T2.q1 (by omega) S.nb ⟨S.r0, S.r1⟩ t
          omega
      · exact .inl (by omega)
theorem law_ok {ns : List Int} (hn : ns.length ≤ 63) : ∃ M', ph_law [.t (.scr (ns.map .int))] [] = .ok (.t (.bl true)) M' := by
  unfold ph_law
  rw [fnSem_ap]
  unfold m_law
  obtain ⟨ps, hne, hnn, ep⟩ := pool_ok (M := []) Pl.nil hn
  have hM0 : Pl [.lst (ps.map .int)] := Pl.nil.lst
  have hp0 : Pool [.lst (ps.map .int)] 0 := ⟨ps, hne, hnn, rfl⟩
  obtain ⟨as, p, r, bs, q, s, M1, e1, ⟨R, l1⟩, ⟨S, l2⟩, p1⟩ := two_ok hM0 hp0
  obtain ⟨p, rfl⟩ : ∃ j : Nat, p = j := ⟨p.toNat, by have := R.p0; omega⟩
  obtain ⟨q, rfl⟩ : ∃ j : Nat, q = j := ⟨q.toNat, by have := S.p0; omega⟩
  obtain ⟨za, ha, ua, T1⟩ := tol_of R (by omega) (by omega) (by omega)
  obtain ⟨zb, hb, ub, T2⟩ := tol_of S (by omega) (by omega) (by omega)
  have hM1 := p1.pl hM0
  have len1 : M1.length = 1 := p1.len
  have pf1 := fun N (hN : Pl N) (hp : Pool N 0) => pair_ok (N := N) R l1 S l2 T1 T2 hN hp
  have pf2 := fun N (hN : Pl N) (hp : Pool N 0) => pair_ok (N := N) S l2 R l1 T2 T1 hN hp
  have c1 : ∀ x3 x5 x6 x7 x8 x9 x10, compL ⟨[T3 as (p : Int) r, T3 bs (q : Int) s], none⟩ (.nm 4) vYes (vMake true 5 4 ph_Curve_init (vCons (vCall fList (vCons (vOp oIx (vVar 4) (vC (.int 0))) (vNil))) (vCons (vOp oIx (vVar 4) (vC (.int 1))) (vCons (vOp oIx (vVar 4) (vC (.int 2))) (vNil))))) M1.length [some (.t (.scr (ns.map .int))), some (.l 0), some (.t (.lst [T3 as (p : Int) r, T3 bs (q : Int) s])), x3, none, x5, x6, x7, x8, x9, x10] [T3 as (p : Int) r, T3 bs (q : Int) s] (M1 ++ [.lst []]) = .ok (.f (.lst [curD (fS as p r) za ha ua, curD (fS bs q s) zb hb ub])) M1 := fun x3 x5 x6 x7 x8 x9 x10 =>
    comp_map (xs := [false, true]) (fun c => cond c (T3 bs (q : Int) s) (T3 as (p : Int) r)) (fun c => cond c (curD (fS bs q s) zb hb ub) (curD (fS as p r) za ha ua)) hM1 (by simp) (fun x acc _ => by
      have m1 := T1.made (M1 ++ [.lst acc]) _ (hM1.append Pl.nil.lst) SeqW.lst
      have m2 := T2.made (M1 ++ [.lst acc]) _ (hM1.append Pl.nil.lst) SeqW.lst
      cases x
      · refine ⟨.f (curD (fS as p r) za ha ua), ?_, rfl⟩
        simp -implicitDefEqProofs [-List.append_assoc, m1]
      · refine ⟨.f (curD (fS bs q s) zb hb ub), ?_, rfl⟩
        simp -implicitDefEqProofs [-List.append_assoc, m2])
  have c2 : ∀ x3 x5 x6 x7 x8 x9 x10, compL ⟨[T3 as (p : Int) r, T3 bs (q : Int) s], none⟩ (.nm 4) vYes (vDef 1 ph_law_due (vCons (vVar 4) (vNil))) M1.length [some (.t (.scr (ns.map .int))), some (.l 0), some (.t (.lst [T3 as (p : Int) r, T3 bs (q : Int) s])), x3, none, x5, x6, x7, x8, x9, x10] [T3 as (p : Int) r, T3 bs (q : Int) s] (M1 ++ [.lst []]) = .ok (.f (.lst [whole (fS as p r) za ha ua, whole (fS bs q s) zb hb ub])) M1 := fun x3 x5 x6 x7 x8 x9 x10 =>
    comp_map (xs := [false, true]) (fun c => cond c (T3 bs (q : Int) s) (T3 as (p : Int) r)) (fun c => cond c (whole (fS bs q s) zb hb ub) (whole (fS as p r) za ha ua)) hM1 (by simp) (fun x acc _ => by
      have m1 := due_ok (M := M1 ++ [.lst acc]) (hM1.append Pl.nil.lst) T1.q0 T1.q1 (by omega) T1.cur.cv
      have m2 := due_ok (M := M1 ++ [.lst acc]) (hM1.append Pl.nil.lst) T2.q0 T2.q1 (by omega) T2.cur.cv
      cases x
      · refine ⟨.t (whole (fS as p r) za ha ua), ?_, rfl⟩
        simp -implicitDefEqProofs [-List.append_assoc, m1]
      · refine ⟨.t (whole (fS bs q s) zb hb ub), ?_, rfl⟩
        simp -implicitDefEqProofs [-List.append_assoc, m2])
  have sh1 := fun M => shown_ok (M := M) (g := fS as p r) (z := za) (h := ha) (u := ua) (by have := T1.len; omega)
  have sh2 := fun M => shown_ok (M := M) (g := fS bs q s) (z := zb) (h := hb) (u := ub) (by have := T2.len; omega)
  have at1 := fun M => (due_at (fS as p r) za ha ua M).2.2.1
  have at2 := fun M => (due_at (fS bs q s) zb hb ub M).2.2.1
  have es := fun M => eq_self (M := M) (d := .lst [whole (fS as p r) za ha ua, whole (fS bs q s) zb hb ub]) (by rw [shp, shps, shps, shps, shp_wholeN 0, shp_wholeN 0]; rfl)
  generalize curD (fS as p r) za ha ua = ca at *
  generalize curD (fS bs q s) zb hb ub = cb at *
  generalize whole (fS as p r) za ha ua = wa at *
  generalize whole (fS bs q s) zb hb ub = wb at *
  have step : ∀ (k : Int) (c d w v : D) (x y : Nat) (N : Store) (x4 x6 x7 x8 x9 : Option Wv), L2.atI [ca, cb] k = some c → L2.atI [ca, cb] (1 - k) = some d → L2.atI [wa, wb] k = some w → L2.atI [wa, wb] (1 - k) = some v → (∀ M, oIx (.t w) (.t (.int 2)) M = .ok (.t (nD x)) M) → (∀ M, oIx (.t v) (.t (.int 2)) M = .ok (.t (nD y)) M) → PairF c d w v x y N → Pst 0 M1 N →
      ∃ Γ' M', turnR (tgN 6) (vSeq (vAsg (vOp oIx (vVar 3) (vVar 6)) (tgN 4)) (vSeq (vAsg (vOp oIx (vVar 3) (vOp oSub (vC (.int 1)) (vVar 6))) (tgN 7)) (vSeq (vAsg (vLst (vCons (vOp oIx (vVar 5) (vVar 6)) (vCons (vOp oIx (vVar 5) (vOp oSub (vC (.int 1)) (vVar 6))) (vNil)))) (tgN 8)) (vSeq (vAsg (vDef 2 ph_law_rest (vCons (vOp oIx (vVar 8) (vC (.int 0))) (vCons (vOp oIx (vVar 8) (vC (.int 1))) (vNil)))) (tgN 9)) (vSeq (vIfS (vOr (vTest (vOp oNe (vDef 2 ph_law_asked (vCons (vVar 4) (vCons (vVar 7) (vNil)))) (vVar 9))) (vTest (vOp oNe (vDef 2 ph_law_asked (vCons (vVar 4) (vCons (vVar 7) (vNil)))) (vVar 9)))) (vRet (vC (.bl false))) (vNext)) (vIfS (vAnd (vTest (vOp oEq (vCall fLen (vCons (vVar 9) (vNil))) (vC (.int 6)))) (vTest (vOp oLe (vDef 2 ph_law_common (vCons (vOp oIx (vOp oIx (vVar 8) (vC (.int 0))) (vC (.int 2))) (vCons (vOp oIx (vOp oIx (vVar 8) (vC (.int 1))) (vC (.int 2))) (vNil)))) (vC (.int 60))))) (vIfS (vNot (vTest (vDef 5 ph_law_residual (vCons (vVar 1) (vCons (vVar 4) (vCons (vVar 7) (vCons (vVar 8) (vCons (vVar 9) (vNil))))))))) (vRet (vC (.bl false))) (vNext)) (vNext))))))) (.int k) [some (.t (.scr (ns.map .int))), some (.l 0), some (.t (.lst [T3 as (p : Int) r, T3 bs (q : Int) s])), some (.t (.lst [ca, cb])), x4, some (.t (.lst [wa, wb])), x6, x7, x8, x9, none] N = .ok .nx Γ' M' ∧ (∃ x4 x6 x7 x8 x9 : Option Wv, Γ' = [some (.t (.scr (ns.map .int))), some (.l 0), some (.t (.lst [T3 as (p : Int) r, T3 bs (q : Int) s])), some (.t (.lst [ca, cb])), x4, some (.t (.lst [wa, wb])), x6, x7, x8, x9, none]) ∧ Pst 0 M1 M' := by
    intro k c d w v x y N x4 x6 x7 x8 x9 h1 h2 h3 h4 h5 h6 ⟨o, f1, f2, f3, f4⟩ pn
    rw [turn_nm]
    rcases f4 with ⟨j, f5, hj⟩ | ⟨f5, f6, f7 | ⟨f7, N', f8, pn'⟩⟩
    · have c5 : decide (j = 6) = false := decide_eq_false hj
      simp -implicitDefEqProofs [-List.append_assoc, h1, h2, h3, h4, h5, h6, f1, f2, f3, f5, hj, c5]
      exact ⟨_, _, ⟨rfl, rfl⟩, ⟨_, _, _, _, _, rfl⟩, pn⟩
    · have c5 : decide (((Nat.lcm x y : Nat) : Int) ≤ 60) = false := decide_eq_false f7
      simp -implicitDefEqProofs [-List.append_assoc, h1, h2, h3, h4, h5, h6, f1, f2, f3, f5, f6, f7, c5]
      exact ⟨_, _, ⟨rfl, rfl⟩, ⟨_, _, _, _, _, rfl⟩, pn⟩
    · have c5 : decide (((Nat.lcm x y : Nat) : Int) ≤ 60) = true := decide_eq_true f7
      simp -implicitDefEqProofs [-List.append_assoc, h1, h2, h3, h4, h5, h6, f1, f2, f3, f5, f6, f7, c5, f8]
      exact ⟨_, _, ⟨rfl, rfl⟩, ⟨_, _, _, _, _, rfl⟩, pn.trans pn'⟩
  obtain ⟨Γ', M2, e2, ⟨x4, x6, x7, x8, x9, g1⟩, p2⟩ := for_all (ds := rangeD 0 2) (t := tgN 6) (m0 := 1) (body := (vSeq (vAsg (vOp oIx (vVar 3) (vVar 6)) (tgN 4)) (vSeq (vAsg (vOp oIx (vVar 3) (vOp oSub (vC (.int 1)) (vVar 6))) (tgN 7)) (vSeq (vAsg (vLst (vCons (vOp oIx (vVar 5) (vVar 6)) (vCons (vOp oIx (vVar 5) (vOp oSub (vC (.int 1)) (vVar 6))) (vNil)))) (tgN 8)) (vSeq (vAsg (vDef 2 ph_law_rest (vCons (vOp oIx (vVar 8) (vC (.int 0))) (vCons (vOp oIx (vVar 8) (vC (.int 1))) (vNil)))) (tgN 9)) (vSeq (vIfS (vOr (vTest (vOp oNe (vDef 2 ph_law_asked (vCons (vVar 4) (vCons (vVar 7) (vNil)))) (vVar 9))) (vTest (vOp oNe (vDef 2 ph_law_asked (vCons (vVar 4) (vCons (vVar 7) (vNil)))) (vVar 9)))) (vRet (vC (.bl false))) (vNext)) (vIfS (vAnd (vTest (vOp oEq (vCall fLen (vCons (vVar 9) (vNil))) (vC (.int 6)))) (vTest (vOp oLe (vDef 2 ph_law_common (vCons (vOp oIx (vOp oIx (vVar 8) (vC (.int 0))) (vC (.int 2))) (vCons (vOp oIx (vOp oIx (vVar 8) (vC (.int 1))) (vC (.int 2))) (vNil)))) (vC (.int 60))))) (vIfS (vNot (vTest (vDef 5 ph_law_residual (vCons (vVar 1) (vCons (vVar 4) (vCons (vVar 7) (vCons (vVar 8) (vCons (vVar 9) (vNil))))))))) (vRet (vC (.bl false))) (vNext)) (vNext))))))))
    (fun i Γ M' => (∃ x4 x6 x7 x8 x9 : Option Wv, Γ = [some (.t (.scr (ns.map .int))), some (.l 0), some (.t (.lst [T3 as (p : Int) r, T3 bs (q : Int) s])), some (.t (.lst [ca, cb])), x4, some (.t (.lst [wa, wb])), x6, x7, x8, x9, none]) ∧ Pst 0 M1 M')
    (fun i Γ M' ⟨_, h⟩ => h.len.trans len1)
    (fun i d Γ M' hd ⟨⟨x4, x6, x7, x8, x9, g⟩, pn⟩ => by
      subst g
      have : d = .int 0 ∨ d = .int 1 := by
        obtain ⟨hi, rfl⟩ := rangeD_get0 hd
        have : i = 0 ∨ i = 1 := by omega
        rcases this with rfl | rfl
        · exact .inl rfl
        · exact .inr rfl
      rcases this with rfl | rfl
      · exact step 0 ca cb wa wb za zb M' x4 x6 x7 x8 x9 rfl rfl rfl rfl at1 at2 (pf1 M' (pn.pl hM1) pn.pool) pn
      · exact step 1 cb ca wb wa zb za M' x4 x6 x7 x8 x9 rfl rfl rfl rfl at2 at1 (pf2 M' (pn.pl hM1) pn.pool) pn)
    (Γ := [some (.t (.scr (ns.map .int))), some (.l 0), some (.t (.lst [T3 as (p : Int) r, T3 bs (q : Int) s])), some (.t (.lst [ca, cb])), none, some (.t (.lst [wa, wb])), none, none, none, none, none]) (M := M1)
    ⟨⟨none, none, none, none, none, rfl⟩, Pst.refl p1.pool⟩
  subst g1
  have hM2 := p2.pl hM1
  obtain ⟨M3, e3, p3⟩ := far_ok hM2 p2.pool
  have hM3 := p3.pl hM2
  have c3 : compL ⟨[ca, cb], none⟩ (.nm 10) vYes (vDef 1 ph_law_shown (vCons (vVar 10) (vNil))) M3.length [some (.t (.scr (ns.map .int))), some (.l 0), some (.t (.lst [T3 as (p : Int) r, T3 bs (q : Int) s])), some (.t (.lst [ca, cb])), x4, some (.t (.lst [wa, wb])), x6, x7, x8, x9, none] [ca, cb] (M3 ++ [.lst []]) = .ok (.f (.lst [wa, wb])) M3 :=
    comp_map (xs := [false, true]) (fun c => cond c cb ca) (fun c => cond c wb wa) hM3 (by simp) (fun x acc _ => by
      cases x
      · refine ⟨.t wa, ?_, rfl⟩
        simp -implicitDefEqProofs [-List.append_assoc, sh1]
      · refine ⟨.t wb, ?_, rfl⟩
        simp -implicitDefEqProofs [-List.append_assoc, sh2])
  simp -implicitDefEqProofs [-List.append_assoc, ep, e1, c1, c2]
  rw [kRange1_of (by omega) (by omega)]
  have r2 : Int.toNat 2 = 2 := rfl
  simp -implicitDefEqProofs [-List.append_assoc, len1, e2, e3, c3, es]
end K04

set_option Elab.async false
set_option linter.all false
set_option maxRecDepth 100000
set_option maxHeartbeats 0
namespace K04
open PySem PySem.Spec PyProof.Rows L2 VL
theorem run (w : World) : HandSHeadRun.RunEqI R qv hk ob 20000 names w := by
  unfold HandSHeadRun.RunEqI
  kernel_rfl
end K04

set_option Elab.async false
set_option linter.all false
set_option maxRecDepth 100000
set_option maxHeartbeats 0
namespace K04
open PySem PySem.Spec PyProof.Rows L2 VL
theorem facts {w : World} {K : PySem.W.Frag} {h : Heap} {mg : Str → Option Value} {f : Addr} (X : K.In h) (G : h.Ns mainGlobals mg) (hfa : mg ("law" : Str) = some (.ref f)) (c : SaysV file fa fn fx ex K) :
    ∃ fd : FuncData, (∀ (s : Shared) (v : Value), BindsTo s fd ⟨[v], []⟩ [("script", v)]) ∧ ∀ base : Heap, FnOk Pg w K mg base CX0 12 f fd ["script"] (fun vs H Q _ => spV (vc K) 1 ph_law vs H Q (fun _ _ _ => False)) := by
  have F : Fx K mg h := ⟨X, G, c⟩
  obtain ⟨fd, FD⟩ := F.c.d.def_ 44 (d := dd_law) rfl
  have e := hfa.symm.trans (He.glo_ok F.X F.G (F.c.d.fact 89 (f := .glo "law") rfl))
  cases e
  have b := FunD.bindsA (ps := ["script"]) FD fun _ _ _ _ _ _ us hl => match us, hl with | [_], _ => rfl
  exact ⟨fd, fun s v => b s [v] rfl, fun base => fnok_noX (fn_ok FD sc_law rfl rfl (fun cdv A outer s H E hr => der_law F hr))⟩
end K04
open PySem PySem.W PySem.Calls PyProof.Rows
theorem K04_holds (ht : ∀ ns : List Int, ns.length ≤ 63 → ∃ M', K04.ph_law [.t (.scr (ns.map .int))] [] = .ok (.t (.bl true)) M') : PySem.Challenge.rw_promisedflows_k04_deconvolution_residual.Holds := by
  w_on; o_law
  refine HandSHeadRun.head_imp (r := OpenLaw.row PySem.Challenge.rw_promisedflows_k04_deconvolution_residual) (q := K04.qv) (H := K04.hk) (ob := K04.ob) (M := 20000) (loose := K04.names) (d := HandSHeadRun.topDef (OpenLaw.row PySem.Challenge.rw_promisedflows_k04_deconvolution_residual).prog 62) (kwd := []) K04.ob_eq K04.run
    (by kernel_rfl) (by kernel_rfl) (by kernel_rfl) (by rfl) (by first | assumption | decide +kernel) (by decide +kernel) ⟨rfl, rfl, rfl, rfl, rfl, by decide +kernel⟩ ?hw ?hc
  case hw => w_witness2
  case hc =>
    refine L2.walk_ofE (l := PySem.Challenge.rw_promisedflows_k04_deconvolution_residual) (n := 63) (k := 12) (x := "script") (CX := L2.CX0) rfl (by decide) (by kernel_rfl) ⟨rfl, by decide, by decide⟩ ?F (fun _ _ _ _ z => z)
    intro w mg fa h Y G hmg0
    obtain ⟨K, KX, c⟩ := Y
    have hmg : mg ("law" : PySem.Str) = some (.ref fa) := by
      have e : (HandSHeadRun.topDef (OpenLaw.row PySem.Challenge.rw_promisedflows_k04_deconvolution_residual).prog 62).name = ("law" : PySem.Str) := by kernel_rfl
      rw [← e]
      exact hmg0
    obtain ⟨fd, hb, hF⟩ := K04.facts (w := w) KX G hmg c
    refine ⟨K, fd, _, KX, hb, fun H a ns hl _ hS => ?_, fun base _ _ => hF base⟩
    obtain ⟨M', hM⟩ := ht ns hl
    exact VL.law_sp (c := K04.vc K) hS hM

open PySem PySem.W
theorem PySem.Challenge.cw_promisedflows_k04_deconvolution_residual_holds : PySem.Challenge.rw_promisedflows_k04_deconvolution_residual.Holds := by
  exact K04_holds fun ns h => K04.law_ok h
