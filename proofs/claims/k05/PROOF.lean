import PyProof.Rows.All
import Wide.All
import OpenK.AllK
import Wide.FinOn
import HandS.ForMost
import HandS.Exc
import HandS.TryOnly
import HandS.TryMany
import HandS.ExcOwn
import HandS.WordsExc
import HandS.CallSlots
import HandS.Defaults
import HandS.IsInst
import HandS.SortInts
import HandS.SortKw
import HandS.Conv
import HandS.More
import HandS.DictComp
import HandS.ListItems
import HandS.Flow
import HandS.HeadHook1
import HandS.Style
import KE.KStateDown
import HandS.Head0
import HandS.Head1
import HandS.Head2
import HandS.HeadEnd
import HandS.HeadHook2
import HandS.HeadWalk
import PySem.Challenge.RW_ringlaps_k05_count_orders
set_option Elab.async false
set_option linter.all false
set_option maxRecDepth 100000
set_option maxHeartbeats 4000000
/-! The value layer: what a def computes, as a plain function over trees of data, and why the machine does the same. -/
namespace VL
open PySem PySem.Spec L2
open PyProof.Rows hiding St

/-! ### data -/
inductive D where
  | non | bl (b : Bool) | int (i : Int) | str (x : Str)
  | ins (k : Nat)
  | frz (xs : List D) | lst (xs : List D) | tup (xs : List D) | dct (kvs : List (Key × D))
/-- what a place of one's own holds -/
inductive C where
  | lst (xs : List D) | dct (kvs : List (Key × D))
/-- an operand: data that never changes; a new object that nobody else has; the frame's own i-th name; the caller's n-th cell; the j-th cell of the k-th instance -/
inductive R where
  | val (d : D) | tmp (c : C) | var (i : Nat) | pc (n : Nat) | ic (k j : Nat)
inductive S where
  | no | val (d : D) | own (c : C) | lck (c : C) | pc (n : Nat) | ic (k j : Nat)
inductive F where
  | val (d : D) | cell (j : Nat)
structure Inst where
  cls : Str
  fs : List (Str × F)
  cells : List C
structure FS where
  env : List S
  pcs : List C
  g : List Inst
structure Ex where
  cls : Str
  fs : List (Str × D)
inductive Res (α : Type) where
  | stuck | ok (a : α) (s : FS) | exc (e : Ex) (s : FS)
abbrev M (α : Type) := FS → Res α
inductive SRes where
  | stuck | next (s : FS) | brk (s : FS) | cont (s : FS) | ret (r : R) (s : FS) | exc (e : Ex) (s : FS)
abbrev SM := FS → SRes
inductive DRes where
  | stuck | ok (r : R) (cs : List C) (g : List Inst) | exc (e : Ex) (cs : List C) (g : List Inst)
abbrev Den := List R → List C → List Inst → DRes

def Res.bind {α β : Type} (x : Res α) (f : α → M β) : Res β := match x with
  | .stuck => .stuck
  | .ok a s => f a s
  | .exc e s => .exc e s

/-! ### how data stands in the heap -/
inductive Own where
  | slot (i : Nat) | pc (n : Nat) | ins (k : Nat) | idc (k : Nat) | ic (k j : Nat)
  deriving DecidableEq
structure Mp where
  P : Hp
  L : Hp
  O : Addr → Option Own
  al : Nat → Addr
  n : Nat
  io : Nat → Addr
  dx : Nat → Addr
  nc : Nat → Nat
  ic : Nat → Nat → Addr
  lks : Nat → Option Addr

mutual
inductive RepD (K : PySem.W.Frag) (P : Hp) (io : Nat → Addr) (n : Nat) : V → D → Prop
  | non : RepD K P io n .non .non
  | bl {b} : RepD K P io n (.bl b) (.bl b)
  | int {i} : RepD K P io n (.int i) (.int i)
  | str {x} : RepD K P io n (.str x) (.str x)
  | ins {k} : k < n → RepD K P io n (.ref (io k)) (.ins k)
  | frz {a vs ds} : SqL K P a vs → RepDs K P io n vs ds → RepD K P io n (.ref a) (.frz ds)
  | lst {a vs ds} : P a = some (.lst vs) → RepDs K P io n vs ds → RepD K P io n (.ref a) (.lst ds)
  | tup {a vs ds} : P a = some (.tup vs) → RepDs K P io n vs ds → RepD K P io n (.ref a) (.tup ds)
  | dct {a kvs kds} : P a = some (.dK kvs) → RepKs K P io n kvs kds → RepD K P io n (.ref a) (.dct kds)
inductive RepDs (K : PySem.W.Frag) (P : Hp) (io : Nat → Addr) (n : Nat) : List V → List D → Prop
  | nil : RepDs K P io n [] []
  | cons {v d vs ds} : RepD K P io n v d → RepDs K P io n vs ds → RepDs K P io n (v :: vs) (d :: ds)
inductive RepKs (K : PySem.W.Frag) (P : Hp) (io : Nat → Addr) (n : Nat) : List (Key × V) → List (Key × D) → Prop
  | nil : RepKs K P io n [] []
  | cons {k v d vs ds} : RepD K P io n v d → RepKs K P io n vs ds → RepKs K P io n ((k, v) :: vs) ((k, d) :: ds)
end

theorem sqL_mono {K : PySem.W.Frag} {P P' : Hp} (h : ∀ a o, P a = some o → P' a = some o) {a : Addr} {vs : List V} (x : SqL K P a vs) : SqL K P' a vs := by
  rcases x with (x | ⟨o, x⟩) | x
  · exact .inl (.inl (h _ _ x))
  · exact .inl (.inr ⟨o, h _ _ x⟩)
  · exact .inr x

section
variable {K : PySem.W.Frag} {P P' : Hp} {io io' : Nat → Addr} {n n' : Nat}
mutual
theorem RepD.mono (h1 : ∀ a o, P a = some o → P' a = some o) (h2 : n ≤ n') (h3 : ∀ k, k < n → io' k = io k) : ∀ {v d}, RepD K P io n v d → RepD K P' io' n' v d
  | _, _, .non => .non
  | _, _, .bl => .bl
  | _, _, .int => .int
  | _, _, .str => .str
  | _, _, .ins (k := k) hk => by rw [← h3 k hk]; exact .ins (Nat.lt_of_lt_of_le hk h2)
  | _, _, .frz a r => .frz (sqL_mono h1 a) (RepDs.mono h1 h2 h3 r)
  | _, _, .lst a r => .lst (h1 _ _ a) (RepDs.mono h1 h2 h3 r)
  | _, _, .tup a r => .tup (h1 _ _ a) (RepDs.mono h1 h2 h3 r)
  | _, _, .dct a r => .dct (h1 _ _ a) (RepKs.mono h1 h2 h3 r)
theorem RepDs.mono (h1 : ∀ a o, P a = some o → P' a = some o) (h2 : n ≤ n') (h3 : ∀ k, k < n → io' k = io k) : ∀ {v d}, RepDs K P io n v d → RepDs K P' io' n' v d
  | _, _, .nil => .nil
  | _, _, .cons a r => .cons (RepD.mono h1 h2 h3 a) (RepDs.mono h1 h2 h3 r)
theorem RepKs.mono (h1 : ∀ a o, P a = some o → P' a = some o) (h2 : n ≤ n') (h3 : ∀ k, k < n → io' k = io k) : ∀ {v d}, RepKs K P io n v d → RepKs K P' io' n' v d
  | _, _, .nil => .nil
  | _, _, .cons a r => .cons (RepD.mono h1 h2 h3 a) (RepKs.mono h1 h2 h3 r)
end
theorem RepDs.length : ∀ {vs : List V} {ds : List D}, RepDs K P io n vs ds → vs.length = ds.length
  | _, _, .nil => rfl
  | _, _, .cons _ r => by simp only [List.length_cons, RepDs.length r]
theorem RepDs.append : ∀ {vs ws : List V} {ds es : List D}, RepDs K P io n vs ds → RepDs K P io n ws es → RepDs K P io n (vs ++ ws) (ds ++ es)
  | _, _, _, _, .nil, q => q
  | _, _, _, _, .cons a r, q => .cons a (RepDs.append r q)
theorem RepDs.get : ∀ {vs : List V} {ds : List D} {i : Nat} {d : D}, RepDs K P io n vs ds → ds[i]? = some d → ∃ v, vs[i]? = some v ∧ RepD K P io n v d
  | _, _, _, _, .nil, e => by simp at e
  | _, _, 0, d, .cons (v := v) a r, e => by
    simp only [List.getElem?_cons_zero, Option.some.injEq] at e
    subst e
    exact ⟨v, rfl, a⟩
  | _, _, i + 1, d, .cons a r, e => by
    simp only [List.getElem?_cons_succ] at e ⊢
    exact RepDs.get r e
theorem RepDs.getV : ∀ {vs : List V} {ds : List D} {i : Nat} {v : V}, RepDs K P io n vs ds → vs[i]? = some v → ∃ d, ds[i]? = some d ∧ RepD K P io n v d
  | _, _, _, _, .nil, e => by simp at e
  | _, _, 0, _, .cons (d := d) a r, e => by
    simp only [List.getElem?_cons_zero, Option.some.injEq] at e
    subst e
    exact ⟨d, rfl, a⟩
  | _, _, i + 1, _, .cons a r, e => by
    simp only [List.getElem?_cons_succ] at e ⊢
    exact RepDs.getV r e
theorem RepDs.set {v : V} {d : D} (q : RepD K P io n v d) : ∀ {vs : List V} {ds : List D} (i : Nat), RepDs K P io n vs ds → RepDs K P io n (vs.set i v) (ds.set i d)
  | _, _, _, .nil => .nil
  | _, _, 0, .cons a r => .cons q r
  | _, _, i + 1, .cons a r => .cons a (RepDs.set q i r)
theorem RepDs.drop : ∀ {vs : List V} {ds : List D} (i : Nat), RepDs K P io n vs ds → RepDs K P io n (vs.drop i) (ds.drop i)
  | _, _, 0, q => q
  | _, _, i + 1, .nil => .nil
  | _, _, i + 1, .cons a r => RepDs.drop i r
theorem RepDs.take : ∀ {vs : List V} {ds : List D} (i : Nat), RepDs K P io n vs ds → RepDs K P io n (vs.take i) (ds.take i)
  | _, _, 0, q => .nil
  | _, _, i + 1, .nil => .nil
  | _, _, i + 1, .cons a r => .cons a (RepDs.take i r)
theorem RepKs.length : ∀ {vs : List (Key × V)} {ds : List (Key × D)}, RepKs K P io n vs ds → vs.length = ds.length
  | _, _, .nil => rfl
  | _, _, .cons _ r => by simp only [List.length_cons, RepKs.length r]
theorem RepKs.keys : ∀ {vs : List (Key × V)} {ds : List (Key × D)}, RepKs K P io n vs ds → vs.map (·.1) = ds.map (·.1)
  | _, _, .nil => rfl
  | _, _, .cons _ r => by simp only [List.map_cons, RepKs.keys r]
end

abbrev RD (K : PySem.W.Frag) (m : Mp) : V → D → Prop := RepD K m.P m.io m.n
abbrev RDs (K : PySem.W.Frag) (m : Mp) : List V → List D → Prop := RepDs K m.P m.io m.n
abbrev RKs (K : PySem.W.Frag) (m : Mp) : List (Key × V) → List (Key × D) → Prop := RepKs K m.P m.io m.n
/-- an object holds this -/
def RepC (K : PySem.W.Frag) (m : Mp) (o : HO) : C → Prop
  | .lst ds => ∃ vs, o = .lst vs ∧ RDs K m vs ds
  | .dct ds => ∃ vs, o = .dK vs ∧ RKs K m vs ds

structure Mp.le (m m' : Mp) : Prop where
  P : ∀ a o, m.P a = some o → m'.P a = some o
  L : m'.L = m.L
  al : m'.al = m.al
  n : m.n ≤ m'.n
  io : ∀ k, k < m.n → m'.io k = m.io k
  nc : ∀ k, k < m.n → m.nc k ≤ m'.nc k
  ic : ∀ k j, k < m.n → j < m.nc k → m'.ic k j = m.ic k j
  lks : m'.lks = m.lks
theorem Mp.le.refl (m : Mp) : m.le m := ⟨fun _ _ h => h, rfl, rfl, Nat.le_refl _, fun _ _ => rfl, fun _ _ => Nat.le_refl _, fun _ _ _ _ => rfl, rfl⟩
theorem Mp.le.trans {a b c : Mp} (x : a.le b) (y : b.le c) : a.le c :=
  ⟨fun p o h => y.P p o (x.P p o h), y.L.trans x.L, y.al.trans x.al, Nat.le_trans x.n y.n, fun k h => (y.io k (Nat.lt_of_lt_of_le h x.n)).trans (x.io k h),
    fun k h => Nat.le_trans (x.nc k h) (y.nc k (Nat.lt_of_lt_of_le h x.n)), fun k j h h' => (y.ic k j (Nat.lt_of_lt_of_le h x.n) (Nat.lt_of_lt_of_le h' (x.nc k h))).trans (x.ic k j h h'), y.lks.trans x.lks⟩
theorem RD.mono {K : PySem.W.Frag} {m m' : Mp} (h : m.le m') {v d} (r : RD K m v d) : RD K m' v d := RepD.mono h.P h.n h.io r
theorem RDs.mono {K : PySem.W.Frag} {m m' : Mp} (h : m.le m') {v d} (r : RDs K m v d) : RDs K m' v d := RepDs.mono h.P h.n h.io r
theorem RKs.mono {K : PySem.W.Frag} {m m' : Mp} (h : m.le m') {v d} (r : RKs K m v d) : RKs K m' v d := RepKs.mono h.P h.n h.io r
/-- m' knows at least what m knows of data -/
structure Mp.kn (m m' : Mp) : Prop where
  P : ∀ a o, m.P a = some o → m'.P a = some o
  n : m.n ≤ m'.n
  io : ∀ k, k < m.n → m'.io k = m.io k
theorem Mp.le.kn {m m' : Mp} (h : m.le m') : m.kn m' := ⟨h.P, h.n, h.io⟩
theorem RepC.mono {K : PySem.W.Frag} {m m' : Mp} (h : m.kn m') {o c} (r : RepC K m o c) : RepC K m' o c := by
  cases c with
  | lst ds => obtain ⟨vs, e, r⟩ := r; exact ⟨vs, e, RepDs.mono h.P h.n h.io r⟩
  | dct ds => obtain ⟨vs, e, r⟩ := r; exact ⟨vs, e, RepKs.mono h.P h.n h.io r⟩

def CellOk (K : PySem.W.Frag) (m : Mp) (H : Hp) (w : Own) (a : Addr) (c : C) : Prop := m.O a = some w ∧ ∃ o, H a = some o ∧ RepC K m o c
def SlotOk (K : PySem.W.Frag) (m : Mp) (σ : St) (H : Hp) (i : Nat) : S → Prop
  | .no => True
  | .val d => ∃ v, σ[i]? = some (some v) ∧ RD K m v d
  | .own c => ∃ a, σ[i]? = some (some (.ref a)) ∧ CellOk K m H (.slot i) a c
  | .lck c => ∃ a, σ[i]? = some (some (.ref a)) ∧ CellOk K m H (.slot i) a c ∧ m.lks i = some a
  | .pc n => σ[i]? = some (some (.ref (m.al n)))
  | .ic k j => σ[i]? = some (some (.ref (m.ic k j))) ∧ k < m.n ∧ j < m.nc k
/-- one field -/
def RepF1 (K : PySem.W.Frag) (m : Mp) (k : Nat) (v : V) : F → Prop
  | .val d => RD K m v d
  | .cell j => v = .ref (m.ic k j) ∧ j < m.nc k
def RepF (K : PySem.W.Frag) (m : Mp) (k : Nat) : List (Str × V) → List (Str × F) → Prop
  | [], [] => True
  | (f, v) :: vs, (g, x) :: fs => f = g ∧ RepF1 K m k v x ∧ RepF K m k vs fs
  | _, _ => False
def InstOk (K : PySem.W.Frag) (m : Mp) (H : Hp) (k : Nat) (I : Inst) : Prop :=
  m.O (m.io k) = some (.ins k) ∧ m.O (m.dx k) = some (.idc k) ∧ (∃ fs, H (m.io k) = some (.ins (He.ga K I.cls) (m.dx k) fs) ∧ RepF K m k fs I.fs) ∧
  H (m.dx k) = some (.own (m.io k)) ∧ m.nc k = I.cells.length ∧ ∀ j c, I.cells[j]? = some c → CellOk K m H (.ic k j) (m.ic k j) c
theorem InstOk.cells {K : PySem.W.Frag} {m : Mp} {H : Hp} {k : Nat} {I : Inst} (x : InstOk K m H k I) : ∀ j c, I.cells[j]? = some c → CellOk K m H (.ic k j) (m.ic k j) c := x.2.2.2.2.2
theorem RepF.mono {K : PySem.W.Frag} {m m' : Mp} {k : Nat} (h : m.kn m') (h1 : m.nc k ≤ m'.nc k) (h2 : ∀ j, j < m.nc k → m'.ic k j = m.ic k j) : ∀ {vs : List (Str × V)} {fs : List (Str × F)}, RepF K m k vs fs → RepF K m' k vs fs
  | [], [], _ => trivial
  | (f, v) :: vs, (g, .val d) :: fs, r => ⟨r.1, RepD.mono h.P h.n h.io r.2.1, RepF.mono h h1 h2 r.2.2⟩
  | (f, v) :: vs, (g, .cell j) :: fs, r => ⟨r.1, ⟨by rw [h2 j r.2.1.2]; exact r.2.1.1, Nat.lt_of_lt_of_le r.2.1.2 h1⟩, RepF.mono h h1 h2 r.2.2⟩
  | [], _ :: _, r => r.elim
  | _ :: _, [], r => r.elim
theorem CellOk.mono {K : PySem.W.Frag} {m m' : Mp} {H H' : Hp} {w : Own} {a : Addr} {c : C} (h : m.kn m') (ho : m'.O a = some w) (hh : H' a = H a) (x : CellOk K m H w a c) : CellOk K m' H' w a c := by
  obtain ⟨_, o, e, r⟩ := x
  exact ⟨ho, o, hh.trans e, r.mono h⟩
/-- an instance stays -/
theorem InstOk.mono {K : PySem.W.Frag} {m m' : Mp} {H H' : Hp} {k : Nat} {I : Inst} (h : m.kn m') (e1 : m'.io k = m.io k) (e2 : m'.dx k = m.dx k) (e3 : m'.nc k = m.nc k) (e4 : ∀ j, j < m.nc k → m'.ic k j = m.ic k j)
    (o1 : m'.O (m.io k) = some (.ins k)) (o2 : m'.O (m.dx k) = some (.idc k)) (o3 : ∀ j, j < m.nc k → m'.O (m.ic k j) = some (.ic k j))
    (h1 : H' (m.io k) = H (m.io k)) (h2 : H' (m.dx k) = H (m.dx k)) (h3 : ∀ j, j < m.nc k → H' (m.ic k j) = H (m.ic k j)) (x : InstOk K m H k I) : InstOk K m' H' k I := by
  obtain ⟨a, b, ⟨fs, c, r⟩, d, n, cs⟩ := x
  refine ⟨by rw [e1]; exact o1, by rw [e2]; exact o2, ⟨fs, by rw [e1, e2, h1]; exact c, r.mono h (Nat.le_of_eq e3.symm) e4⟩, by rw [e1, e2, h2]; exact d, by rw [e3]; exact n, fun j c q => ?_⟩
  have hj : j < m.nc k := by
    rw [n]
    exact (List.getElem?_eq_some_iff.mp q).1
  rw [e4 j hj]
  exact (cs j c q).mono h (o3 j hj) (h3 j hj)
structure Rel (K : PySem.W.Frag) (m : Mp) (σ : St) (H : Hp) (s : FS) : Prop where
  pers : ∀ a o, m.P a = some o → H a = some o
  lock : ∀ a o, m.L a = some o → H a = some o
  oh : ∀ a w, m.O a = some w → H a ≠ none
  op : ∀ a w, m.O a = some w → m.P a = none
  ol : ∀ a w, m.O a = some w → m.L a = none
  lp : ∀ a o, m.L a = some o → m.P a = none
  len : s.env.length = σ.length
  env : ∀ i x, s.env[i]? = some x → SlotOk K m σ H i x
  cells : ∀ n c, s.pcs[n]? = some c → CellOk K m H (.pc n) (m.al n) c
  cnt : m.n = s.g.length
  ins : ∀ k I, s.g[k]? = some I → InstOk K m H k I

/-! ### operands -/
def RepR (K : PySem.W.Frag) (m : Mp) (σ : St) (H : Hp) (v : V) : R → Prop
  | .val d => RD K m v d
  | .tmp c => ∃ a, v = .ref a ∧ m.O a = none ∧ m.P a = none ∧ m.L a = none ∧ ∃ o, H a = some o ∧ RepC K m o c
  | .var i => σ[i]? = some (some v)
  | .pc n => v = .ref (m.al n)
  | .ic k j => v = .ref (m.ic k j) ∧ k < m.n ∧ j < m.nc k
def cont (s : FS) : R → Option C
  | .tmp c => some c
  | .var i => match s.env[i]? with
    | some (.own c) => some c
    | some (.lck c) => some c
    | _ => none
  | .pc n => s.pcs[n]?
  | .ic k j => match s.g[k]? with
    | some I => I.cells[j]?
    | none => none
  | .val (.lst xs) => some (.lst xs)
  | .val (.dct kvs) => some (.dct kvs)
  | .val _ => none
section
variable {K : PySem.W.Frag} {m m' : Mp} {σ : St} {H : Hp} {s : FS} {v : V} {r : R} {c : C}
theorem cont_ok (x : Rel K m σ H s) (p : RepR K m σ H v r) (e : cont s r = some c) : ∃ a o, v = .ref a ∧ H a = some o ∧ RepC K m o c := by
  cases r with
  | val d =>
    cases d with
    | lst xs =>
      cases e
      cases p with
      | lst ha r => exact ⟨_, _, rfl, x.pers _ _ ha, _, rfl, r⟩
    | dct kvs =>
      cases e
      cases p with
      | dct ha r => exact ⟨_, _, rfl, x.pers _ _ ha, _, rfl, r⟩
    | _ => cases e
  | tmp c' =>
    cases e
    obtain ⟨a, rfl, _, _, _, o, ho, rc⟩ := p
    exact ⟨a, o, rfl, ho, rc⟩
  | var i =>
    simp only [cont] at e
    cases q : s.env[i]? with
    | none => rw [q] at e; cases e
    | some z =>
      rw [q] at e
      cases z with
      | own c' =>
        cases e
        obtain ⟨a, ha, _, o, ho, rc⟩ := x.env i _ q
        have p' : σ[i]? = some (some v) := p
        rw [ha] at p'
        cases p'
        exact ⟨a, o, rfl, ho, rc⟩
      | lck c' =>
        cases e
        obtain ⟨a, ha, ⟨_, o, ho, rc⟩, _⟩ := x.env i _ q
        have p' : σ[i]? = some (some v) := p
        rw [ha] at p'
        cases p'
        exact ⟨a, o, rfl, ho, rc⟩
      | _ => cases e
  | pc n =>
    obtain ⟨_, o, ho, rc⟩ := x.cells n c e
    have p' : v = .ref (m.al n) := p
    exact ⟨_, o, p', ho, rc⟩
  | ic k j =>
    simp only [cont] at e
    cases q : s.g[k]? with
    | none => rw [q] at e; cases e
    | some I =>
      rw [q] at e
      obtain ⟨_, o, ho, rc⟩ := (x.ins k I q).cells j c e
      obtain ⟨p', _, _⟩ := p
      exact ⟨_, o, p', ho, rc⟩
/-- the pending new object is kept out of everyone's hands -/
def lk (m : Mp) (v : V) (r : R) (H : Hp) : Mp := match r, v with
  | .tmp _, .ref a => { m with L := fun b => if b = a then H a else m.L b }
  | _, _ => m
def Mp.setL (m : Mp) (L : Hp) : Mp := { m with L := L }
theorem insL (x : Rel K m σ H s) {L : Hp} (k : Nat) (I : Inst) (e : s.g[k]? = some I) : InstOk K (m.setL L) H k I :=
  InstOk.mono (m := m) (m' := m.setL L) ⟨fun _ _ h => h, Nat.le_refl _, fun _ _ => rfl⟩ rfl rfl rfl (fun _ _ => rfl) (x.ins k I e).1 (x.ins k I e).2.1 (fun j hj => by
    obtain ⟨_, _, _, _, n, cs⟩ := x.ins k I e
    have hj' : j < I.cells.length := by rw [← n]; exact hj
    exact (cs j _ (List.getElem?_eq_getElem hj')).1) rfl rfl (fun _ _ => rfl) (x.ins k I e)
theorem Rel.setL (x : Rel K m σ H s) {L : Hp} (h : ∀ a o, L a = some o → m.L a = some o) : Rel K (m.setL L) σ H s := by
  refine ⟨x.pers, fun a o e => x.lock a o (h a o e), x.oh, x.op, fun a w e => ?_, fun a o e => x.lp a o (h a o e), x.len, x.env, x.cells, x.cnt, insL x⟩
  show L a = none
  cases q : L a with
  | none => rfl
  | some o =>
    have := x.ol a w e
    rw [h a o q] at this
    cases this
theorem Rel.lk (x : Rel K m σ H s) (p : RepR K m σ H v r) : Rel K (lk m v r H) σ H s := by
  cases r with
  | tmp c =>
    obtain ⟨a, rfl, h1, h2, h3, o, ho, rc⟩ := p
    refine ⟨x.pers, fun b u e => ?_, x.oh, x.op, fun b w e => ?_, fun b u e => ?_, x.len, x.env, x.cells, x.cnt, insL x⟩
    · have e' : (if b = a then H a else m.L b) = some u := e
      by_cases hb : b = a
      · rw [if_pos hb] at e'; rw [hb]; exact e'
      · rw [if_neg hb] at e'; exact x.lock b u e'
    · show (if b = a then H a else m.L b) = none
      by_cases hb : b = a
      · have e' : m.O b = some w := e
        rw [hb, h1] at e'; cases e'
      · rw [if_neg hb]; exact x.ol b w e
    · have e' : (if b = a then H a else m.L b) = some u := e
      by_cases hb : b = a
      · rw [hb]; exact h2
      · rw [if_neg hb] at e'; exact x.lp b u e'
  | _ => exact x
theorem lk_O : (lk m v r H).O = m.O := by cases r <;> cases v <;> rfl
theorem lk_P : (lk m v r H).P = m.P := by cases r <;> cases v <;> rfl
theorem lk_al : (lk m v r H).al = m.al := by cases r <;> cases v <;> rfl
theorem lk_n : (lk m v r H).n = m.n := by cases r <;> cases v <;> rfl
theorem lk_io : (lk m v r H).io = m.io := by cases r <;> cases v <;> rfl
theorem lk_nc : (lk m v r H).nc = m.nc := by cases r <;> cases v <;> rfl
theorem lk_ic : (lk m v r H).ic = m.ic := by cases r <;> cases v <;> rfl
theorem lk_lks : (lk m v r H).lks = m.lks := by cases r <;> cases v <;> rfl
/-- what came behind the lock, the lock undone -/
theorem lk_le {m0 m1 m2 : Mp} {H1 : Hp} (a : m0.le m1) (b : (lk m1 v r H1).le m2) : m0.le (m2.setL m0.L) := by
  refine ⟨fun p o h => b.P p o (by rw [lk_P]; exact a.P p o h), rfl, ?_, ?_, ?_, ?_, ?_, by show m2.lks = m0.lks; rw [b.lks, lk_lks, a.lks]⟩
  · show m2.al = m0.al
    rw [b.al, lk_al, a.al]
  · have := b.n; rw [lk_n] at this; exact Nat.le_trans a.n this
  · intro k hk
    show m2.io k = m0.io k
    rw [b.io k (by rw [lk_n]; exact Nat.lt_of_lt_of_le hk a.n), lk_io, a.io k hk]
  · intro k hk
    have := b.nc k (by rw [lk_n]; exact Nat.lt_of_lt_of_le hk a.n)
    rw [lk_nc] at this
    exact Nat.le_trans (a.nc k hk) this
  · intro k j hk hj
    show m2.ic k j = m0.ic k j
    rw [b.ic k j (by rw [lk_n]; exact Nat.lt_of_lt_of_le hk a.n) (by rw [lk_nc]; exact Nat.lt_of_lt_of_le hj (a.nc k hk)), lk_ic, a.ic k j hk hj]
theorem lk_rep {m1 m2 : Mp} {H1 H2 : Hp} {s2 : FS} {L : Hp} (eL : m1.L = L) (p : RepR K m1 σ H1 v r) (b : (lk m1 v r H1).le m2) (x : Rel K m2 σ H2 s2) :
    RepR K (m2.setL L) σ H2 v r ∧ lk (m2.setL L) v r H2 = m2 := by
  have bkn : m1.kn m2 := ⟨fun a o h => b.P a o (by rw [lk_P]; exact h), by have := b.n; rw [lk_n] at this; exact this, fun k hk => by rw [b.io k (by rw [lk_n]; exact hk), lk_io]⟩
  cases r with
  | tmp c =>
    obtain ⟨a, rfl, h1, h2, h3, o, ho, rc⟩ := p
    have hL : m2.L = fun b => if b = a then H1 a else m1.L b := b.L
    have hLa : m2.L a = some o := by rw [hL]; show (if a = a then H1 a else _) = _; rw [if_pos rfl]; exact ho
    have h2a := x.lock a o hLa
    refine ⟨⟨a, rfl, ?_, ?_, ?_, o, h2a, rc.mono bkn⟩, ?_⟩
    · cases q : m2.O a with
      | none => exact q
      | some w =>
        have := x.ol a w q
        rw [hLa] at this; cases this
    · exact x.lp a o hLa
    · show L a = none
      rw [← eL]; exact h3
    · show ({ m2.setL L with L := fun b => if b = a then H2 a else L b } : Mp) = m2
      have : (fun b => if b = a then H2 a else L b) = m2.L := by
        rw [hL, ← eL, h2a, ho]
      rw [this]; rfl
  | val d =>
    refine ⟨RepD.mono bkn.P bkn.n bkn.io p, ?_⟩
    have hL : m2.L = m1.L := b.L
    show ({ m2 with L := L } : Mp) = m2
    rw [← eL, ← hL]
  | var i =>
    have hL : m2.L = m1.L := b.L
    refine ⟨p, ?_⟩
    show ({ m2 with L := L } : Mp) = m2
    rw [← eL, ← hL]
  | pc n =>
    have hL : m2.L = m1.L := b.L
    have hal : m2.al = m1.al := b.al
    refine ⟨?_, ?_⟩
    · show v = .ref (m2.al n)
      rw [hal]; exact p
    · show ({ m2 with L := L } : Mp) = m2
      rw [← eL, ← hL]
  | ic k j =>
    have hL : m2.L = m1.L := b.L
    obtain ⟨p1, p2, p3⟩ := p
    refine ⟨⟨?_, ?_, ?_⟩, ?_⟩
    · show v = .ref (m2.ic k j)
      rw [b.ic k j p2 p3]; exact p1
    · exact Nat.lt_of_lt_of_le p2 b.n
    · exact Nat.lt_of_lt_of_le p3 (b.nc k p2)
    · show ({ m2 with L := L } : Mp) = m2
      rw [← eL, ← hL]
end

/-! ### a list of operands, each new object apart -/
def RepRs (K : PySem.W.Frag) (σ : St) (H : Hp) : Mp → List V → List R → Prop
  | _, [], [] => True
  | m, v :: vs, r :: rs => RepR K m σ H v r ∧ RepRs K σ H (lk m v r H) vs rs
  | _, _, _ => False
theorem RepRs.length {K : PySem.W.Frag} {σ : St} {H : Hp} : ∀ {m : Mp} {vs : List V} {rs : List R}, RepRs K σ H m vs rs → vs.length = rs.length
  | _, [], [], _ => rfl
  | _, v :: vs, r :: rs, h => by simp only [List.length_cons, RepRs.length h.2]
  | _, [], _ :: _, h => h.elim
  | _, _ :: _, [], h => h.elim

/-! ### an exception's own data -/
def RepXf (K : PySem.W.Frag) (m : Mp) : List (Str × V) → List (Str × D) → Prop
  | [], [] => True
  | (f, v) :: vs, (g, d) :: ds => f = g ∧ RD K m v d ∧ RepXf K m vs ds
  | _, _ => False
def RepX (K : PySem.W.Frag) (m : Mp) (H : Hp) (c : Value) (d : Option Addr) (e : Ex) : Prop :=
  c = .ref (He.ga K e.cls) ∧ ((d = none ∧ e.fs = []) ∨ ∃ a fs, d = some a ∧ m.P a = some (.xd fs) ∧ RepXf K m fs e.fs)

theorem RepXf.mono {K : PySem.W.Frag} {m m' : Mp} (h : m.kn m') : ∀ {vs : List (Str × V)} {ds : List (Str × D)}, RepXf K m vs ds → RepXf K m' vs ds
  | [], [], _ => trivial
  | (f, v) :: vs, (g, d) :: ds, r => ⟨r.1, RepD.mono h.P h.n h.io r.2.1, RepXf.mono h r.2.2⟩
  | [], _ :: _, r => r.elim
  | _ :: _, [], r => r.elim
theorem RepX.mono {K : PySem.W.Frag} {m m' : Mp} (h : m.kn m') {H H' : Hp} {c : Value} {d : Option Addr} {e : Ex} (r : RepX K m H c d e) : RepX K m' H' c d e := by
  obtain ⟨a, b | ⟨p, fs, e1, e2, e3⟩⟩ := r
  · exact ⟨a, .inl b⟩
  · exact ⟨a, .inr ⟨p, fs, e1, h.P _ _ e2, e3.mono h⟩⟩
/-! ### what is claimed of a piece of code -/
def Post {α β : Type} (K : PySem.W.Frag) (W : WX) (m : Mp) (σ : St) (x : Res α) (Rp : Mp → Hp → β → α → Prop) (Q : β → Hp → Prop) : Prop := match x with
  | .stuck => False
  | .ok r s => ∀ v H' m', m.le m' → Rel K m' σ H' s → Rp m' H' v r → Q v H'
  | .exc e s => ∀ c d H' m', m.le m' → Rel K m' σ H' s → RepX K m' H' c d e → W c d σ H'
abbrev RpE (K : PySem.W.Frag) (σ : St) : Mp → Hp → V → R → Prop := fun m H v r => RepR K m σ H v r
abbrev RpA (K : PySem.W.Frag) (σ : St) : Mp → Hp → List V → List R → Prop := fun m H vs rs => RepRs K σ H m vs rs
abbrev RpT : Mp → Hp → Bool → Bool → Prop := fun _ _ a b => a = b
def toE (K : PySem.W.Frag) (W : WX) (f : M R) : TE := fun σ H Q => ∃ m s, Rel K m σ H s ∧ Post K W m σ (f s) (RpE K σ) Q
def toT (K : PySem.W.Frag) (W : WX) (f : M Bool) : TT := fun σ H Q => ∃ m s, Rel K m σ H s ∧ Post K W m σ (f s) RpT Q
def toA (K : PySem.W.Frag) (W : WX) (f : M (List R)) : TA := fun σ H Q => ∃ m s, Rel K m σ H s ∧ Post K W m σ (f s) (RpA K σ) Q
/-- behind a statement -/
def PostS (K : PySem.W.Frag) (W : WX) (m : Mp) (x : SRes) (D : Ends) : Prop := match x with
  | .stuck => False
  | .next s => ∀ σ' H' m', m.le m' → Rel K m' σ' H' s → D.nx σ' H'
  | .brk s => ∀ σ' H' m', m.le m' → Rel K m' σ' H' s → D.bk σ' H'
  | .cont s => ∀ σ' H' m', m.le m' → Rel K m' σ' H' s → D.ct σ' H'
  | .ret r s => ∀ v σ' H' m', m.le m' → Rel K m' σ' H' s → RepR K m' σ' H' v r → D.rt v H'
  | .exc e s => ∀ c d σ' H' m', m.le m' → Rel K m' σ' H' s → RepX K m' H' c d e → W c d σ' H'
def toS (K : PySem.W.Frag) (W : WX) (f : SM) : TS := fun D σ H => ∃ m s, Rel K m σ H s ∧ PostS K W m (f s) D
end VL

set_option maxRecDepth 100000
set_option maxHeartbeats 4000000
namespace VL
open PySem PySem.Spec L2
open PyProof.Rows hiding St

/-! ### consequence -/
section
variable {X : Cx}
theorem PE_imp {e : Expr} {t t' : TE} (h : PE X e t) (i : ∀ σ H Q, t' σ H Q → t σ H Q) : PE X e t' := ⟨fun pins s σ H Q I q => h.run pins s σ H Q I (i _ _ _ q)⟩
theorem PT_imp {e : Expr} {t t' : TT} (h : PT X e t) (i : ∀ σ H Q, t' σ H Q → t σ H Q) : PT X e t' := ⟨fun pins s σ H Q I q => h.run pins s σ H Q I (i _ _ _ q)⟩
theorem PW_imp {e : Expr} {t t' : TT} (h : PW X e t) (i : ∀ σ H Q, t' σ H Q → t σ H Q) : PW X e t' := ⟨fun w pins s σ H Q I q => h.run w pins s σ H Q I (i _ _ _ q)⟩
theorem PA_imp {e : List Expr} {t t' : TA} (h : PA X e t) (i : ∀ σ H Q, t' σ H Q → t σ H Q) : PA X e t' := ⟨fun p pins s σ H Q I q => h.run p pins s σ H Q I (i _ _ _ q)⟩
theorem PS_imp {e : Stmt} {t t' : TS} (h : PS X e t) (i : ∀ D σ H, t' D σ H → t D σ H) : PS X e t' := ⟨fun pins s σ H D I q => h.run pins s σ H D I (i _ _ _ q)⟩
theorem PSs_imp {e : List Stmt} {t t' : TS} (h : PSs X e t) (i : ∀ D σ H, t' D σ H → t D σ H) : PSs X e t' := ⟨fun pins s σ H D I q => h.run pins s σ H D I (i _ _ _ q)⟩
end

section
variable {K : PySem.W.Frag} {W : WX} {m m' : Mp} {σ : St} {H : Hp} {s : FS}
theorem Post_mono {α β : Type} {x : Res α} {Rp : Mp → Hp → β → α → Prop} {Q : β → Hp → Prop} (l : m.le m') (p : Post K W m σ x Rp Q) : Post K W m' σ x Rp Q := by
  cases x with
  | stuck => exact p
  | ok r s => exact fun v H' m2 l2 => p v H' m2 (l.trans l2)
  | exc e s => exact fun c d H' m2 l2 => p c d H' m2 (l.trans l2)
theorem PostS_mono {x : SRes} {D : Ends} (l : m.le m') (p : PostS K W m x D) : PostS K W m' x D := by
  cases x with
  | stuck => exact p
  | next s => exact fun σ' H' m2 l2 => p σ' H' m2 (l.trans l2)
  | brk s => exact fun σ' H' m2 l2 => p σ' H' m2 (l.trans l2)
  | cont s => exact fun σ' H' m2 l2 => p σ' H' m2 (l.trans l2)
  | ret r s => exact fun v σ' H' m2 l2 => p v σ' H' m2 (l.trans l2)
  | exc e s => exact fun c d σ' H' m2 l2 => p c d σ' H' m2 (l.trans l2)

/-- one operand, then the rest -/
theorem one {α β : Type} {f : M R} {k : R → M α} {Rp : Mp → Hp → β → α → Prop} {Q : β → Hp → Prop} {R' : V → Hp → Prop}
    (h : ∃ m s, Rel K m σ H s ∧ Post K W m σ ((f s).bind k) Rp Q)
    (hk : ∀ m s H v r, Rel K m σ H s → RepR K m σ H v r → Post K W m σ (k r s) Rp Q → R' v H) : toE K W f σ H R' := by
  obtain ⟨m, s, x, p⟩ := h
  refine ⟨m, s, x, ?_⟩
  cases e : f s with
  | stuck => rw [e] at p; exact p.elim
  | ok r s1 =>
    rw [e] at p
    intro v H1 m1 l1 x1 r1
    exact hk m1 s1 H1 v r x1 r1 (Post_mono l1 p)
  | exc ex s1 => rw [e] at p; exact p
/-- a test, then the rest -/
theorem oneT {α β : Type} {f : M Bool} {k : Bool → M α} {Rp : Mp → Hp → β → α → Prop} {Q : β → Hp → Prop} {R' : Bool → Hp → Prop}
    (h : ∃ m s, Rel K m σ H s ∧ Post K W m σ ((f s).bind k) Rp Q)
    (hk : ∀ m s H b, Rel K m σ H s → Post K W m σ (k b s) Rp Q → R' b H) : toT K W f σ H R' := by
  obtain ⟨m, s, x, p⟩ := h
  refine ⟨m, s, x, ?_⟩
  cases e : f s with
  | stuck => rw [e] at p; exact p.elim
  | ok r s1 =>
    rw [e] at p
    intro v H1 m1 l1 x1 r1
    have r1' : v = r := r1
    subst r1'
    exact hk m1 s1 H1 v x1 (Post_mono l1 p)
  | exc ex s1 => rw [e] at p; exact p
theorem many {α β : Type} {f : M (List R)} {k : List R → M α} {Rp : Mp → Hp → β → α → Prop} {Q : β → Hp → Prop} {R' : List V → Hp → Prop}
    (h : ∃ m s, Rel K m σ H s ∧ Post K W m σ ((f s).bind k) Rp Q)
    (hk : ∀ m s H vs rs, Rel K m σ H s → RepRs K σ H m vs rs → Post K W m σ (k rs s) Rp Q → R' vs H) : toA K W f σ H R' := by
  obtain ⟨m, s, x, p⟩ := h
  refine ⟨m, s, x, ?_⟩
  cases e : f s with
  | stuck => rw [e] at p; exact p.elim
  | ok r s1 =>
    rw [e] at p
    intro v H1 m1 l1 x1 r1
    exact hk m1 s1 H1 v r x1 r1 (Post_mono l1 p)
  | exc ex s1 => rw [e] at p; exact p
/-- behind an operand that is kept, a list of further ones -/
theorem thenA {α β : Type} {v : V} {r : R} {g : M (List R)} {k : List R → M α} {Rp : Mp → Hp → β → α → Prop} {Q : β → Hp → Prop} {R' : List V → Hp → Prop}
    (x : Rel K m σ H s) (p : RepR K m σ H v r) (h : Post K W m σ ((g s).bind k) Rp Q) (hR : ∀ m2 H2 a b, RepR K m2 σ H2 a b = RepR K m2 σ H2 a b)
    (hk : ∀ m s H vs rs, Rel K m σ H s → RepRs K σ H m (v :: vs) (r :: rs) → Post K W m σ (k rs s) Rp Q → R' vs H) : toA K W g σ H R' := by
  refine ⟨lk m v r H, s, x.lk p, ?_⟩
  cases e : g s with
  | stuck => rw [e] at h; exact h.elim
  | ok rs s1 =>
    rw [e] at h
    intro vs H2 m2 l2 x2 rr
    have l0 := lk_le (Mp.le.refl m) l2
    have q := lk_rep (L := m.L) rfl p l2 x2
    refine hk (m2.setL m.L) s1 H2 vs rs (x2.setL fun a o ea => ?_) ⟨q.1, by rw [q.2]; exact rr⟩ (Post_mono l0 h)
    have : (lk m v r H).L a = some o := by
      cases r with
      | tmp c =>
        obtain ⟨b, rfl, h1, h2, h3, u, hu, rc⟩ := p
        show (if a = b then H b else m.L a) = some o
        by_cases hab : a = b
        · rw [hab, h3] at ea; cases ea
        · rw [if_neg hab]; exact ea
      | _ => cases v <;> exact ea
    rw [← l2.L] at this
    exact this
  | exc ex s1 =>
    rw [e] at h
    intro c d H2 m2 l2 x2 rx
    have l0 := lk_le (Mp.le.refl m) l2
    refine h c d H2 (m2.setL m.L) l0 (x2.setL fun a o ea => ?_) (RepX.mono (m := m2) (m' := m2.setL m.L) ⟨fun _ _ h => h, Nat.le_refl _, fun _ _ => rfl⟩ rx)
    have : (lk m v r H).L a = some o := by
      cases r with
      | tmp c =>
        obtain ⟨b, rfl, h1, h2, h3, u, hu, rc⟩ := p
        show (if a = b then H b else m.L a) = some o
        by_cases hab : a = b
        · rw [hab, h3] at ea; cases ea
        · rw [if_neg hab]; exact ea
      | _ => cases v <;> exact ea
    rw [← l2.L] at this
    exact this
end

def eNil : M (List R) := fun s => .ok [] s
def eCons (f : M R) (g : M (List R)) : M (List R) := fun s => (f s).bind fun r s1 => (g s1).bind fun rs s2 => .ok (r :: rs) s2
section
variable {K : PySem.W.Frag} {W : WX}
theorem toA_nil {σ : St} {H : Hp} {Q : List V → Hp → Prop} (h : toA K W eNil σ H Q) : tNil σ H Q := by
  obtain ⟨m, s, x, p⟩ := h
  exact p [] H m (Mp.le.refl m) x trivial
theorem toA_cons {f : M R} {g : M (List R)} {σ : St} {H : Hp} {Q : List V → Hp → Prop} (h : toA K W (eCons f g) σ H Q) : tCons (toE K W f) (toA K W g) σ H Q := by
  refine one h fun m s H v r x p q => thenA x p q (fun _ _ _ _ => rfl) fun m s H vs rs x p q => q (v :: vs) H m (Mp.le.refl m) x p
/-- two operands, then the rest -/
theorem two {α β : Type} {f g : M R} {k : R → R → M α} {Rp : Mp → Hp → β → α → Prop} {σ : St} {H : Hp} {Q : β → Hp → Prop} {R' : V → V → Hp → Prop}
    (h : ∃ m s, Rel K m σ H s ∧ Post K W m σ ((f s).bind fun a s1 => (g s1).bind fun b => k a b) Rp Q)
    (hk : ∀ m s H v1 v2 r1 r2, Rel K m σ H s → RepRs K σ H m [v1, v2] [r1, r2] → Post K W m σ (k r1 r2 s) Rp Q → R' v1 v2 H) :
    toE K W f σ H fun x H1 => toE K W g σ H1 fun y H2 => R' x y H2 := by
  refine one h fun m s H v r x p q => ?_
  have q' : Post K W m σ ((eCons g eNil s).bind fun rs => k r (rs.headD r)) Rp Q := by
    show Post K W m σ (((g s).bind fun b s2 => Res.bind (.ok [] s2) fun rs s3 => .ok (b :: rs) s3).bind fun rs => k r (rs.headD r)) Rp Q
    cases e : g s with
    | stuck => rw [e] at q; exact q
    | ok b s1 => rw [e] at q; exact q
    | exc ex s1 => rw [e] at q; exact q
  have z := thenA (R' := fun vs H => ∀ y, vs = [y] → R' v y H) x p q' (fun _ _ _ _ => rfl) fun m s H vs rs x p q y ey => by
    subst ey
    cases rs with
    | nil => exact p.2.elim
    | cons b rs =>
      cases rs with
      | nil => exact hk m s H v y r b x p q
      | cons c rs => exact p.2.2.elim
  refine toA_cons (f := g) (g := eNil) (Q := fun vs H => ∀ y, vs = [y] → R' v y H) z |> fun w => ?_
  have w' : toE K W g σ H fun y H2 => toA K W eNil σ H2 fun vs H3 => ∀ z, y :: vs = [z] → R' v z H3 := w
  obtain ⟨m1, s1, x1, p1⟩ := w'
  refine ⟨m1, s1, x1, ?_⟩
  cases e : g s1 with
  | stuck => rw [e] at p1; exact p1
  | exc ex s2 => rw [e] at p1; exact p1
  | ok b s2 =>
    rw [e] at p1
    intro y H2 m2 l2 x2 r2
    exact toA_nil (p1 y H2 m2 l2 x2 r2) y rfl
end
section
variable {X : Cx} {W : WX}
theorem sa_nil : PA X [] (toA X.K W eNil) := PA_imp pa_nil fun _ _ _ => toA_nil
theorem sa_cons {e : Expr} {es : List Expr} {f : M R} {g : M (List R)} (ha : PE X e (toE X.K W f)) (hr : PA X es (toA X.K W g)) (hs : starEach (e :: es) X.env = (false, eval e X.env) :: starEach es X.env := by rfl) :
    PA X (e :: es) (toA X.K W (eCons f g)) := PA_imp (pa_cons ha hr hs) fun _ _ _ => toA_cons
end

/-! ### what comes out of an operation -/
section
variable {K : PySem.W.Frag} {W : WX} {m : Mp} {σ : St} {H : Hp} {s : FS} {Q : VK}
theorem post_val {v : V} {r : R} (x : Rel K m σ H s) (p : Post K W m σ (.ok r s) (RpE K σ) Q) (h : RepR K m σ H v r) : Q v H := p v H m (Mp.le.refl m) x h
theorem Rel.none3 (x : Rel K m σ H s) {p : Addr} (n : H p = none) : m.O p = none ∧ m.P p = none ∧ m.L p = none := by
  refine ⟨?_, ?_, ?_⟩
  · cases q : m.O p with
    | none => rfl
    | some w => exact absurd n (x.oh p w q)
  · cases q : m.P p with
    | none => rfl
    | some o => have := x.pers p o q; rw [n] at this; cases this
  · cases q : m.L p with
    | none => rfl
    | some o => have := x.lock p o q; rw [n] at this; cases this
theorem SlotOk.keep {H' : Hp} {i : Nat} {z : S} (h : ∀ a w, m.O a = some w → H' a = H a) (x : SlotOk K m σ H i z) : SlotOk K m σ H' i z := by
  cases z with
  | own c =>
    obtain ⟨a, e, o, u, hu, r⟩ := x
    exact ⟨a, e, o, u, (h a _ o).trans hu, r⟩
  | lck c =>
    obtain ⟨a, e, ⟨o, u, hu, r⟩, l⟩ := x
    exact ⟨a, e, ⟨o, u, (h a _ o).trans hu, r⟩, l⟩
  | _ => exact x
theorem CellOk.keep {H' : Hp} {w : Own} {a : Addr} {c : C} (h : ∀ a w, m.O a = some w → H' a = H a) (x : CellOk K m H w a c) : CellOk K m H' w a c := by
  obtain ⟨o, u, hu, r⟩ := x
  exact ⟨o, u, (h a _ o).trans hu, r⟩
theorem InstOk.keep {H' : Hp} {k : Nat} {I : Inst} (h : ∀ a w, m.O a = some w → H' a = H a) (x : InstOk K m H k I) : InstOk K m H' k I := by
  obtain ⟨a, b, ⟨fs, c, r⟩, d, n, cs⟩ := x
  exact ⟨a, b, ⟨fs, (h _ _ a).trans c, r⟩, (h _ _ b).trans d, n, fun j c q => (cs j c q).keep h⟩
/-- the heap grew, or changed where nobody looks -/
theorem Rel.keep {H' : Hp} (x : Rel K m σ H s) (h1 : ∀ a w, m.O a = some w → H' a = H a) (h2 : ∀ a o, m.P a = some o → H' a = some o) (h3 : ∀ a o, m.L a = some o → H' a = some o) : Rel K m σ H' s :=
  ⟨h2, h3, fun a w e => by rw [h1 a w e]; exact x.oh a w e, x.op, x.ol, x.lp, x.len, fun i z e => (x.env i z e).keep h1, fun n c e => (x.cells n c e).keep h1, x.cnt, fun k I e => (x.ins k I e).keep h1⟩
theorem Rel.fresh (x : Rel K m σ H s) {p : Addr} {o : HO} (n : H p = none) : Rel K m σ (upd H p o) s := by
  obtain ⟨n1, n2, n3⟩ := x.none3 n
  have ne : ∀ {a : Addr} {o' : HO}, H a = some o' → a ≠ p := fun {a o'} e z => by rw [z, n] at e; cases e
  refine x.keep (fun a w e => upd_ne fun z => ?_) (fun a o' e => ?_) (fun a o' e => ?_)
  · rw [z, n1] at e; cases e
  · rw [upd_ne (ne (x.pers a o' e))]; exact x.pers a o' e
  · rw [upd_ne (ne (x.lock a o' e))]; exact x.lock a o' e
theorem post_tmp {c : C} {p : Addr} {o : HO} (x : Rel K m σ H s) (h : Post K W m σ (.ok (.tmp c) s) (RpE K σ) Q) (n : H p = none) (r : RepC K m o c) : Q (.ref p) (upd H p o) := by
  obtain ⟨n1, n2, n3⟩ := x.none3 n
  exact h (.ref p) (upd H p o) m (Mp.le.refl m) (x.fresh n) ⟨p, rfl, n1, n2, n3, o, upd_same, r⟩
/-- an object that nobody has becomes data for good -/
theorem Rel.settle (x : Rel K m σ H s) {a : Addr} {o : HO} (h1 : m.O a = none) (h2 : m.L a = none) (e : H a = some o) (h3 : m.P a = none) :
    Rel K { m with P := upd m.P a o } σ H s ∧ m.le { m with P := upd m.P a o } := by
  have hP : ∀ b u, m.P b = some u → upd m.P a o b = some u := fun b u q => by
    rw [upd_ne fun z => ?_]; exact q
    rw [z, h3] at q; cases q
  have kn : m.kn { m with P := upd m.P a o } := ⟨hP, Nat.le_refl _, fun _ _ => rfl⟩
  refine ⟨⟨fun b u q => ?_, x.lock, x.oh, fun b w q => ?_, x.ol, fun b u q => ?_, x.len, fun i z q => ?_, fun n c q => ?_, x.cnt, fun k I q => ?_⟩, ⟨hP, rfl, rfl, Nat.le_refl _, fun _ _ => rfl, fun _ _ => Nat.le_refl _, fun _ _ _ _ => rfl, rfl⟩⟩
  · by_cases hb : b = a
    · subst hb
      have : upd m.P b o b = some u := q
      rw [upd_same] at this; cases this; exact e
    · have q' : upd m.P a o b = some u := q
      rw [upd_ne hb] at q'; exact x.pers b u q'
  · show upd m.P a o b = none
    rw [upd_ne fun z => ?_]; exact x.op b w q
    have q' : m.O b = some w := q
    rw [z, h1] at q'; cases q'
  · show upd m.P a o b = none
    rw [upd_ne fun z => ?_]; exact x.lp b u q
    have q' : m.L b = some u := q
    rw [z, h2] at q'; cases q'
  · have y := x.env i z q
    cases z with
    | val d => obtain ⟨v, e1, r⟩ := y; exact ⟨v, e1, RepD.mono kn.P kn.n kn.io r⟩
    | own c => obtain ⟨b, e1, o1, u, hu, r⟩ := y; exact ⟨b, e1, o1, u, hu, r.mono kn⟩
    | lck c => obtain ⟨b, e1, ⟨o1, u, hu, r⟩, l⟩ := y; exact ⟨b, e1, ⟨o1, u, hu, r.mono kn⟩, l⟩
    | _ => exact y
  · obtain ⟨o1, u, hu, r⟩ := x.cells n c q
    exact ⟨o1, u, hu, r.mono kn⟩
  · obtain ⟨p1, p2, ⟨fs, p3, p4⟩, p5, p6, p7⟩ := x.ins k I q
    exact ⟨p1, p2, ⟨fs, p3, p4.mono kn (Nat.le_refl _) fun _ _ => rfl⟩, p5, p6, fun j c q => by
      obtain ⟨o1, u, hu, r⟩ := p7 j c q
      exact ⟨o1, u, hu, r.mono kn⟩⟩
theorem post_new {d : D} {p : Addr} {o : HO} (x : Rel K m σ H s) (h : Post K W m σ (.ok (.val d) s) (RpE K σ) Q) (n : H p = none) (r : ∀ m' : Mp, m.kn m' → m'.P p = some o → RD K m' (.ref p) d) : Q (.ref p) (upd H p o) := by
  obtain ⟨n1, n2, n3⟩ := x.none3 n
  obtain ⟨x2, l2⟩ := (x.fresh (o := o) n).settle n1 n3 upd_same n2
  exact h (.ref p) (upd H p o) _ l2 x2 (r _ l2.kn upd_same)
end

/-! ### names, constants -/
def eVar (i : Nat) : M R := fun s => match s.env[i]? with
  | some (.val d) => .ok (.val d) s
  | some (.own _) => .ok (.var i) s
  | some (.lck _) => .ok (.var i) s
  | some (.pc n) => .ok (.pc n) s
  | some (.ic k j) => .ok (.ic k j) s
  | _ => .stuck
def eD (d : D) : M R := fun s => .ok (.val d) s
section
variable {X : Cx} {W : WX} {pos : Pos}
theorem toE_var {K : PySem.W.Frag} {i : Nat} {σ : St} {H : Hp} {Q : VK} (h : toE K W (eVar i) σ H Q) : tVar i σ H Q := by
  obtain ⟨m, s, x, p⟩ := h
  unfold eVar at p
  cases e : s.env[i]? with
  | none => rw [e] at p; exact p.elim
  | some z =>
    rw [e] at p
    have y := x.env i z e
    cases z with
    | no => exact p.elim
    | val d => obtain ⟨v, e1, r⟩ := y; exact ⟨v, e1, p v H m (Mp.le.refl m) x r⟩
    | own c => obtain ⟨a, e1, _⟩ := y; exact ⟨_, e1, p _ H m (Mp.le.refl m) x e1⟩
    | lck c => obtain ⟨a, e1, _⟩ := y; exact ⟨_, e1, p _ H m (Mp.le.refl m) x e1⟩
    | pc n => exact ⟨_, y, p _ H m (Mp.le.refl m) x rfl⟩
    | ic k j => exact ⟨_, y.1, p _ H m (Mp.le.refl m) x ⟨rfl, y.2⟩⟩
theorem se_var (i : Nat) {x : Str} (hN : X.N[i]? = some x := by rfl) (hv : Vis X.env.scope x := by first | exact Or.inl rfl | exact Or.inr (Or.inl rfl) | exact Or.inr (Or.inr rfl)) (hd : (x == ("__debug__" : Str)) = false := by decide)
    (hcd : (x == ("__classdict__" : Str)) = false := by decide) : PE X (.Name x pos) (toE X.K W (eVar i)) := PE_imp (pe_var hN hv hd hcd) fun _ _ _ => toE_var
theorem toE_d {K : PySem.W.Frag} {v : V} {d : D} (r : ∀ m, RD K m v d) {σ : St} {H : Hp} {Q : VK} (h : toE K W (eD d) σ H Q) : tC v σ H Q := by
  obtain ⟨m, s, x, p⟩ := h
  exact p v H m (Mp.le.refl m) x (r m)
theorem se_int {i j} : PE X (.Constant (.int i) j pos) (toE X.K W (eD (.int i))) := PE_imp pe_int fun _ _ _ => toE_d fun _ => .int
theorem se_bl {b j} : PE X (.Constant (.bool b) j pos) (toE X.K W (eD (.bl b))) := PE_imp pe_bl fun _ _ _ => toE_d fun _ => .bl
theorem se_non {j} : PE X (.Constant .none j pos) (toE X.K W (eD .non)) := PE_imp pe_non fun _ _ _ => toE_d fun _ => .non
theorem se_str {x j} : PE X (.Constant (.str x) j pos) (toE X.K W (eD (.str x))) := PE_imp pe_str fun _ _ _ => toE_d fun _ => .str
end

/-! ### operators -/
def eB (k : R → R → M R) (f g : M R) : M R := fun s => (f s).bind fun a s1 => (g s1).bind fun b => k a b
def eU (k : R → M R) (f : M R) : M R := fun s => (f s).bind k
/-- k is what the operation r does -/
def Op2 (K : PySem.W.Frag) (r : R2) (k : R → R → M R) : Prop := ∀ (W : WX) (σ : St) (m : Mp) (s : FS) (H : Hp) (v1 v2 : V) (r1 r2 : R) (Q : VK), Rel K m σ H s → RepRs K σ H m [v1, v2] [r1, r2] → Post K W m σ (k r1 r2 s) (RpE K σ) Q → r v1 v2 H Q
def Op1 (K : PySem.W.Frag) (r : V → Hp → VK → Prop) (k : R → M R) : Prop := ∀ (W : WX) (σ : St) (m : Mp) (s : FS) (H : Hp) (v : V) (r1 : R) (Q : VK), Rel K m σ H s → RepR K m σ H v r1 → Post K W m σ (k r1 s) (RpE K σ) Q → r v H Q
section
variable {X : Cx} {W : WX} {pos : Pos} {a b : Expr} {f g : M R}
theorem se_bin {op : Operator} {r : R2} {k : R → R → M R} (ho : OpR X (binaryOp op) r) (hk : Op2 X.K r k) (ha : PE X a (toE X.K W f)) (hb : PE X b (toE X.K W g)) : PE X (.BinOp a op b pos) (toE X.K W (eB k f g)) :=
  PE_imp (pe_op ho ha hb) fun σ H Q h => two h fun m s H v1 v2 r1 r2 x p q => hk W σ m s H v1 v2 r1 r2 Q x p q
theorem se_un {op : UnaryOp} {r : V → Hp → VK → Prop} {k : R → M R} (ho : UnR X (unaryOp op) r) (hk : Op1 X.K r k) (ha : PE X a (toE X.K W f)) : PE X (.UnaryOp op a pos) (toE X.K W (eU k f)) :=
  PE_imp (pe_un ho ha) fun σ H Q h => one h fun m s H v r1 x p q => hk W σ m s H v r1 Q x p q
theorem se_cmp {op : CmpOp} {r : R2} {k : R → R → M R} (ho : OpR X (compareOp op) r) (hk : Op2 X.K r k) (ha : PE X a (toE X.K W f)) (hb : PE X b (toE X.K W g)) (hm : behindInMarks op b = false) : PE X (.Compare a [op] [b] pos) (toE X.K W (eB k f g)) :=
  PE_imp (pe_cmpR ho ha hb hm) fun σ H Q h => two h fun m s H v1 v2 r1 r2 x p q => hk W σ m s H v1 v2 r1 r2 Q x p q
theorem se_ix {r : R2} {k : R → R → M R} (ho : IxR X r) (hk : Op2 X.K r k) (ha : PE X a (toE X.K W f)) (hb : PE X b (toE X.K W g)) (hs : PlainIx b) : PE X (.Subscript a b pos) (toE X.K W (eB k f g)) :=
  PE_imp (pe_ix ho ha hb hs) fun σ H Q h => two h fun m s H v1 v2 r1 r2 x p q => hk W σ m s H v1 v2 r1 r2 Q x p q
end
/-- from a value that must be a truth value -/
def asB (r : R) : M Bool := fun s => match r with
  | .val (.bl b) => .ok b s
  | _ => .stuck
def eT (f : M R) : M Bool := fun s => (f s).bind asB
theorem asB_ok {K : PySem.W.Frag} {W : WX} {m : Mp} {σ : St} {H : Hp} {s : FS} {v : V} {r : R} {Q : Bool → Hp → Prop} (x : Rel K m σ H s) (p : RepR K m σ H v r) (q : Post K W m σ (asB r s) RpT Q) : ∃ k, v = .bl k ∧ Q k H := by
  cases r with
  | val d =>
    cases d with
    | bl b =>
      cases p
      exact ⟨b, rfl, q b H m (Mp.le.refl m) x rfl⟩
    | _ => exact q.elim
  | _ => exact q.elim
section
variable {X : Cx} {W : WX} {pos : Pos} {a b : Expr} {f g : M R}
/-- a comparison as a test -/
theorem st_cmp {op : CmpOp} {r : R2} {k : R → R → M R} (ho : OpR X (compareOp op) r) (hk : Op2 X.K r k) (ha : PE X a (toE X.K W f)) (hb : PE X b (toE X.K W g)) (hm : behindInMarks op b = false) :
    PT X (.Compare a [op] [b] pos) (toT X.K W (eT (eB k f g))) :=
  PT_imp (pt_cmpR ho ha hb hm) fun σ H Q h => by
    have h' : ∃ m s, Rel X.K m σ H s ∧ Post X.K W m σ ((f s).bind fun a s1 => (g s1).bind fun b s2 => (k a b s2).bind asB) RpT Q := by
      obtain ⟨m, s, x, p⟩ := h
      refine ⟨m, s, x, ?_⟩
      have e : eT (eB k f g) s = (f s).bind fun a s1 => (g s1).bind fun b s2 => (k a b s2).bind asB := by
        show ((f s).bind fun a s1 => (g s1).bind fun b => k a b).bind asB = _
        cases f s with
        | stuck => rfl
        | exc e s1 => rfl
        | ok r1 s1 =>
          show ((g s1).bind fun b => k r1 b).bind asB = (g s1).bind fun b s2 => (k r1 b s2).bind asB
          cases g s1 <;> rfl
      rw [e] at p; exact p
    refine two (K := X.K) (W := W) (R' := fun x y H2 => r x y H2 fun z H' => ∃ k, z = .bl k ∧ Q k H') h' fun m s H v1 v2 r1 r2 x p q => ?_
    refine hk W σ m s H v1 v2 r1 r2 _ x p ?_
    cases e : k r1 r2 s with
    | stuck => rw [e] at q; exact q
    | exc ex s1 => rw [e] at q; exact q
    | ok r3 s1 =>
      rw [e] at q
      intro v H' m' l' x' p'
      exact asB_ok x' p' (Post_mono l' q)
/-- a value that is a truth value, as a test -/
theorem st_val (ha : PE X a (toE X.K W f)) (he : ∀ whole, isTrue a X.env whole = (do let v ← whole; standAt a.pos; holding [v] (truthy v)) := by intro _; rfl) : PT X a (toT X.K W (eT f)) :=
  PT_imp (pt_val ha he) fun σ H Q h => one h fun m s H v r x p q => asB_ok x p q
end
def mAnd (f g : M Bool) : M Bool := fun s => (f s).bind fun b s1 => if b = true then g s1 else .ok false s1
def mOr (f g : M Bool) : M Bool := fun s => (f s).bind fun b s1 => if b = true then .ok true s1 else g s1
def mNot (f : M Bool) : M Bool := fun s => (f s).bind fun b s1 => .ok (!b) s1
section
variable {X : Cx} {W : WX} {pos : Pos} {a b c : Expr} {rest : List Expr} {f g : M Bool}
theorem sw_and1 (ha : PT X a (toT X.K W f)) : PW X (.BoolOp .And [a] pos) (toT X.K W f) := pw_and1 ha
theorem sw_or1 (ha : PT X a (toT X.K W f)) : PW X (.BoolOp .Or [a] pos) (toT X.K W f) := pw_or1 ha
theorem sw_and (ha : PT X a (toT X.K W f)) (hb : PW X (.BoolOp .And (b :: rest) pos) (toT X.K W g)) : PW X (.BoolOp .And (a :: b :: rest) pos) (toT X.K W (mAnd f g)) :=
  PW_imp (pw_and ha hb) fun σ H Q h => oneT h fun m s H k x q => by
    cases k with
    | true => rw [if_pos rfl] at q ⊢; exact ⟨m, s, x, q⟩
    | false => rw [if_neg (by decide)] at q ⊢; exact q false H m (Mp.le.refl m) x rfl
theorem sw_or (ha : PT X a (toT X.K W f)) (hb : PW X (.BoolOp .Or (b :: rest) pos) (toT X.K W g)) : PW X (.BoolOp .Or (a :: b :: rest) pos) (toT X.K W (mOr f g)) :=
  PW_imp (pw_or ha hb) fun σ H Q h => oneT h fun m s H k x q => by
    cases k with
    | true => rw [if_pos rfl] at q ⊢; exact q true H m (Mp.le.refl m) x rfl
    | false => rw [if_neg (by decide)] at q ⊢; exact ⟨m, s, x, q⟩
theorem st_not (ha : PT X a (toT X.K W f)) : PT X (.UnaryOp .Not a pos) (toT X.K W (mNot f)) :=
  PT_imp (pt_not ha) fun σ H Q h => oneT h fun m s H k x q => q (!k) H m (Mp.le.refl m) x rfl
end
/-- and, or, not of truth values, as values -/
def ofB (f : M Bool) : M R := fun s => (f s).bind fun b s1 => .ok (.val (.bl b)) s1
def eAnd (f g : M R) : M R := fun s => (f s).bind fun r s1 => (asB r s1).bind fun b s2 => if b = true then g s2 else .ok (.val (.bl false)) s2
def eOr (f g : M R) : M R := fun s => (f s).bind fun r s1 => (asB r s1).bind fun b s2 => if b = true then .ok (.val (.bl true)) s2 else g s2
def eNot (f : M R) : M R := fun s => (f s).bind fun r s1 => (asB r s1).bind fun b s2 => .ok (.val (.bl (!b))) s2
def eIf (t : M Bool) (f g : M R) : M R := fun s => (t s).bind fun b s1 => if b = true then f s1 else g s1
section
variable {X : Cx} {W : WX} {pos : Pos} {a b c : Expr} {rest : List Expr} {f g : M R}
theorem asB_val {m : Mp} {σ : St} {H : Hp} {s : FS} {v : V} {r : R} {K : PySem.W.Frag} {Q : VK} {k : Bool → M R} (p : RepR K m σ H v r) (q : Post K W m σ ((asB r s).bind k) (RpE K σ) Q) : ∃ c, v = .bl c ∧ Post K W m σ (k c s) (RpE K σ) Q := by
  cases r with
  | val d =>
    cases d with
    | bl b =>
      cases p
      exact ⟨b, rfl, q⟩
    | _ => exact q.elim
  | _ => exact q.elim
theorem se_one {op} (h : PE X a (toE X.K W f)) : PE X (.BoolOp op [a] pos) (toE X.K W f) := pe_one h
theorem se_and (ha : PE X a (toE X.K W f)) (hb : PE X (.BoolOp .And (b :: rest) pos) (toE X.K W g)) : PE X (.BoolOp .And (a :: b :: rest) pos) (toE X.K W (eAnd f g)) :=
  PE_imp (pe_and ha hb) fun σ H Q h => one h fun m s H v r x p q => by
    obtain ⟨c, rfl, q⟩ := asB_val p q
    refine ⟨c, rfl, ?_⟩
    cases c with
    | true => rw [if_pos rfl] at q ⊢; exact ⟨m, s, x, q⟩
    | false => rw [if_neg (by decide)] at q ⊢; exact post_val x q .bl
theorem se_or (ha : PE X a (toE X.K W f)) (hb : PE X (.BoolOp .Or (b :: rest) pos) (toE X.K W g)) : PE X (.BoolOp .Or (a :: b :: rest) pos) (toE X.K W (eOr f g)) :=
  PE_imp (pe_or ha hb) fun σ H Q h => one h fun m s H v r x p q => by
    obtain ⟨c, rfl, q⟩ := asB_val p q
    refine ⟨c, rfl, ?_⟩
    cases c with
    | true => rw [if_pos rfl] at q ⊢; exact post_val x q .bl
    | false => rw [if_neg (by decide)] at q ⊢; exact ⟨m, s, x, q⟩
theorem se_not (ha : PE X a (toE X.K W f)) : PE X (.UnaryOp .Not a pos) (toE X.K W (eNot f)) :=
  PE_imp (pe_not ha) fun σ H Q h => one h fun m s H v r x p q => by
    obtain ⟨c, rfl, q⟩ := asB_val p q
    exact ⟨c, rfl, post_val x q .bl⟩
theorem se_if {t : M Bool} (hc : PT X c (toT X.K W t)) (ha : PE X a (toE X.K W f)) (hb : PE X b (toE X.K W g)) : PE X (.IfExp c a b pos) (toE X.K W (eIf t f g)) :=
  PE_imp (pe_ifExp hc ha hb) fun σ H Q h => oneT h fun m s H k x q => by
    cases k with
    | true => rw [if_pos rfl] at q ⊢; exact ⟨m, s, x, q⟩
    | false => rw [if_neg (by decide)] at q ⊢; exact ⟨m, s, x, q⟩
end
end VL

set_option maxRecDepth 100000
set_option maxHeartbeats 4000000
namespace VL
open PySem PySem.Spec L2
open PyProof.Rows hiding St

def C.toD : C → D
  | .lst xs => .lst xs
  | .dct kvs => .dct kvs
def FS.setE (s : FS) (i : Nat) (z : S) : FS := { s with env := s.env.set i z }
/-- an operand becomes data for good -/
def frzR (r : R) (s : FS) : Option (D × FS) := match r with
  | .val d => some (d, s)
  | .tmp c => some (c.toD, s)
  | .var i => match s.env[i]? with
    | some (.own c) => some (c.toD, s.setE i (.val c.toD))
    | _ => none
  | _ => none
def frzAll : List R → FS → Option (List D × FS)
  | [], s => some ([], s)
  | r :: rs, s => match frzR r s with
    | none => none
    | some (d, s1) => match frzAll rs s1 with
      | none => none
      | some (ds, s2) => some (d :: ds, s2)
/-- the place r holds c from now on -/
def put (s : FS) (r : R) (c : C) : Option FS := match r with
  | .var i => match s.env[i]? with
    | some (.lck _) => some (s.setE i (.lck c))
    | _ => some (s.setE i (.own c))
  | .pc n => some { s with pcs := s.pcs.set n c }
  | .ic k j => match s.g[k]? with
    | some I => some { s with g := s.g.set k { I with cells := I.cells.set j c } }
    | none => none
  | _ => none

section
variable {K : PySem.W.Frag} {W : WX} {m m' : Mp} {σ : St} {H H' : Hp} {s s' : FS}
theorem toD_rep {m' : Mp} {a : Addr} {o : HO} {c : C} (h : m'.P a = some o) (r : RepC K m' o c) : RD K m' (.ref a) c.toD := by
  cases c with
  | lst ds => obtain ⟨vs, rfl, r⟩ := r; exact .lst h r
  | dct ds => obtain ⟨vs, rfl, r⟩ := r; exact .dct h r
theorem setE_get {i j : Nat} {z y : S} (e : (s.env.set i z)[j]? = some y) : (j = i ∧ y = z) ∨ (j ≠ i ∧ s.env[j]? = some y) := by
  by_cases h : i = j
  · subst h
    left
    refine ⟨rfl, ?_⟩
    by_cases hl : i < s.env.length
    · rw [List.getElem?_set_self hl] at e; cases e; rfl
    · rw [List.getElem?_eq_none (by simpa using hl)] at e; cases e
  · rw [List.getElem?_set_ne h] at e
    exact .inr ⟨fun z => h z.symm, e⟩
/-- a slot is filled anew; nothing is owned by it -/
theorem Rel.fill (x : Rel K m σ H s) {i : Nat} {w : Option V} {z : S} (h : SlotOk K m (σ.set i w) H i z) : Rel K m (σ.set i w) H (s.setE i z) := by
  refine ⟨x.pers, x.lock, x.oh, x.op, x.ol, x.lp, ?_, fun j y e => ?_, x.cells, x.cnt, x.ins⟩
  · show (s.env.set i z).length = (σ.set i w).length
    rw [List.length_set, List.length_set]; exact x.len
  · rcases setE_get e with ⟨rfl, rfl⟩ | ⟨hj, e⟩
    · exact h
    · have y' := x.env j y e
      have eσ : (σ.set i w)[j]? = σ[j]? := List.getElem?_set_ne (Ne.symm hj)
      cases y with
      | no => trivial
      | val d => obtain ⟨v, e1, r⟩ := y'; exact ⟨v, eσ.trans e1, r⟩
      | own c => obtain ⟨a, e1, r⟩ := y'; exact ⟨a, eσ.trans e1, r⟩
      | lck c => obtain ⟨a, e1, r⟩ := y'; exact ⟨a, eσ.trans e1, r⟩
      | pc n => exact eσ.trans y'
      | ic k j' => exact ⟨eσ.trans y'.1, y'.2⟩
theorem set_self {i : Nat} {v : V} (h : i < σ.length) : (σ.set i (some v))[i]? = some (some v) := List.getElem?_set_self h
/-- a slot takes a new object -/
theorem Rel.take (x : Rel K m σ H s) {i : Nat} {a : Addr} {o : HO} {c : C} (h1 : m.O a = none) (h2 : m.P a = none) (h3 : m.L a = none) (e : H a = some o) (r : RepC K m o c) (hi : i < σ.length) :
    ∃ m', m.le m' ∧ Rel K m' (σ.set i (some (.ref a))) H (s.setE i (.own c)) := by
  have hO : ∀ b w, m.O b = some w → (fun b => if b = a then some (Own.slot i) else m.O b) b = some w := fun b w q => by
    show (if b = a then some (Own.slot i) else m.O b) = some w
    rw [if_neg fun z => ?_]; exact q
    rw [z, h1] at q; cases q
  have x1 : Rel K { m with O := fun b => if b = a then some (.slot i) else m.O b } σ H s := by
    refine ⟨x.pers, x.lock, fun b w q => ?_, fun b w q => ?_, fun b w q => ?_, x.lp, x.len, fun j z q => ?_, fun n c q => ?_, x.cnt, fun k I q => ?_⟩
    · have q' : (if b = a then some (Own.slot i) else m.O b) = some w := q
      by_cases hb : b = a
      · rw [hb, e]; intro z; cases z
      · rw [if_neg hb] at q'; exact x.oh b w q'
    · have q' : (if b = a then some (Own.slot i) else m.O b) = some w := q
      by_cases hb : b = a
      · rw [hb]; exact h2
      · rw [if_neg hb] at q'; exact x.op b w q'
    · have q' : (if b = a then some (Own.slot i) else m.O b) = some w := q
      by_cases hb : b = a
      · rw [hb]; exact h3
      · rw [if_neg hb] at q'; exact x.ol b w q'
    · have y := x.env j z q
      cases z with
      | own c => obtain ⟨b, e1, o1, u, hu, r⟩ := y; exact ⟨b, e1, hO b _ o1, u, hu, r⟩
      | lck c => obtain ⟨b, e1, ⟨o1, u, hu, r⟩, l⟩ := y; exact ⟨b, e1, ⟨hO b _ o1, u, hu, r⟩, l⟩
      | _ => exact y
    · obtain ⟨o1, u, hu, r⟩ := x.cells n c q
      exact ⟨hO _ _ o1, u, hu, r⟩
    · obtain ⟨p1, p2, ⟨fs, p3, p4⟩, p5, p6, p7⟩ := x.ins k I q
      exact ⟨hO _ _ p1, hO _ _ p2, ⟨fs, p3, RepF.mono (m := m) (m' := { m with O := fun b => if b = a then some (.slot i) else m.O b }) ⟨fun _ _ h => h, Nat.le_refl _, fun _ _ => rfl⟩ (Nat.le_refl _) (fun _ _ => rfl) p4⟩, p5, p6, fun j c q => by
        obtain ⟨o1, u, hu, r⟩ := p7 j c q
        exact ⟨hO _ _ o1, u, hu, r⟩⟩
  refine ⟨{ m with O := fun b => if b = a then some (.slot i) else m.O b }, ⟨fun _ _ h => h, rfl, rfl, Nat.le_refl _, fun _ _ => rfl, fun _ _ => Nat.le_refl _, fun _ _ _ _ => rfl, rfl⟩, x1.fill (i := i) (z := .own c) ?_⟩
  refine ⟨a, set_self hi, ?_, o, e, r⟩
  show (if a = a then some (Own.slot i) else m.O a) = some (Own.slot i)
  rw [if_pos rfl]
/-- an own object is given up: it is data from now on -/
theorem Rel.yield_ (x : Rel K m σ H s) {i : Nat} {a : Addr} {o : HO} {c : C} (es : s.env[i]? = some (.own c)) (e1 : σ[i]? = some (some (.ref a))) (e2 : m.O a = some (.slot i)) (e3 : H a = some o) (r : RepC K m o c) :
    ∃ m', m.le m' ∧ Rel K m' σ H (s.setE i (.val c.toD)) ∧ RD K m' (.ref a) c.toD ∧ (∀ b, m.O b = none → m'.O b = none) ∧ (∀ b, b ≠ a → m'.P b = m.P b) := by
  have hP : ∀ b u, m.P b = some u → upd m.P a o b = some u := fun b u q => by
    rw [upd_ne fun z => ?_]; exact q
    rw [z, x.op a _ e2] at q; cases q
  have kn : m.kn { m with P := upd m.P a o, O := fun b => if b = a then none else m.O b } := ⟨hP, Nat.le_refl _, fun _ _ => rfl⟩
  have hO : ∀ b w, b ≠ a → m.O b = some w → (if b = a then none else m.O b) = some w := fun b w n q => by rw [if_neg n]; exact q
  have hne : ∀ b w, m.O b = some w → w ≠ .slot i → b ≠ a := fun b w q n z => by
    rw [z, e2] at q; cases q; exact n rfl
  have ra : RD K { m with P := upd m.P a o, O := fun b => if b = a then none else m.O b } (.ref a) c.toD := toD_rep upd_same (r.mono kn)
  refine ⟨{ m with P := upd m.P a o, O := fun b => if b = a then none else m.O b }, ⟨hP, rfl, rfl, Nat.le_refl _, fun _ _ => rfl, fun _ _ => Nat.le_refl _, fun _ _ _ _ => rfl, rfl⟩, ⟨fun b u q => ?_, x.lock, fun b w q => ?_, fun b w q => ?_, fun b w q => ?_, fun b u q => ?_, ?_, fun j z q => ?_, fun n c q => ?_, x.cnt, fun k I q => ?_⟩, ra, fun b q => ?_, fun b hb => upd_ne hb⟩
  · by_cases hb : b = a
    · subst hb
      have q' : upd m.P b o b = some u := q
      rw [upd_same] at q'; cases q'; exact e3
    · have q' : upd m.P a o b = some u := q
      rw [upd_ne hb] at q'; exact x.pers b u q'
  · have q' : (if b = a then none else m.O b) = some w := q
    by_cases hb : b = a
    · rw [if_pos hb] at q'; cases q'
    · rw [if_neg hb] at q'; exact x.oh b w q'
  · have q' : (if b = a then none else m.O b) = some w := q
    by_cases hb : b = a
    · rw [if_pos hb] at q'; cases q'
    · rw [if_neg hb] at q'
      show upd m.P a o b = none
      rw [upd_ne hb]; exact x.op b w q'
  · have q' : (if b = a then none else m.O b) = some w := q
    by_cases hb : b = a
    · rw [if_pos hb] at q'; cases q'
    · rw [if_neg hb] at q'; exact x.ol b w q'
  · show upd m.P a o b = none
    rw [upd_ne fun z => ?_]; exact x.lp b u q
    have q' : m.L b = some u := q
    rw [z, x.ol a _ e2] at q'; cases q'
  · show (s.env.set i _).length = σ.length
    rw [List.length_set]; exact x.len
  · rcases setE_get q with ⟨rfl, rfl⟩ | ⟨hj, q⟩
    · exact ⟨_, e1, ra⟩
    · have y := x.env j z q
      cases z with
      | no => trivial
      | val d => obtain ⟨v, f1, r⟩ := y; exact ⟨v, f1, RepD.mono kn.P kn.n kn.io r⟩
      | own c' =>
        obtain ⟨b, f1, o1, u, hu, r⟩ := y
        exact ⟨b, f1, hO b _ (hne b _ o1 fun z => hj (by injection z)) o1, u, hu, r.mono kn⟩
      | lck c' =>
        obtain ⟨b, f1, ⟨o1, u, hu, r⟩, l⟩ := y
        exact ⟨b, f1, ⟨hO b _ (hne b _ o1 fun z => hj (by injection z)) o1, u, hu, r.mono kn⟩, l⟩
      | pc n => exact y
      | ic k j' => exact y
  · obtain ⟨o1, u, hu, r⟩ := x.cells n c q
    exact ⟨hO _ _ (hne _ _ o1 fun z => nomatch z) o1, u, hu, r.mono kn⟩
  · obtain ⟨p1, p2, ⟨fs, p3, p4⟩, p5, p6, p7⟩ := x.ins k I q
    exact ⟨hO _ _ (hne _ _ p1 fun z => nomatch z) p1, hO _ _ (hne _ _ p2 fun z => nomatch z) p2, ⟨fs, p3, p4.mono kn (Nat.le_refl _) fun _ _ => rfl⟩, p5, p6, fun j c q => by
      obtain ⟨o1, u, hu, r⟩ := p7 j c q
      exact ⟨hO _ _ (hne _ _ o1 fun z => nomatch z) o1, u, hu, r.mono kn⟩⟩
  · show (if b = a then none else m.O b) = none
    by_cases hb : b = a
    · rw [if_pos hb]
    · rw [if_neg hb]; exact q
/-- what is pending stays pending -/
structure Sim (a b : Mp) : Prop where
  kn : a.kn b
  al : b.al = a.al
  nc : ∀ k, k < a.n → a.nc k ≤ b.nc k
  ic : ∀ k j, k < a.n → j < a.nc k → b.ic k j = a.ic k j
  free : ∀ p, a.O p = none → a.P p = none → a.L p = none → b.O p = none ∧ b.P p = none ∧ b.L p = none
theorem RepR.sim {a b : Mp} (h : Sim a b) {v : V} {r : R} (q : RepR K a σ H v r) : RepR K b σ H v r := by
  cases r with
  | val d => exact RepD.mono h.kn.P h.kn.n h.kn.io q
  | tmp c =>
    obtain ⟨p, e, g1, g2, g3, u, hu, ru⟩ := q
    obtain ⟨f1, f2, f3⟩ := h.free p g1 g2 g3
    exact ⟨p, e, f1, f2, f3, u, hu, ru.mono h.kn⟩
  | var i => exact q
  | pc n => show v = .ref (b.al n); rw [h.al]; exact q
  | ic k j =>
    obtain ⟨g1, g2, g3⟩ := q
    exact ⟨by rw [h.ic k j g2 g3]; exact g1, Nat.lt_of_lt_of_le g2 h.kn.n, Nat.lt_of_lt_of_le g3 (h.nc k g2)⟩
theorem Sim.lk {a b : Mp} (h : Sim a b) {v : V} {r : R} (q : RepR K a σ H v r) : Sim (lk a v r H) (lk b v r H) := by
  have qb := q.sim h
  refine ⟨⟨?_, ?_, ?_⟩, ?_, ?_, ?_, ?_⟩
  · rw [lk_P, lk_P]; exact h.kn.P
  · rw [lk_n, lk_n]; exact h.kn.n
  · rw [lk_n, lk_io, lk_io]; exact h.kn.io
  · rw [lk_al, lk_al]; exact h.al
  · rw [lk_n, lk_nc, lk_nc]; exact h.nc
  · rw [lk_n, lk_nc, lk_ic, lk_ic]; exact h.ic
  · rw [lk_O, lk_O, lk_P, lk_P]
    cases r with
    | tmp c =>
      obtain ⟨p, e, g1, g2, g3, u, hu, ru⟩ := qb
      subst e
      intro p' f1 f2 f3
      have f3' : (if p' = p then H p else a.L p') = none := f3
      by_cases hp : p' = p
      · rw [if_pos hp, hu] at f3'; cases f3'
      · rw [if_neg hp] at f3'
        obtain ⟨k1, k2, k3⟩ := h.free p' f1 f2 f3'
        exact ⟨k1, k2, by show (if p' = p then H p else b.L p') = none; rw [if_neg hp]; exact k3⟩
    | val _ => cases v <;> exact h.free
    | var _ => cases v <;> exact h.free
    | pc _ => cases v <;> exact h.free
    | ic _ _ => cases v <;> exact h.free
theorem RepRs.sim {a b : Mp} (h : Sim a b) : ∀ {vs : List V} {rs : List R}, RepRs K σ H a vs rs → RepRs K σ H b vs rs
  | [], [], _ => trivial
  | v :: vs, r :: rs, q => ⟨q.1.sim h, RepRs.sim (h.lk q.1) q.2⟩
  | [], _ :: _, q => q.elim
  | _ :: _, [], q => q.elim
theorem RepR.frz {v : V} {r : R} {d : D} (x : Rel K m σ H s) (p : RepR K m σ H v r) (e : frzR r s = some (d, s')) :
    ∃ m', m.le m' ∧ Rel K m' σ H s' ∧ RD K m' v d ∧ Sim (lk m v r H) m' := by
  cases r with
  | val d' =>
    cases e
    exact ⟨m, Mp.le.refl m, x, p, ⟨⟨fun _ _ h => h, Nat.le_refl _, fun _ _ => rfl⟩, rfl, fun _ _ => Nat.le_refl _, fun _ _ _ _ => rfl, fun _ a b c => ⟨a, b, c⟩⟩⟩
  | tmp c =>
    cases e
    obtain ⟨a, rfl, h1, h2, h3, o, ho, rc⟩ := p
    obtain ⟨x2, l2⟩ := x.settle h1 h3 ho h2
    refine ⟨_, l2, x2, toD_rep upd_same (rc.mono l2.kn), ⟨⟨l2.P, l2.n, l2.io⟩, rfl, l2.nc, l2.ic, fun p f1 f2 f3 => ?_⟩⟩
    have f3' : (if p = a then H a else m.L p) = none := f3
    have hp : p ≠ a := fun z => by rw [if_pos z, ho] at f3'; cases f3'
    rw [if_neg hp] at f3'
    exact ⟨f1, by show upd m.P a o p = none; rw [upd_ne hp]; exact f2, f3'⟩
  | var i =>
    simp only [frzR] at e
    cases q : s.env[i]? with
    | none => rw [q] at e; cases e
    | some z =>
      rw [q] at e
      cases z with
      | own c =>
        cases e
        obtain ⟨a, ha, ho, o, hh, rc⟩ := x.env i _ q
        have p' : σ[i]? = some (some v) := p
        rw [ha] at p'; cases p'
        obtain ⟨m', l, x', r', oo, pp⟩ := x.yield_ q ha ho hh rc
        refine ⟨m', l, x', r', ⟨l.kn, l.al, l.nc, l.ic, fun p f1 f2 f3 => ?_⟩⟩
        have f1' : m.O p = none := f1
        have hp : p ≠ a := fun z => by rw [z, ho] at f1'; cases f1'
        exact ⟨oo p f1, by rw [pp p hp]; exact f2, by rw [l.L]; exact f3⟩
      | _ => cases e
  | pc n => cases e
  | ic k j => cases e
theorem frzAll_ok : ∀ {rs : List R} {vs : List V} {ds : List D} {m : Mp} {s s' : FS}, Rel K m σ H s → RepRs K σ H m vs rs → frzAll rs s = some (ds, s') → ∃ m', m.le m' ∧ Rel K m' σ H s' ∧ RDs K m' vs ds
  | [], [], ds, m, s, s', x, _, e => by cases e; exact ⟨m, Mp.le.refl m, x, .nil⟩
  | r :: rs, v :: vs, ds, m, s, s', x, p, e => by
    simp only [frzAll] at e
    cases q : frzR r s with
    | none => rw [q] at e; cases e
    | some z =>
      obtain ⟨d, s1⟩ := z
      rw [q] at e
      simp only [] at e
      cases q2 : frzAll rs s1 with
      | none => rw [q2] at e; cases e
      | some z2 =>
        obtain ⟨ds2, s2⟩ := z2
        rw [q2] at e
        cases e
        obtain ⟨m1, l1, x1, r1, sm⟩ := p.1.frz x q
        obtain ⟨m2, l2, x2, r2⟩ := frzAll_ok x1 (RepRs.sim sm p.2) q2
        exact ⟨m2, l1.trans l2, x2, .cons (RD.mono l2 r1) r2⟩
  | [], _ :: _, _, _, _, _, _, p, _ => p.elim
  | _ :: _, [], _, _, _, _, _, p, _ => p.elim

/-- a place of one's own is written -/
theorem Rel.put {v : V} {r : R} {c0 c : C} {o : HO} (x : Rel K m σ H s) (p : RepR K m σ H v r) (e0 : cont s r = some c0) (e : put s r c = some s') (rc : RepC K m o c) :
    ∃ a, v = .ref a ∧ Rel K m σ (upd H a o) s' := by
  have keepP : ∀ {a : Addr} {w : Own}, m.O a = some w → ∀ b u, m.P b = some u → upd H a o b = some u := fun {a w} q b u f => by
    rw [upd_ne fun z => ?_]; exact x.pers b u f
    rw [z, x.op a w q] at f; cases f
  have keepL : ∀ {a : Addr} {w : Own}, m.O a = some w → ∀ b u, m.L b = some u → upd H a o b = some u := fun {a w} q b u f => by
    rw [upd_ne fun z => ?_]; exact x.lock b u f
    rw [z, x.ol a w q] at f; cases f
  have keepO : ∀ {a : Addr} b w, m.O b = some w → upd H a o b ≠ none := fun {a} b w f => by
    by_cases hb : b = a
    · rw [hb, upd_same]; intro z; cases z
    · rw [upd_ne hb]; exact x.oh b w f
  have slotK : ∀ {a : Addr} {w : Own}, m.O a = some w → ∀ i z, (w ≠ .slot i) → SlotOk K m σ H i z → SlotOk K m σ (upd H a o) i z := fun {a w} q i z n y => by
    cases z with
    | own c' =>
      obtain ⟨b, f1, o1, u, hu, r⟩ := y
      exact ⟨b, f1, o1, u, by rw [upd_ne fun z => ?_]; exact hu; rw [z, q] at o1; cases o1; exact n rfl, r⟩
    | lck c' =>
      obtain ⟨b, f1, ⟨o1, u, hu, r⟩, l⟩ := y
      exact ⟨b, f1, ⟨o1, u, by rw [upd_ne fun z => ?_]; exact hu; rw [z, q] at o1; cases o1; exact n rfl, r⟩, l⟩
    | _ => exact y
  have cellK : ∀ {a : Addr} {w w' : Own}, m.O a = some w → ∀ b c', (w ≠ w') → CellOk K m H w' b c' → CellOk K m (upd H a o) w' b c' := fun {a w w'} q b c' n y => by
    obtain ⟨o1, u, hu, r⟩ := y
    exact ⟨o1, u, by rw [upd_ne fun z => ?_]; exact hu; rw [z, q] at o1; cases o1; exact n rfl, r⟩
  have insK : ∀ {a : Addr} {w : Own}, m.O a = some w → (∀ k, w ≠ .ins k) → (∀ k, w ≠ .idc k) → ∀ k I, (∀ j, w ≠ .ic k j) → InstOk K m H k I → InstOk K m (upd H a o) k I := fun {a w} q n1 n2 k I n3 y => by
    obtain ⟨p1, p2, ⟨fs, p3, p4⟩, p5, p6, p7⟩ := y
    refine ⟨p1, p2, ⟨fs, ?_, p4⟩, ?_, p6, fun j c' h => cellK q _ _ (n3 j) (p7 j c' h)⟩
    · rw [upd_ne fun z => ?_]; exact p3
      rw [z, q] at p1; cases p1; exact n1 k rfl
    · rw [upd_ne fun z => ?_]; exact p5
      rw [z, q] at p2; cases p2; exact n2 k rfl
  cases r with
  | val d => cases e
  | tmp c' => cases e
  | var i =>
    simp only [cont] at e0
    simp only [VL.put] at e
    cases q : s.env[i]? with
    | none => rw [q] at e0; cases e0
    | some z =>
      rw [q] at e0 e
      have go : ∀ (z' : S) (a : Addr), σ[i]? = some (some (.ref a)) → m.O a = some (.slot i) → SlotOk K m σ (upd H a o) i z' → Rel K m σ (upd H a o) (s.setE i z') := fun z' a ha ho hz => by
        refine ⟨keepP ho, keepL ho, keepO, x.op, x.ol, x.lp, ?_, fun j z f => ?_, fun n c' f => cellK ho _ _ (fun z => nomatch z) (x.cells n c' f), x.cnt, fun k I f => insK ho (fun _ z => nomatch z) (fun _ z => nomatch z) k I (fun _ z => nomatch z) (x.ins k I f)⟩
        · show (s.env.set i _).length = σ.length
          rw [List.length_set]; exact x.len
        · rcases setE_get f with ⟨rfl, rfl⟩ | ⟨hj, f⟩
          · exact hz
          · exact slotK ho j z (fun z => hj (by injection z with z; exact z.symm)) (x.env j z f)
      have p' : σ[i]? = some (some v) := p
      cases z with
      | own c' =>
        cases e
        obtain ⟨a, ha, ho, u, hu, ru⟩ := x.env i _ q
        rw [ha] at p'; cases p'
        exact ⟨a, rfl, go _ a ha ho ⟨a, ha, ho, o, upd_same, rc⟩⟩
      | lck c' =>
        cases e
        obtain ⟨a, ha, ⟨ho, u, hu, ru⟩, l⟩ := x.env i _ q
        rw [ha] at p'; cases p'
        exact ⟨a, rfl, go _ a ha ho ⟨a, ha, ⟨ho, o, upd_same, rc⟩, l⟩⟩
      | _ => cases e0
  | pc n =>
    cases e
    have p' : v = .ref (m.al n) := p
    obtain ⟨ho, u, hu, ru⟩ := x.cells n c0 e0
    refine ⟨_, p', ⟨keepP ho, keepL ho, keepO, x.op, x.ol, x.lp, x.len, fun j z f => slotK ho j z (fun z => nomatch z) (x.env j z f), fun n' c' f => ?_, x.cnt, fun k I f => insK ho (fun _ z => nomatch z) (fun _ z => nomatch z) k I (fun _ z => nomatch z) (x.ins k I f)⟩⟩
    have f' : (s.pcs.set n c)[n']? = some c' := f
    by_cases hn : n = n'
    · subst hn
      have hl : n < s.pcs.length := (List.getElem?_eq_some_iff.mp e0).1
      rw [List.getElem?_set_self hl] at f'
      cases f'
      exact ⟨ho, o, upd_same, rc⟩
    · rw [List.getElem?_set_ne hn] at f'
      exact cellK ho _ _ (fun z => hn (by injection z)) (x.cells n' c' f')
  | ic k j =>
    simp only [VL.put] at e
    simp only [cont] at e0
    obtain ⟨p', pk, pj⟩ := p
    cases q : s.g[k]? with
    | none => rw [q] at e; cases e
    | some I =>
      rw [q] at e e0
      cases e
      obtain ⟨g1, g2, ⟨fs, g3, g4⟩, g5, g6, g7⟩ := x.ins k I q
      obtain ⟨ho, u, hu, ru⟩ := g7 j c0 e0
      have hk : k < s.g.length := (List.getElem?_eq_some_iff.mp q).1
      refine ⟨_, p', ⟨keepP ho, keepL ho, keepO, x.op, x.ol, x.lp, x.len, fun j' z f => slotK ho j' z (fun z => nomatch z) (x.env j' z f), fun n' c' f => cellK ho _ _ (fun z => nomatch z) (x.cells n' c' f), ?_, fun k' I' f => ?_⟩⟩
      · show m.n = (s.g.set k _).length
        rw [List.length_set]; exact x.cnt
      · have f' : (s.g.set k { I with cells := I.cells.set j c })[k']? = some I' := f
        by_cases hkk : k = k'
        · subst hkk
          rw [List.getElem?_set_self hk] at f'
          cases f'
          refine ⟨g1, g2, ⟨fs, ?_, g4⟩, ?_, ?_, fun j' c' f => ?_⟩
          · rw [upd_ne fun z => ?_]; exact g3
            rw [z, ho] at g1; cases g1
          · rw [upd_ne fun z => ?_]; exact g5
            rw [z, ho] at g2; cases g2
          · show m.nc k = (I.cells.set j c).length
            rw [List.length_set]; exact g6
          · have f' : (I.cells.set j c)[j']? = some c' := f
            by_cases hj : j = j'
            · subst hj
              have hl : j < I.cells.length := (List.getElem?_eq_some_iff.mp e0).1
              rw [List.getElem?_set_self hl] at f'
              cases f'
              exact ⟨ho, o, upd_same, rc⟩
            · rw [List.getElem?_set_ne hj] at f'
              exact cellK ho _ _ (fun z => hj (by injection z)) (g7 j' c' f')
        · rw [List.getElem?_set_ne hkk] at f'
          exact insK ho (fun _ z => nomatch z) (fun _ z => nomatch z) k' I' (fun j' z => hkk (by injection z)) (x.ins k' I' f')
end
end VL

set_option maxRecDepth 100000
set_option maxHeartbeats 4000000
namespace VL
open PySem PySem.Spec L2
open PyProof.Rows hiding St

/-! ### dicts as tables -/
section
variable {κ α : Type} [DecidableEq κ]
def dval (kvs : List (κ × α)) (k : κ) : Option α := (kvs.find? fun kv => decide (kv.1 = k)).map (·.2)
def dput (kvs : List (κ × α)) (k : κ) (v : α) : List (κ × α) :=
  if (kvs.any fun kv => decide (kv.1 = k)) = true then kvs.map (fun kv => if kv.1 = k then (kv.1, v) else kv) else kvs ++ [(k, v)]
def ddrop (kvs : List (κ × α)) (k : κ) : List (κ × α) := kvs.filter fun kv => decide (kv.1 ≠ k)
end
section
variable {K : PySem.W.Frag} {P : Hp} {io : Nat → Addr} {n : Nat}
theorem RepKs.val {k : Key} : ∀ {vs : List (Key × V)} {ds : List (Key × D)}, RepKs K P io n vs ds →
    (dval ds k = none ∧ valV vs k = none) ∨ ∃ d v, dval ds k = some d ∧ valV vs k = some v ∧ RepD K P io n v d
  | _, _, .nil => .inl ⟨rfl, rfl⟩
  | _, _, .cons (k := j) (v := v) (d := d) (vs := vs) (ds := ds) a r => by
    by_cases h : j = k
    · exact .inr ⟨d, v, by simp [dval, List.find?_cons, h], valV_pos h, a⟩
    · have e : dval ((j, d) :: ds) k = dval ds k := by simp [dval, List.find?_cons, h]
      rw [e, valV_neg h]
      exact RepKs.val r
theorem RepKs.any {k : Key} : ∀ {vs : List (Key × V)} {ds : List (Key × D)}, RepKs K P io n vs ds → (vs.any fun kv => decide (kv.1 = k)) = (ds.any fun kv => decide (kv.1 = k))
  | _, _, .nil => rfl
  | _, _, .cons a r => by rw [List.any_cons, List.any_cons, RepKs.any r]
theorem RepKs.repl {k : Key} {v : V} {d : D} (q : RepD K P io n v d) : ∀ {vs : List (Key × V)} {ds : List (Key × D)}, RepKs K P io n vs ds →
    RepKs K P io n (vs.map fun kv => if kv.1 = k then (kv.1, v) else kv) (ds.map fun kv => if kv.1 = k then (kv.1, d) else kv)
  | _, _, .nil => .nil
  | _, _, .cons (k := j) a r => by
    rw [List.map_cons, List.map_cons]
    by_cases h : j = k
    · rw [if_pos h, if_pos h]; exact .cons q (RepKs.repl q r)
    · rw [if_neg h, if_neg h]; exact .cons a (RepKs.repl q r)
theorem RepKs.append : ∀ {vs ws : List (Key × V)} {ds es : List (Key × D)}, RepKs K P io n vs ds → RepKs K P io n ws es → RepKs K P io n (vs ++ ws) (ds ++ es)
  | _, _, _, _, .nil, q => q
  | _, _, _, _, .cons a r, q => .cons a (RepKs.append r q)
theorem RepKs.put {k : Key} {v : V} {d : D} (q : RepD K P io n v d) {vs : List (Key × V)} {ds : List (Key × D)} (r : RepKs K P io n vs ds) : RepKs K P io n (putK vs k v) (dput ds k d) := by
  unfold putK dput
  rw [RepKs.any r]
  split
  · exact RepKs.repl q r
  · exact RepKs.append r (.cons q .nil)
theorem RepKs.drop {k : Key} : ∀ {vs : List (Key × V)} {ds : List (Key × D)}, RepKs K P io n vs ds → RepKs K P io n (dropK vs k) (ddrop ds k)
  | _, _, .nil => .nil
  | _, _, .cons (k := j) a r => by
    unfold dropK ddrop
    rw [List.filter_cons, List.filter_cons]
    by_cases h : j = k
    · simp only [h, ne_eq, not_true_eq_false, decide_false, Bool.false_eq_true, if_false]
      exact RepKs.drop r
    · simp only [ne_eq, h, not_false_eq_true, decide_true, if_true]
      exact .cons a (RepKs.drop r)
end

/-! ### reading operands -/
def asI : R → Option Int
  | .val (.int i) => some i
  | _ => none
def asS : R → Option Str
  | .val (.str x) => some x
  | _ => none
def asBl : R → Option Bool
  | .val (.bl x) => some x
  | _ => none
def asK : R → Option Key
  | .val (.int i) => some (.inl i)
  | .val (.str x) => some (.inr x)
  | _ => none
/-- a list that may be read -/
def seqL (s : FS) (r : R) : Option (List D) := match cont s r with
  | some (.lst xs) => some xs
  | _ => none
def seqT : R → Option (List D)
  | .val (.tup xs) => some xs
  | _ => none
def dctK (s : FS) (r : R) : Option (List (Key × D)) := match cont s r with
  | some (.dct kvs) => some kvs
  | _ => none
section
variable {K : PySem.W.Frag} {m : Mp} {σ : St} {H : Hp} {s : FS} {v : V} {r : R}
theorem asI_ok {i : Int} (p : RepR K m σ H v r) (e : asI r = some i) : v = .int i := by
  unfold asI at e
  split at e
  · cases e; cases p; rfl
  · cases e
theorem asS_ok {x : Str} (p : RepR K m σ H v r) (e : asS r = some x) : v = .str x := by
  unfold asS at e
  split at e
  · cases e; cases p; rfl
  · cases e
theorem asBl_ok {x : Bool} (p : RepR K m σ H v r) (e : asBl r = some x) : v = .bl x := by
  unfold asBl at e
  split at e
  · cases e; cases p; rfl
  · cases e
theorem asK_ok {k : Key} (p : RepR K m σ H v r) (e : asK r = some k) : v = kV k := by
  unfold asK at e
  split at e
  · cases e; cases p; rfl
  · cases e; cases p; rfl
  · cases e
theorem seqL_ok {xs : List D} (x : Rel K m σ H s) (p : RepR K m σ H v r) (e : seqL s r = some xs) : ∃ a vs, v = .ref a ∧ H a = some (.lst vs) ∧ RDs K m vs xs := by
  unfold seqL at e
  cases q : cont s r with
  | none => rw [q] at e; cases e
  | some c =>
    rw [q] at e
    obtain ⟨a, o, e1, e2, e3⟩ := cont_ok x p q
    cases c with
    | lst ds => cases e; obtain ⟨vs, rfl, r⟩ := e3; exact ⟨a, vs, e1, e2, r⟩
    | dct ds => cases e
theorem dctK_ok {xs : List (Key × D)} (x : Rel K m σ H s) (p : RepR K m σ H v r) (e : dctK s r = some xs) : ∃ a vs, v = .ref a ∧ H a = some (.dK vs) ∧ RKs K m vs xs := by
  unfold dctK at e
  cases q : cont s r with
  | none => rw [q] at e; cases e
  | some c =>
    rw [q] at e
    obtain ⟨a, o, e1, e2, e3⟩ := cont_ok x p q
    cases c with
    | lst ds => cases e
    | dct ds => cases e; obtain ⟨vs, rfl, r⟩ := e3; exact ⟨a, vs, e1, e2, r⟩
theorem seqT_ok {xs : List D} (x : Rel K m σ H s) (p : RepR K m σ H v r) (e : seqT r = some xs) : ∃ a vs, v = .ref a ∧ H a = some (.tup vs) ∧ RDs K m vs xs := by
  unfold seqT at e
  split at e
  · cases e
    cases p with
    | tup h r => exact ⟨_, _, rfl, x.pers _ _ h, r⟩
  · cases e
end

/-! ### arithmetic -/
/-- from two ints -/
def kII (p : Int → Int → Option D) : R → R → M R := fun a b s => match asI a, asI b with
  | some i, some j => match p i j with
    | some d => .ok (.val d) s
    | none => .stuck
  | _, _ => .stuck
theorem op2_II {K : PySem.W.Frag} {p : Int → Int → Option D} {r : R2} (h : ∀ m i j d H Q, p i j = some d → (∀ v, RD K m v d → Q v H) → r (.int i) (.int j) H Q) : Op2 K r (kII p) := by
  intro W σ m s H v1 v2 r1 r2 Q x ps q
  unfold kII at q
  cases e1 : asI r1 with
  | none => rw [e1] at q; exact q.elim
  | some i =>
    cases e2 : asI r2 with
    | none => rw [e1, e2] at q; exact q.elim
    | some j =>
      rw [e1, e2] at q
      simp only [] at q
      cases e3 : p i j with
      | none => rw [e3] at q; exact q.elim
      | some d =>
        rw [e3] at q
        rw [asI_ok ps.1 e1, asI_ok ps.2.1 e2]
        exact h m i j d H Q e3 fun v rv => post_val x q rv
def pSub : Int → Int → Option D := fun i j => some (.int (i - j))
def pMod : Int → Int → Option D := fun i j => if 0 < j then some (.int (i % j)) else none
def pDiv : Int → Int → Option D := fun i j => if 0 < j ∧ j < 1073741824 then some (.int (i / j)) else none
def pPow : Int → Int → Option D := fun i j => if 0 ≤ j ∧ j ≤ 1000000 ∧ i.natAbs < 2 ^ 64 then some (.int (i ^ j.toNat)) else none
def pLt : Int → Int → Option D := fun i j => some (.bl (decide (i < j)))
def pLe : Int → Int → Option D := fun i j => some (.bl (decide (i ≤ j)))
def pGt : Int → Int → Option D := fun i j => some (.bl (decide (j < i)))
def pGe : Int → Int → Option D := fun i j => some (.bl (decide (j ≤ i)))
section
variable {K : PySem.W.Frag}
theorem o2_sub : Op2 K (rI0 fun i j => .int (i - j)) (kII pSub) := op2_II fun m i j d H Q e q => by cases e; exact ⟨i, j, rfl, rfl, q _ .int⟩
theorem o2_mod : Op2 K (rI (fun _ j => 0 < j) fun i j => .int (i % j)) (kII pMod) := op2_II fun m i j d H Q e q => by
  unfold pMod at e
  split at e
  · cases e; exact ⟨i, j, rfl, rfl, by assumption, q _ .int⟩
  · cases e
theorem o2_div : Op2 K (rI CDiv fun i j => .int (i / j)) (kII pDiv) := op2_II fun m i j d H Q e q => by
  unfold pDiv at e
  split at e
  · cases e; exact ⟨i, j, rfl, rfl, by assumption, q _ .int⟩
  · cases e
theorem o2_pow : Op2 K (rI CPow fun i j => .int (i ^ j.toNat)) (kII pPow) := op2_II fun m i j d H Q e q => by
  unfold pPow at e
  split at e
  · cases e; exact ⟨i, j, rfl, rfl, by assumption, q _ .int⟩
  · cases e
theorem o2_lt : Op2 K (rI0 fun i j => .bl (decide (i < j))) (kII pLt) := op2_II fun m i j d H Q e q => by cases e; exact ⟨i, j, rfl, rfl, q _ .bl⟩
theorem o2_le : Op2 K (rI0 fun i j => .bl (decide (i ≤ j))) (kII pLe) := op2_II fun m i j d H Q e q => by cases e; exact ⟨i, j, rfl, rfl, q _ .bl⟩
theorem o2_gt : Op2 K (rI0 fun i j => .bl (decide (j < i))) (kII pGt) := op2_II fun m i j d H Q e q => by cases e; exact ⟨i, j, rfl, rfl, q _ .bl⟩
theorem o2_ge : Op2 K (rI0 fun i j => .bl (decide (j ≤ i))) (kII pGe) := op2_II fun m i j d H Q e q => by cases e; exact ⟨i, j, rfl, rfl, q _ .bl⟩
end
/-- + of ints, texts, lists -/
def kAdd : R → R → M R := fun a b s => match asI a, asI b with
  | some i, some j => .ok (.val (.int (i + j))) s
  | _, _ => match asS a, asS b with
    | some x, some y => if x.length + y.length ≤ sizeLine then .ok (.val (.str (x ++ y))) s else .stuck
    | _, _ => match seqL s a, seqL s b with
      | some xs, some ys => if xs.length + ys.length ≤ sizeLine then .ok (.tmp (.lst (xs ++ ys))) s else .stuck
      | _, _ => .stuck
def rAdd3 : R2 := fun x y H Q => rI0 (fun i j => .int (i + j)) x y H Q ∨ ((∃ i j, x = .str i ∧ y = .str j ∧ i.length + j.length ≤ sizeLine ∧ Q (.str (i ++ j)) H) ∨ rCat x y H Q)
theorem op_add3 {X : Cx} : OpR X (binaryOp .Add) rAdd3 := OpR.or op_add (OpR.or op_add_str op_cat)
theorem o2_add {K : PySem.W.Frag} : Op2 K rAdd3 kAdd := by
  intro W σ m s H v1 v2 r1 r2 Q x ps q
  unfold kAdd at q
  have str : Post K W m σ (match asS r1, asS r2 with
    | some x, some y => if x.length + y.length ≤ sizeLine then .ok (.val (.str (x ++ y))) s else .stuck
    | _, _ => match seqL s r1, seqL s r2 with
      | some xs, some ys => if xs.length + ys.length ≤ sizeLine then .ok (.tmp (.lst (xs ++ ys))) s else .stuck
      | _, _ => .stuck) (RpE K σ) Q → rAdd3 v1 v2 H Q := fun q => by
    have lst : Post K W m σ (match seqL s r1, seqL s r2 with
      | some xs, some ys => if xs.length + ys.length ≤ sizeLine then .ok (.tmp (.lst (xs ++ ys))) s else .stuck
      | _, _ => .stuck) (RpE K σ) Q → rAdd3 v1 v2 H Q := fun q => by
      cases e1 : seqL s r1 with
      | none => rw [e1] at q; exact q.elim
      | some xs =>
        cases e2 : seqL s r2 with
        | none => rw [e1, e2] at q; exact q.elim
        | some ys =>
          rw [e1, e2] at q
          simp only [] at q
          split at q
          · rename_i hl
            obtain ⟨a, vs, rfl, ha, ra⟩ := seqL_ok x ps.1 e1
            have p2 := ps.2.1
            have x2 := x.lk ps.1
            obtain ⟨b, ws, rfl, hb, rb⟩ := seqL_ok x2 p2 e2
            rw [show RDs K (lk m (.ref a) r1 H) ws ys = RepDs K m.P m.io m.n ws ys by unfold RDs; rw [lk_P, lk_io, lk_n]] at rb
            refine .inr (.inr ⟨a, b, vs, ws, rfl, rfl, ha, hb, by rw [ra.length, rb.length]; exact hl, fun p n => ?_⟩)
            exact post_tmp x q n ⟨_, rfl, ra.append rb⟩
          · exact q.elim
    cases e1 : asS r1 with
    | none => rw [e1] at q; exact lst q
    | some a =>
      cases e2 : asS r2 with
      | none => rw [e1, e2] at q; exact lst q
      | some b =>
        rw [e1, e2] at q
        simp only [] at q
        split at q
        · rename_i hl
          exact .inr (.inl ⟨a, b, asS_ok ps.1 e1, asS_ok ps.2.1 e2, hl, post_val x q .str⟩)
        · exact q.elim
  cases e1 : asI r1 with
  | none => rw [e1] at q; exact str q
  | some i =>
    cases e2 : asI r2 with
    | none => rw [e1, e2] at q; exact str q
    | some j =>
      rw [e1, e2] at q
      exact .inl ⟨i, j, asI_ok ps.1 e1, asI_ok ps.2.1 e2, post_val x q .int⟩
/-- * of ints (one of them below 2 ^ 64), a list times an int -/
def kMul : R → R → M R := fun a b s => match asI a, asI b with
  | some i, some j => if (-(2 ^ 64) < i ∧ i < 2 ^ 64) ∨ (-(2 ^ 64) < j ∧ j < 2 ^ 64) then .ok (.val (.int (i * j))) s else .stuck
  | _, _ => match seqL s a, asI b with
    | some xs, some j => if -(2 ^ 63) ≤ j ∧ j < 2 ^ 63 ∧ xs.length * j.toNat ≤ sizeLine then .ok (.tmp (.lst (List.replicate j.toNat xs).flatten)) s else .stuck
    | _, _ => .stuck
def rMul2 : R2 := fun x y H Q => rI CMul (fun i j => .int (i * j)) x y H Q ∨ rRep x y H Q
theorem op_mul2 {X : Cx} : OpR X (binaryOp .Mult) rMul2 := OpR.or op_mul op_rep
theorem RepDs.rep {K : PySem.W.Frag} {P : Hp} {io : Nat → Addr} {n : Nat} {vs : List V} {ds : List D} (r : RepDs K P io n vs ds) : ∀ k : Nat, RepDs K P io n (List.replicate k vs).flatten (List.replicate k ds).flatten
  | 0 => .nil
  | k + 1 => by
    rw [List.replicate_succ, List.replicate_succ, List.flatten_cons, List.flatten_cons]
    exact r.append (r.rep k)
theorem o2_mul {K : PySem.W.Frag} : Op2 K rMul2 kMul := by
  intro W σ m s H v1 v2 r1 r2 Q x ps q
  unfold kMul at q
  have lst : Post K W m σ (match seqL s r1, asI r2 with
    | some xs, some j => if -(2 ^ 63) ≤ j ∧ j < 2 ^ 63 ∧ xs.length * j.toNat ≤ sizeLine then .ok (.tmp (.lst (List.replicate j.toNat xs).flatten)) s else .stuck
    | _, _ => .stuck) (RpE K σ) Q → rMul2 v1 v2 H Q := fun q => by
    cases e1 : seqL s r1 with
    | none => rw [e1] at q; exact q.elim
    | some xs =>
      cases e2 : asI r2 with
      | none => rw [e1, e2] at q; exact q.elim
      | some j =>
        rw [e1, e2] at q
        simp only [] at q
        split at q
        · rename_i hl
          obtain ⟨a, vs, rfl, ha, ra⟩ := seqL_ok x ps.1 e1
          refine .inr ⟨a, j, vs, rfl, asI_ok ps.2.1 e2, ha, hl.1, hl.2.1, by rw [ra.length]; exact hl.2.2, fun p n => ?_⟩
          exact post_tmp x q n ⟨_, rfl, RepDs.rep ra _⟩
        · exact q.elim
  cases e1 : asI r1 with
  | none => rw [e1] at q; exact lst q
  | some i =>
    cases e2 : asI r2 with
    | none =>
      rw [e1, e2] at q
      cases z : seqL s r1 with
      | none => rw [z] at q; exact q.elim
      | some xs => rw [z] at q; exact q.elim
    | some j =>
      rw [e1, e2] at q
      simp only [] at q
      split at q
      · rename_i hl
        exact .inl ⟨i, j, asI_ok ps.1 e1, asI_ok ps.2.1 e2, hl, post_val x q .int⟩
      · exact q.elim
def kNeg : R → M R := fun a s => match asI a with
  | some i => .ok (.val (.int (-i))) s
  | none => .stuck
theorem o1_neg {K : PySem.W.Frag} : Op1 K (rU fun i => .int (-i)) kNeg := by
  intro W σ m s H v r Q x p q
  unfold kNeg at q
  cases e : asI r with
  | none => rw [e] at q; exact q.elim
  | some i => rw [e] at q; exact ⟨i, asI_ok p e, post_val x q .int⟩

/-! ### equality -/
mutual
def D.pd : D → Option PyData
  | .non => some .none
  | .bl b => some (.bool b)
  | .int i => some (.int i)
  | .str x => some (.str x)
  | .ins _ => none
  | .frz _ => none
  | .dct _ => none
  | .lst xs => (D.pds xs).map .list
  | .tup xs => (D.pds xs).map .tuple
def D.pds : List D → Option (List PyData)
  | [] => some []
  | x :: xs => match D.pd x, D.pds xs with
    | some a, some b => some (a :: b)
    | _, _ => none
end
def rPd (s : FS) (r : R) : Option PyData := match r with
  | .val d => d.pd
  | r => match seqL s r with
    | some xs => (D.pds xs).map .list
    | none => none
section
variable {K : PySem.W.Frag} {m : Mp} {H : Hp}
mutual
theorem RepD.dp (hp : ∀ a o, m.P a = some o → H a = some o) : ∀ {v : V} {d : D} {p : PyData}, RD K m v d → D.pd d = some p → Dp K H v p
  | _, _, _, .non, e => by cases e; exact .non
  | _, _, _, .bl, e => by cases e; exact .bl _
  | _, _, _, .int, e => by cases e; exact .int _
  | _, _, _, .str, e => by cases e; exact .str _
  | _, _, _, .ins _, e => by cases e
  | _, _, _, .frz _ _, e => by cases e
  | _, _, _, .dct _ _, e => by cases e
  | _, .lst xs, _, .lst ha r, e => by
    unfold D.pd at e
    cases q : D.pds xs with
    | none => rw [q] at e; cases e
    | some ps => rw [q] at e; cases e; exact .lst (SqL.of (hp _ _ ha)) (RepDs.dp hp r q)
  | _, .tup xs, _, .tup ha r, e => by
    unfold D.pd at e
    cases q : D.pds xs with
    | none => rw [q] at e; cases e
    | some ps => rw [q] at e; cases e; exact .tup (SqT.of (hp _ _ ha)) (RepDs.dp hp r q)
theorem RepDs.dp (hp : ∀ a o, m.P a = some o → H a = some o) : ∀ {vs : List V} {ds : List D} {ps : List PyData}, RDs K m vs ds → D.pds ds = some ps → DpAll K H vs ps
  | _, _, _, .nil, e => by cases e; exact .nil
  | _, d :: ds, _, .cons a r, e => by
    unfold D.pds at e
    cases q1 : D.pd d with
    | none => rw [q1] at e; cases e
    | some p =>
      cases q2 : D.pds ds with
      | none => rw [q1, q2] at e; cases e
      | some ps => rw [q1, q2] at e; cases e; exact .cons (RepD.dp hp a q1) (RepDs.dp hp r q2)
end
end
theorem rPd_ok {K : PySem.W.Frag} {m : Mp} {σ : St} {H : Hp} {s : FS} {v : V} {r : R} {p : PyData} (x : Rel K m σ H s) (q : RepR K m σ H v r) (e : rPd s r = some p) : Dp K H v p := by
  have go : ∀ {r : R}, RepR K m σ H v r → (match seqL s r with | some xs => (D.pds xs).map PyData.list | none => none) = some p → Dp K H v p := fun {r} q e => by
    cases z : seqL s r with
    | none => rw [z] at e; cases e
    | some xs =>
      rw [z] at e
      simp only [] at e
      cases z2 : D.pds xs with
      | none => rw [z2] at e; cases e
      | some ps =>
        rw [z2] at e
        cases e
        obtain ⟨a, vs, rfl, ha, ra⟩ := seqL_ok x q z
        exact .lst (SqL.of ha) (RepDs.dp x.pers ra z2)
  cases r with
  | val d => exact RepD.dp x.pers q e
  | tmp c => exact go q e
  | var i => exact go q e
  | pc n => exact go q e
  | ic k j => exact go q e
/-- the scalars that == tells apart -/
def scalD : D → D → Bool
  | .non, .non => true | .non, .int _ => true | .int _, .non => true | .non, .bl _ => true | .bl _, .non => true | .non, .str _ => true | .str _, .non => true
  | .int _, .int _ => true | .bl _, .bl _ => true | .str _, .str _ => true | .int _, .str _ => true | .str _, .int _ => true | .bl _, .str _ => true | .str _, .bl _ => true
  | _, _ => false
def eqS : D → D → Bool
  | .non, .non => true
  | .int i, .int j => decide (i = j)
  | .bl i, .bl j => decide (i = j)
  | .str i, .str j => decide (i = j)
  | _, _ => false
def eqSc : R → R → Option Bool
  | .val a, .val b => if scalD a b = true then some (eqS a b) else none
  | _, _ => none
theorem eqSc_ok {K : PySem.W.Frag} {m m' : Mp} {σ : St} {H : Hp} {v1 v2 : V} {r1 r2 : R} {b : Bool} (p1 : RepR K m σ H v1 r1) (p2 : RepR K m' σ H v2 r2) (e : eqSc r1 r2 = some b) : scal v1 v2 = true ∧ decide (v1 = v2) = b := by
  unfold eqSc at e
  split at e
  · rename_i a b'
    split at e
    · rename_i hs
      cases e
      cases a <;> cases b' <;> first
        | (cases hs; done)
        | (cases p1; cases p2; refine ⟨rfl, ?_⟩; simp only [eqS, V.int.injEq, V.bl.injEq, V.str.injEq, reduceCtorEq, decide_false, decide_true])
    · cases e
  · cases e
/-- ==, != of data: scalars, lists and tuples at any depth -/
def kEqN (neg : Bool) : R → R → M R := fun a b s => match eqSc a b with
  | some k => .ok (.val (.bl (k ^^ neg))) s
  | none => match rPd s a, rPd s b with
    | some p, some q => if SeqAt.shaped p = true ∧ SeqAt.shaped q = true then .ok (.val (.bl (PyData.eqv p q ^^ neg))) s else .stuck
    | _, _ => .stuck
def rEq3 (K : PySem.W.Frag) : R2 := fun x y H Q => rEq x y H Q ∨ rEqD K x y H Q
def rNe3 (K : PySem.W.Frag) : R2 := fun x y H Q => rNe x y H Q ∨ rNeD K x y H Q
theorem op_eq3 {X : Cx} (hu : X.A.units + 64 < cLine) : OpR X (compareOp .Eq) (rEq3 X.K) := OpR.or op_eq (op_eqD hu)
theorem op_ne3 {X : Cx} (hu : X.A.units + 64 < cLine) : OpR X (compareOp .NotEq) (rNe3 X.K) := OpR.or op_ne (op_neD hu)
theorem dp_lk {K : PySem.W.Frag} {σ : St} {m : Mp} {H : Hp} {s : FS} {v1 v2 : V} {r1 r2 : R} {p q : PyData} (x : Rel K m σ H s) (ps : RepRs K σ H m [v1, v2] [r1, r2]) (e1 : rPd s r1 = some p) (e2 : rPd s r2 = some q) : Dp K H v1 p ∧ Dp K H v2 q :=
  ⟨rPd_ok x ps.1 e1, rPd_ok (x.lk ps.1) ps.2.1 e2⟩
theorem o2_eq {K : PySem.W.Frag} : Op2 K (rEq3 K) (kEqN false) := by
  intro W σ m s H v1 v2 r1 r2 Q x ps q
  unfold kEqN at q
  cases e : eqSc r1 r2 with
  | some k =>
    rw [e] at q
    obtain ⟨h1, h2⟩ := eqSc_ok ps.1 ps.2.1 e
    refine .inl ⟨h1, ?_⟩
    rw [h2]
    simpa using post_val x q .bl
  | none =>
    rw [e] at q
    simp only [] at q
    cases e1 : rPd s r1 with
    | none => rw [e1] at q; exact q.elim
    | some p1 =>
      cases e2 : rPd s r2 with
      | none => rw [e1, e2] at q; exact q.elim
      | some p2 =>
        rw [e1, e2] at q
        simp only [] at q
        split at q
        · rename_i hs
          obtain ⟨d1, d2⟩ := dp_lk x ps e1 e2
          exact .inr ⟨p1, p2, d1, d2, hs.1, hs.2, by simpa using post_val x q .bl⟩
        · exact q.elim
theorem o2_ne {K : PySem.W.Frag} : Op2 K (rNe3 K) (kEqN true) := by
  intro W σ m s H v1 v2 r1 r2 Q x ps q
  unfold kEqN at q
  cases e : eqSc r1 r2 with
  | some k =>
    rw [e] at q
    obtain ⟨h1, h2⟩ := eqSc_ok ps.1 ps.2.1 e
    refine .inl ⟨h1, ?_⟩
    rw [h2]
    simpa using post_val x q .bl
  | none =>
    rw [e] at q
    simp only [] at q
    cases e1 : rPd s r1 with
    | none => rw [e1] at q; exact q.elim
    | some p1 =>
      cases e2 : rPd s r2 with
      | none => rw [e1, e2] at q; exact q.elim
      | some p2 =>
        rw [e1, e2] at q
        simp only [] at q
        split at q
        · rename_i hs
          obtain ⟨d1, d2⟩ := dp_lk x ps e1 e2
          exact .inr ⟨p1, p2, d1, d2, hs.1, hs.2, by simpa using post_val x q .bl⟩
        · exact q.elim

/-! ### is None, is True -/
def isNonR : R → Bool
  | .val .non => true
  | _ => false
def isBlR (b : Bool) : R → Bool
  | .val (.bl c) => b == c
  | _ => false
theorem isNonR_ok {K : PySem.W.Frag} {m : Mp} {σ : St} {H : Hp} {v : V} {r : R} {s : FS} (x : Rel K m σ H s) (p : RepR K m σ H v r) (he : ∀ i, r = .var i → (cont s r).isSome = true) : decide (v = .non) = isNonR r := by
  cases r with
  | val d => cases p <;> rfl
  | tmp c => obtain ⟨a, rfl, _⟩ := p; rfl
  | var i =>
    cases e : cont s (.var i) with
    | none => have := he i rfl; rw [e] at this; cases this
    | some c => obtain ⟨a, o, rfl, _⟩ := cont_ok x p e; rfl
  | pc n => have p' : v = .ref (m.al n) := p; rw [p']; rfl
  | ic k j => obtain ⟨rfl, _⟩ := p; rfl
def placeOk (s : FS) (r : R) : Bool := match r with
  | .var _ => (cont s r).isSome
  | _ => true
/-- x is y, x is not y: y None or a truth value -/
def kIsN (neg : Bool) : R → R → M R := fun a b s => if placeOk s a = true then (match b with
  | .val .non => .ok (.val (.bl (isNonR a ^^ neg))) s
  | .val (.bl c) => .ok (.val (.bl (isBlR c a ^^ neg))) s
  | _ => .stuck) else .stuck
/-- x is y where y is None or a truth value, x anything but a built-in class -/
def rIs (neg : Bool) : R2 := fun x y H Q => (y = .non ∧ Q (.bl (decide (x = .non) ^^ neg)) H) ∨ ∃ b, y = .bl b ∧ Q (.bl (decide (x = .bl b) ^^ neg)) H
theorem is_bool_gen {M : Model} {A : Around} {E : Value → Shared → Prop} {s : Shared} {Q : Value → Shared → Prop} {v : Value} {b : Bool} (hv : ∀ i, v ≠ .builtin i) (h : Q (.bool (v == .bool b)) s) : wpAny M A (compareOp .Is v (.bool b)) Q E s := by
  cases v with
  | builtin i => exact absurd rfl (hv i)
  | _ => exact wpAny_pure h
theorem isnot_bool_gen {M : Model} {A : Around} {E : Value → Shared → Prop} {s : Shared} {Q : Value → Shared → Prop} {v : Value} {b : Bool} (hv : ∀ i, v ≠ .builtin i) (h : Q (.bool (!(v == .bool b))) s) : wpAny M A (compareOp .IsNot v (.bool b)) Q E s := by
  cases v with
  | builtin i => exact absurd rfl (hv i)
  | _ => exact wpAny_pure h
theorem RelV.nb {x : V} {v : Value} (r : RelV x v) : ∀ i, v ≠ .builtin i := by
  intro i z
  subst z
  cases x <;> first
    | (cases r; done)
    | (obtain ⟨t, h⟩ := r; cases h)
theorem RelV.bl_iff {x : V} {v : Value} {b : Bool} (r : RelV x v) : (v == Value.bool b) = decide (x = .bl b) := by
  rw [Bool.eq_iff_iff]
  simp only [beq_iff_eq, decide_eq_true_eq]
  cases x with
  | bl c =>
    cases (show v = Value.bool c from r)
    simp
  | non => cases (show v = Value.none from r); simp
  | int i => obtain ⟨t, h⟩ := (show ∃ t, v = Value.int i t from r); subst h; simp
  | str i => obtain ⟨t, h⟩ := (show ∃ t, v = Value.str i t from r); subst h; simp
  | byt i => obtain ⟨t, h⟩ := (show ∃ t, v = Value.bytes i t from r); subst h; simp
  | flt i => obtain ⟨t, h⟩ := (show ∃ t, v = Value.float i t from r); subst h; simp
  | ref a => cases (show v = Value.ref a from r); simp
  | ty n => cases (show v = Value.type n from r); simp
theorem op_is3 {X : Cx} : OpR X (compareOp .Is) (rIs false) := by
  intro pins s σ H x y v u Q I rx ry h
  rcases h with ⟨rfl, q⟩ | ⟨b, rfl, q⟩
  · exact op_isN pins s σ H x .non v u Q I rx ry ⟨rfl, by simpa using q⟩
  · cases (show u = Value.bool b from ry)
    exact is_bool_gen (RelV.nb rx) (fin_bl I q (by rw [RelV.bl_iff rx]; simp))
theorem op_isnot3 {X : Cx} : OpR X (compareOp .IsNot) (rIs true) := by
  intro pins s σ H x y v u Q I rx ry h
  rcases h with ⟨rfl, q⟩ | ⟨b, rfl, q⟩
  · exact op_notN pins s σ H x .non v u Q I rx ry ⟨rfl, by simpa using q⟩
  · cases (show u = Value.bool b from ry)
    exact isnot_bool_gen (RelV.nb rx) (fin_bl I q (by rw [RelV.bl_iff rx]; simp))
theorem isBlR_ok {K : PySem.W.Frag} {m : Mp} {σ : St} {H : Hp} {v : V} {r : R} {s : FS} {b : Bool} (x : Rel K m σ H s) (p : RepR K m σ H v r) (he : ∀ i, r = .var i → (cont s r).isSome = true) : decide (v = .bl b) = isBlR b r := by
  cases r with
  | val d => cases p <;> first | rfl | (rename_i c; cases b <;> cases c <;> rfl)
  | tmp c => obtain ⟨a, rfl, _⟩ := p; rfl
  | var i =>
    cases e : cont s (.var i) with
    | none => have := he i rfl; rw [e] at this; cases this
    | some c => obtain ⟨a, o, rfl, _⟩ := cont_ok x p e; rfl
  | pc n => have p' : v = .ref (m.al n) := p; rw [p']; rfl
  | ic k j => obtain ⟨rfl, _⟩ := p; rfl
theorem o2_is {K : PySem.W.Frag} {neg : Bool} : Op2 K (rIs neg) (kIsN neg) := by
  intro W σ m s H v1 v2 r1 r2 Q x ps q
  unfold kIsN at q
  split at q
  · rename_i hp
    have he : ∀ i, r1 = .var i → (cont s r1).isSome = true := fun i e => by subst e; exact hp
    split at q
    · have p2 := ps.2.1
      cases p2
      refine .inl ⟨rfl, ?_⟩
      rw [isNonR_ok x ps.1 he]
      exact post_val x q .bl
    · rename_i c
      have p2 := ps.2.1
      cases p2
      refine .inr ⟨c, rfl, ?_⟩
      rw [isBlR_ok x ps.1 he]
      exact post_val x q .bl
    · exact q.elim
  · exact q.elim
end VL

set_option maxRecDepth 100000
set_option maxHeartbeats 4000000
namespace VL
open PySem PySem.Spec L2
open PyProof.Rows hiding St

/-! ### statements -/
def Res.bindS {α : Type} (x : Res α) (k : α → SM) : SRes := match x with
  | .stuck => .stuck
  | .ok a s => k a s
  | .exc e s => .exc e s
def sNil : SM := fun s => .next s
def sSeq (f g : SM) : SM := fun s => match f s with
  | .next s1 => g s1
  | z => z
def sE (f : M R) : SM := fun s => (f s).bindS fun _ s1 => .next s1
def sRet (f : M R) : SM := fun s => (f s).bindS fun r s1 => .ret r s1
def sRetN : SM := fun s => .ret (.val .non) s
def sIf (t : M Bool) (f g : SM) : SM := fun s => (t s).bindS fun b s1 => if b = true then f s1 else g s1
def sBrk : SM := fun s => .brk s
def sCont : SM := fun s => .cont s
def sNever : SM := fun _ => .stuck
/-- the i-th name takes an operand -/
def setSlot (i : Nat) (r : R) : SM := fun s => match r with
  | .val d => .next (s.setE i (.val d))
  | .tmp c => if i < s.env.length then .next (s.setE i (.own c)) else .stuck
  | .pc n => .next (s.setE i (.pc n))
  | .ic k j => .next (s.setE i (.ic k j))
  | .var j => match frzR (.var j) s with
    | some (d, s1) => .next (s1.setE i (.val d))
    | none => .stuck
def sSet (i : Nat) (f : M R) : SM := fun s => (f s).bindS (setSlot i)
section
variable {K : PySem.W.Frag} {W : WX} {m m' : Mp} {σ : St} {H : Hp} {s : FS}
theorem oneS {f : M R} {k : R → SM} {D : Ends} {R' : V → Hp → Prop} (h : ∃ m s, Rel K m σ H s ∧ PostS K W m ((f s).bindS k) D)
    (hk : ∀ m s H v r, Rel K m σ H s → RepR K m σ H v r → PostS K W m (k r s) D → R' v H) : toE K W f σ H R' := by
  obtain ⟨m, s, x, p⟩ := h
  refine ⟨m, s, x, ?_⟩
  cases e : f s with
  | stuck => rw [e] at p; exact p.elim
  | ok r s1 =>
    rw [e] at p
    intro v H1 m1 l1 x1 r1
    exact hk m1 s1 H1 v r x1 r1 (PostS_mono l1 p)
  | exc ex s1 => rw [e] at p; exact fun c d H' m' l x => p c d σ H' m' l x
theorem oneTS {f : M Bool} {k : Bool → SM} {D : Ends} {R' : Bool → Hp → Prop} (h : ∃ m s, Rel K m σ H s ∧ PostS K W m ((f s).bindS k) D)
    (hk : ∀ m s H b, Rel K m σ H s → PostS K W m (k b s) D → R' b H) : toT K W f σ H R' := by
  obtain ⟨m, s, x, p⟩ := h
  refine ⟨m, s, x, ?_⟩
  cases e : f s with
  | stuck => rw [e] at p; exact p.elim
  | ok r s1 =>
    rw [e] at p
    intro v H1 m1 l1 x1 r1
    have r1' : v = r := r1
    subst r1'
    exact hk m1 s1 H1 v x1 (PostS_mono l1 p)
  | exc ex s1 => rw [e] at p; exact fun c d H' m' l x => p c d σ H' m' l x
theorem manyS {f : M (List R)} {k : List R → SM} {D : Ends} {R' : List V → Hp → Prop} (h : ∃ m s, Rel K m σ H s ∧ PostS K W m ((f s).bindS k) D)
    (hk : ∀ m s H vs rs, Rel K m σ H s → RepRs K σ H m vs rs → PostS K W m (k rs s) D → R' vs H) : toA K W f σ H R' := by
  obtain ⟨m, s, x, p⟩ := h
  refine ⟨m, s, x, ?_⟩
  cases e : f s with
  | stuck => rw [e] at p; exact p.elim
  | ok r s1 =>
    rw [e] at p
    intro v H1 m1 l1 x1 r1
    exact hk m1 s1 H1 v r x1 r1 (PostS_mono l1 p)
  | exc ex s1 => rw [e] at p; exact fun c d H' m' l x => p c d σ H' m' l x
theorem setSlot_ok {i : Nat} {v : V} {r : R} {D : Ends} (x : Rel K m σ H s) (p : RepR K m σ H v r) (q : PostS K W m (setSlot i r s) D) : D.nx (σ.set i (some v)) H := by
  have inb : ∀ {s' : FS} {z : S}, Rel K m σ H s → (i < σ.length → SlotOk K m (σ.set i (some v)) H i z) → Rel K m (σ.set i (some v)) H (s.setE i z) := fun {s' z} x h => by
    by_cases hi : i < σ.length
    · exact x.fill (h hi)
    · have e1 : s.env.set i z = s.env := List.set_eq_of_length_le (by rw [x.len]; omega)
      have e2 : σ.set i (some v) = σ := List.set_eq_of_length_le (by omega)
      have e3 : s.setE i z = s := by unfold FS.setE; rw [e1]
      rw [e2, e3]; exact x
  cases r with
  | val d => exact q _ _ m (Mp.le.refl m) (inb (s' := s) x fun hi => ⟨v, set_self hi, p⟩)
  | tmp c =>
    simp only [setSlot] at q
    split at q
    · rename_i hi
      obtain ⟨a, rfl, h1, h2, h3, o, ho, rc⟩ := p
      obtain ⟨m', l, x'⟩ := x.take h1 h2 h3 ho rc (by rw [← x.len]; exact hi)
      exact q _ _ m' l x'
    · exact q.elim
  | pc n =>
    have p' : v = .ref (m.al n) := p
    subst p'
    exact q _ _ m (Mp.le.refl m) (inb (s' := s) x fun hi => set_self hi)
  | ic k j =>
    obtain ⟨rfl, p2⟩ := p
    exact q _ _ m (Mp.le.refl m) (inb (s' := s) x fun hi => ⟨set_self hi, p2⟩)
  | var j =>
    simp only [setSlot] at q
    cases e : frzR (.var j) s with
    | none => rw [e] at q; exact q.elim
    | some z =>
      obtain ⟨d, s1⟩ := z
      rw [e] at q
      obtain ⟨m1, l1, x1, r1, _⟩ := p.frz x e
      refine q _ _ m1 l1 ?_
      by_cases hi : i < σ.length
      · exact x1.fill ⟨v, set_self hi, r1⟩
      · have e1 : s1.env.set i (.val d) = s1.env := List.set_eq_of_length_le (by rw [x1.len]; omega)
        have e2 : σ.set i (some v) = σ := List.set_eq_of_length_le (by omega)
        have e3 : s1.setE i (.val d) = s1 := by unfold FS.setE; rw [e1]
        rw [e2, e3]; exact x1
end
section
variable {X : Cx} {W : WX} {pos : Pos} {e : Expr} {f : M R}
theorem ss_nil : PSs X [] (toS X.K W sNil) := PSs_imp pss_nil fun D σ H ⟨m, s, x, p⟩ => p σ H m (Mp.le.refl m) x
theorem ss_cons {st : Stmt} {rest : List Stmt} {f g : SM} (h1 : PS X st (toS X.K W f)) (h2 : PSs X rest (toS X.K W g)) : PSs X (st :: rest) (toS X.K W (sSeq f g)) :=
  PSs_imp (pss_cons h1 h2) fun D σ H ⟨m, s, x, p⟩ => by
    refine ⟨m, s, x, ?_⟩
    unfold sSeq at p
    cases e : f s with
    | stuck => rw [e] at p; exact p
    | next s1 => rw [e] at p; exact fun σ' H' m' l x' => ⟨m', s1, x', PostS_mono l p⟩
    | brk s1 => rw [e] at p; exact p
    | cont s1 => rw [e] at p; exact p
    | ret r s1 => rw [e] at p; exact p
    | exc ex s1 => rw [e] at p; exact p
theorem ss_one {st : Stmt} {f : SM} (h : PS X st (toS X.K W f)) : PSs X [st] (toS X.K W f) := pss_one h
theorem ss_expr (he : PE X e (toE X.K W f)) (hs : swapsWith e none pos.line X.env = pure false := by rfl) : PS X (.Expr e pos) (toS X.K W (sE f)) :=
  PS_imp (ps_expr he hs) fun D σ H h => oneS h fun m s H v r x p q => q σ H m (Mp.le.refl m) x
theorem ss_ret (he : PE X e (toE X.K W f)) : PS X (.Return (some e) pos) (toS X.K W (sRet f)) :=
  PS_imp (ps_ret he) fun D σ H h => oneS h fun m s H v r x p q => q v σ H m (Mp.le.refl m) x p
theorem ss_retN : PS X (.Return none pos) (toS X.K W sRetN) := PS_imp ps_retN fun D σ H ⟨m, s, x, p⟩ => p .non σ H m (Mp.le.refl m) x .non
theorem ss_pass : PS X (.Pass pos) (toS X.K W sNil) := PS_imp ps_pass fun D σ H ⟨m, s, x, p⟩ => p σ H m (Mp.le.refl m) x
theorem ss_break : PS X (.Break pos) (toS X.K W sBrk) := PS_imp ps_break fun D σ H ⟨m, s, x, p⟩ => p σ H m (Mp.le.refl m) x
theorem ss_continue : PS X (.Continue pos) (toS X.K W sCont) := PS_imp ps_continue fun D σ H ⟨m, s, x, p⟩ => p σ H m (Mp.le.refl m) x
theorem ss_never {st : Stmt} : PS X st (toS X.K W sNever) := PS_imp ps_never fun D σ H ⟨m, s, x, p⟩ => p.elim
theorem sss_never {st : List Stmt} : PSs X st (toS X.K W sNever) := PSs_imp pss_never fun D σ H ⟨m, s, x, p⟩ => p.elim
theorem ss_if {c : Expr} {a b : List Stmt} {t : M Bool} {f g : SM} (hc : PT X c (toT X.K W t)) (ha : PSs X a (toS X.K W f)) (hb : PSs X b (toS X.K W g)) : PS X (.If c a b pos) (toS X.K W (sIf t f g)) :=
  PS_imp (ps_if hc ha hb) fun D σ H h => oneTS h fun m s H k x q => by
    cases k with
    | true => rw [if_pos rfl] at q ⊢; exact ⟨m, s, x, q⟩
    | false => rw [if_neg (by decide)] at q ⊢; exact ⟨m, s, x, q⟩
theorem ss_set {i : Nat} {x : Str} {pos' : Pos} (hN : X.N.Nodup) (hi : X.N[i]? = some x) (hx : Loc X.env.scope x) (he : PE X e (toE X.K W f)) (hs : swapsWith e (some (.Name x pos')) pos.line X.env = pure false := by rfl)
    (hf : X.fn x = true ∨ X.env.scope.names.lookup x = some .local := by first | exact .inl rfl | exact .inr rfl | assumption) : PS X (.Assign [.Name x pos'] e pos) (toS X.K W (sSet i f)) :=
  PS_imp (ps_set hN hi hx he hs hf) fun D σ H h => oneS h fun m s H v r x p q => setSlot_ok x p q
end
/-- x op= e -/
def sAug (i : Nat) (k : R → R → M R) (f : M R) : SM := fun s => (eB k (eVar i) f s).bindS (setSlot i)
section
variable {X : Cx} {W : WX} {pos : Pos} {e : Expr} {f : M R}
theorem ss_aug {i : Nat} {x : Str} {pos' : Pos} {op : Operator} {ti : TIp} {k : R → R → M R} (hN : X.N.Nodup) (hi : X.N[i]? = some x) (hx : Loc X.env.scope x) (he : PE X e (toE X.K W f)) (ho : PIp X op ti) (hk : Op2 X.K ti k)
    (hf : X.fn x = true ∨ X.env.scope.names.lookup x = some .local := by first | exact .inl rfl | exact .inr rfl | assumption) : PS X (.AugAssign (.Name x pos') op e pos) (toS X.K W (sAug i k f)) :=
  PS_imp (ps_aug hN hi hx he ho hf) fun D σ H h => by
    have h' : ∃ m s, Rel X.K m σ H s ∧ PostS X.K W m ((eVar i s).bindS fun a s1 => (f s1).bindS fun b s2 => (k a b s2).bindS (setSlot i)) D := by
      obtain ⟨m, s, x, p⟩ := h
      refine ⟨m, s, x, ?_⟩
      have e : sAug i k f s = (eVar i s).bindS fun a s1 => (f s1).bindS fun b s2 => (k a b s2).bindS (setSlot i) := by
        unfold sAug eB
        cases eVar i s with
        | stuck => rfl
        | exc e s1 => rfl
        | ok r1 s1 =>
          show ((f s1).bind fun b => k r1 b).bindS _ = (f s1).bindS _
          cases f s1 <;> rfl
      rw [e] at p; exact p
    have z : toE X.K W (eVar i) σ H fun v H1 => toE X.K W f σ H1 fun y H2 => ti v y H2 fun z H3 => D.nx (σ.set i (some z)) H3 := by
      refine oneS h' fun m s H v r x p q => ?_
      -- the operand at the name is kept: an int, or an object of the frame's own
      have q' : PostS X.K W m ((eCons f eNil s).bindS fun rs s2 => (k r (rs.headD r) s2).bindS (setSlot i)) D := by
        show PostS X.K W m (((f s).bind fun b s2 => Res.bind (.ok [] s2) fun rs s3 => .ok (b :: rs) s3).bindS fun rs s2 => (k r (rs.headD r) s2).bindS (setSlot i)) D
        cases e : f s with
        | stuck => rw [e] at q; exact q
        | ok b s1 => rw [e] at q; exact q
        | exc ex s1 => rw [e] at q; exact q
      refine ⟨lk m v r H, s, x.lk p, ?_⟩
      cases e : f s with
      | stuck => rw [e] at q; exact q.elim
      | exc ex s1 =>
        rw [e] at q
        intro c d H2 m2 l2 x2 rx
        have l0 := lk_le (Mp.le.refl m) l2
        refine q c d σ H2 (m2.setL m.L) l0 (x2.setL fun a o ea => ?_) (RepX.mono (m := m2) (m' := m2.setL m.L) ⟨fun _ _ h => h, Nat.le_refl _, fun _ _ => rfl⟩ rx)
        have : (lk m v r H).L a = some o := by
          cases r with
          | tmp c =>
            obtain ⟨b, rfl, h1, h2, h3, u, hu, rc⟩ := p
            show (if a = b then H b else m.L a) = some o
            by_cases hab : a = b
            · rw [hab, h3] at ea; cases ea
            · rw [if_neg hab]; exact ea
          | _ => cases v <;> exact ea
        rw [← l2.L] at this
        exact this
      | ok b s1 =>
        rw [e] at q
        intro y H2 m2 l2 x2 r2
        have l0 := lk_le (Mp.le.refl m) l2
        have qq := lk_rep (L := m.L) rfl p l2 x2
        have x3 : Rel X.K (m2.setL m.L) σ H2 s1 := x2.setL fun a o ea => by
          have : (lk m v r H).L a = some o := by
            cases r with
            | tmp c =>
              obtain ⟨b, rfl, h1, h2, h3, u, hu, rc⟩ := p
              show (if a = b then H b else m.L a) = some o
              by_cases hab : a = b
              · rw [hab, h3] at ea; cases ea
              · rw [if_neg hab]; exact ea
            | _ => cases v <;> exact ea
          rw [← l2.L] at this
          exact this
        have q3 := PostS_mono l0 q
        refine hk W σ (m2.setL m.L) s1 H2 v y r b _ x3 ⟨qq.1, by rw [qq.2]; exact ⟨r2, trivial⟩⟩ ?_
        cases e3 : k r b s1 with
        | stuck => simp only [Res.bindS, e3] at q3; exact q3
        | exc ex s4 => simp only [Res.bindS, e3] at q3; exact fun c d H' m' l x => q3 c d σ H' m' l x
        | ok r3 s4 =>
          simp only [Res.bindS, e3] at q3
          intro v3 H3 m3 l3 x3 p3
          exact setSlot_ok x3 p3 (PostS_mono l3 q3)
    obtain ⟨v, hv, hz⟩ := toE_var z
    exact ⟨v, hv, hz⟩
end
end VL

set_option maxRecDepth 100000
set_option maxHeartbeats 4000000
namespace VL
open PySem PySem.Spec L2
open PyProof.Rows hiding St

/-! ### for, over a list -/
open Classical in
noncomputable def forL (chk : FS → Prop) (g : D → FS → Option FS) (body : SM) : List D → SM
  | [], s => if chk s then .next s else .stuck
  | d :: ds, s => if chk s then (match g d s with
    | none => .stuck
    | some s1 => match body s1 with
      | .next s2 => forL chk g body ds s2
      | .cont s2 => forL chk g body ds s2
      | .brk s2 => .next s2
      | .ret r s2 => .ret r s2
      | .exc e s2 => .exc e s2
      | .stuck => .stuck) else .stuck
/-- the thing walked stays as it is -/
def keepL (r : R) (xs : List D) (s : FS) : Prop := match r with
  | .tmp _ => True
  | .val _ => True
  | .var i => s.env[i]? = some (.lck (.lst xs))
  | r => seqL s r = some xs
def lockV (r : R) (s : FS) : FS := match r with
  | .var i => match s.env[i]? with
    | some (.own c) => s.setE i (.lck c)
    | _ => s
  | _ => s
def unlockV (r : R) (s0 s : FS) : FS := match r with
  | .var i => match s0.env[i]? with
    | some (.own _) => match s.env[i]? with
      | some (.lck c) => s.setE i (.own c)
      | _ => s
    | _ => s
  | _ => s
def SRes.map (f : FS → FS) : SRes → SRes
  | .stuck => .stuck
  | .next s => .next (f s)
  | .brk s => .brk (f s)
  | .cont s => .cont (f s)
  | .ret r s => .ret r (f s)
  | .exc e s => .exc e (f s)
/-- what a loop walks: the items, what must stay, how the state is entered and left -/
structure Lp where
  xs : List D
  chk : FS → Prop := fun _ => True
  en : FS → FS := fun s => s
  ex : FS → FS := fun s => s
noncomputable def sFor (f : M Lp) (g : D → FS → Option FS) (body : SM) : SM := fun s => (f s).bindS fun lp s1 => (forL lp.chk g body lp.xs (lp.en s1)).map lp.ex
def lkF (m : Mp) (a : Addr) (r : R) (H : Hp) (s : FS) : Mp := match r with
  | .tmp _ => { m with L := fun b => if b = a then H a else m.L b }
  | .var i => match s.env[i]? with
    | some (.own _) => { m with lks := fun j => if j = i then some a else m.lks j }
    | _ => m
  | _ => m
/-- m' is behind m, with perhaps more locked -/
structure Mp.lew (m m' : Mp) : Prop where
  P : ∀ a o, m.P a = some o → m'.P a = some o
  L : ∀ a o, m.L a = some o → m'.L a = some o
  al : m'.al = m.al
  n : m.n ≤ m'.n
  io : ∀ k, k < m.n → m'.io k = m.io k
  nc : ∀ k, k < m.n → m.nc k ≤ m'.nc k
  ic : ∀ k j, k < m.n → j < m.nc k → m'.ic k j = m.ic k j
  lks : m'.lks = m.lks
theorem Mp.le.lew {m m' : Mp} (l : m.le m') : m.lew m' := ⟨l.P, fun a o h => by rw [l.L]; exact h, l.al, l.n, l.io, l.nc, l.ic, l.lks⟩
/-- back from a lock -/
def mb (m' m : Mp) : Mp := { m' with L := m.L, lks := m.lks }
section
variable {K : PySem.W.Frag} {W : WX} {m m' : Mp} {σ : St} {H : Hp} {s : FS} {a : Addr} {r : R}
theorem lkF_eq (m : Mp) (a : Addr) (r : R) (H : Hp) (s : FS) : (lkF m a r H s).P = m.P ∧ (lkF m a r H s).O = m.O ∧ (lkF m a r H s).al = m.al ∧ (lkF m a r H s).n = m.n ∧ (lkF m a r H s).io = m.io ∧ (lkF m a r H s).dx = m.dx ∧ (lkF m a r H s).nc = m.nc ∧ (lkF m a r H s).ic = m.ic := by
  cases r with
  | var i =>
    simp only [lkF]
    cases s.env[i]? with
    | none => exact ⟨rfl, rfl, rfl, rfl, rfl, rfl, rfl, rfl⟩
    | some z => cases z <;> exact ⟨rfl, rfl, rfl, rfl, rfl, rfl, rfl, rfl⟩
  | _ => exact ⟨rfl, rfl, rfl, rfl, rfl, rfl, rfl, rfl⟩
theorem mb_le (l : (lkF m a r H s).lew m') : m.le (mb m' m) := by
  obtain ⟨e1, e2, e3, e4, e5, e6, e7, e8⟩ := lkF_eq m a r H s
  refine ⟨fun a o h => l.P a o (by rw [e1]; exact h), rfl, ?_, ?_, fun k hk => ?_, fun k hk => ?_, fun k j hk hj => ?_, rfl⟩
  · show m'.al = m.al
    rw [l.al, e3]
  · have := l.n; rw [e4] at this; exact this
  · show m'.io k = m.io k
    rw [l.io k (by rw [e4]; exact hk), e5]
  · have := l.nc k (by rw [e4]; exact hk); rw [e7] at this; exact this
  · show m'.ic k j = m.ic k j
    rw [l.ic k j (by rw [e4]; exact hk) (by rw [e7]; exact hj), e8]
theorem lkF_L (p : RepR K m σ H (.ref a) r) (l : (lkF m a r H s).lew m') : ∀ b o, m.L b = some o → m'.L b = some o := by
  intro b o e
  refine l.L b o ?_
  cases r with
  | tmp c =>
    obtain ⟨a', ea, h1, h2, h3, u, hu, rc⟩ := p
    cases ea
    show (if b = a then H a else m.L b) = some o
    by_cases hab : b = a
    · rw [hab, h3] at e; cases e
    · rw [if_neg hab]; exact e
  | var i =>
    simp only [lkF]
    cases s.env[i]? with
    | none => exact e
    | some z => cases z <;> exact e
  | _ => exact e
theorem insLks (x : Rel K m σ H s) (l : Nat → Option Addr) (k : Nat) (I : Inst) (e : s.g[k]? = some I) (L : Hp) : InstOk K { m with lks := l, L := L } H k I :=
  InstOk.mono (m := m) (m' := { m with lks := l, L := L }) ⟨fun _ _ h => h, Nat.le_refl _, fun _ _ => rfl⟩ rfl rfl rfl (fun _ _ => rfl) (x.ins k I e).1 (x.ins k I e).2.1 (fun j hj => by
    obtain ⟨_, _, _, _, n, cs⟩ := x.ins k I e
    have hj' : j < I.cells.length := by rw [← n]; exact hj
    exact (cs j _ (List.getElem?_eq_getElem hj')).1) rfl rfl (fun _ _ => rfl) (x.ins k I e)
theorem Rel.lkF (x : Rel K m σ H s) (p : RepR K m σ H (.ref a) r) : Rel K (lkF m a r H s) σ H (lockV r s) := by
  cases r with
  | tmp c => exact x.lk (v := .ref a) p
  | var i =>
    have p' : σ[i]? = some (some (.ref a)) := p
    cases q : s.env[i]? with
    | none => simp only [VL.lkF, lockV, q]; exact x
    | some z =>
      cases z with
      | own c =>
        simp only [VL.lkF, lockV, q]
        obtain ⟨a', ha, hc⟩ := x.env i _ q
        rw [ha] at p'; cases p'
        refine ⟨x.pers, x.lock, x.oh, x.op, x.ol, x.lp, ?_, fun j z e => ?_, x.cells, x.cnt, fun k I e => insLks x _ k I e _⟩
        · show (s.env.set i _).length = σ.length
          rw [List.length_set]; exact x.len
        · rcases setE_get e with ⟨rfl, rfl⟩ | ⟨hj, e⟩
          · exact ⟨a, ha, hc, by show (if j = j then some a else m.lks j) = some a; rw [if_pos rfl]⟩
          · have y := x.env j z e
            cases z with
            | lck c' =>
              obtain ⟨b, e1, e2, e3⟩ := y
              exact ⟨b, e1, e2, by show (if j = i then some a else m.lks j) = some b; rw [if_neg hj]; exact e3⟩
            | _ => exact y
      | no => simp only [VL.lkF, lockV, q]; exact x
      | val d => simp only [VL.lkF, lockV, q]; exact x
      | lck d => simp only [VL.lkF, lockV, q]; exact x
      | pc d => simp only [VL.lkF, lockV, q]; exact x
      | ic d j => simp only [VL.lkF, lockV, q]; exact x
  | val d => exact x
  | pc n => exact x
  | ic k j => exact x
theorem Rel.unlock {σ' : St} {H' : Hp} {s' : FS} (p : RepR K m σ H (.ref a) r) (l : (VL.lkF m a r H s).lew m') (x : Rel K m' σ' H' s') : Rel K (mb m' m) σ' H' (unlockV r s s') := by
  have insM : ∀ k I, s'.g[k]? = some I → InstOk K (mb m' m) H' k I := fun k I e => insLks x _ k I e _
  have lL := lkF_L p l
  have ol' : ∀ a w, (mb m' m).O a = some w → (mb m' m).L a = none := fun a w e => by
    show m.L a = none
    cases q : m.L a with
    | none => rfl
    | some o =>
      have := x.ol a w e
      rw [lL a o q] at this; cases this
  have base : ∀ (env' : List S), env'.length = σ'.length → (∀ i z, env'[i]? = some z → SlotOk K (mb m' m) σ' H' i z) → Rel K (mb m' m) σ' H' { s' with env := env' } := fun env' hl he =>
    ⟨x.pers, fun a o e => x.lock a o (lL a o e), x.oh, x.op, ol', fun a o e => x.lp a o (lL a o e), hl, he, x.cells, x.cnt, insM⟩
  have same : m'.lks = m.lks → Rel K (mb m' m) σ' H' s' := fun e => base s'.env x.len fun i z q => by
    have y := x.env i z q
    cases z with
    | lck c => obtain ⟨b, e1, e2, e3⟩ := y; exact ⟨b, e1, e2, by show m.lks i = some b; rw [← e]; exact e3⟩
    | _ => exact y
  cases r with
  | tmp c => exact same l.lks
  | val d => exact same l.lks
  | pc n => exact same l.lks
  | ic k j => exact same l.lks
  | var i =>
    have hl := l.lks
    cases q : s.env[i]? with
    | none =>
      simp only [VL.lkF, q] at hl
      simp only [unlockV, q]
      exact same hl
    | some z =>
      cases z with
      | own c =>
        simp only [VL.lkF, q] at hl
        simp only [unlockV, q]
        have other : ∀ j z, j ≠ i → s'.env[j]? = some z → SlotOk K (mb m' m) σ' H' j z := fun j z hj e => by
          have y := x.env j z e
          cases z with
          | lck c => obtain ⟨b, e1, e2, e3⟩ := y; exact ⟨b, e1, e2, by show m.lks j = some b; rw [hl] at e3; exact (show (if j = i then some a else m.lks j) = some b from e3).symm.trans (if_neg hj) |>.symm⟩
          | _ => exact y
        have keep : ∀ z2, s'.env[i]? = some z2 → SlotOk K (mb m' m) σ' H' i z2 → Rel K (mb m' m) σ' H' s' := fun z2 q2 hz => base s'.env x.len fun j z e => by
          by_cases hj : j = i
          · subst hj; rw [q2] at e; cases e; exact hz
          · exact other j z hj e
        cases q2 : s'.env[i]? with
        | none =>
          refine base s'.env x.len fun j z e => ?_
          by_cases hj : j = i
          · subst hj; rw [q2] at e; cases e
          · exact other j z hj e
        | some z2 =>
          cases z2 with
          | lck c2 =>
            refine base (s'.env.set i (.own c2)) (by rw [List.length_set]; exact x.len) fun j z e => ?_
            rcases setE_get (s := s') e with ⟨rfl, rfl⟩ | ⟨hj, e⟩
            · obtain ⟨b, e1, e2, _⟩ := x.env j _ q2
              exact ⟨b, e1, e2⟩
            · exact other j z hj e
          | no => exact keep _ q2 (x.env i _ q2)
          | val d => exact keep _ q2 (x.env i _ q2)
          | own c2 => exact keep _ q2 (x.env i _ q2)
          | pc n => exact keep _ q2 (x.env i _ q2)
          | ic k j' => exact keep _ q2 (x.env i _ q2)
      | no => simp only [VL.lkF, q] at hl; simp only [unlockV, q]; exact same hl
      | val d => simp only [VL.lkF, q] at hl; simp only [unlockV, q]; exact same hl
      | lck c => simp only [VL.lkF, q] at hl; simp only [unlockV, q]; exact same hl
      | pc n => simp only [VL.lkF, q] at hl; simp only [unlockV, q]; exact same hl
      | ic k j => simp only [VL.lkF, q] at hl; simp only [unlockV, q]; exact same hl
theorem RepR.mbk {v' : V} {r' : R} {σ' : St} {H' : Hp} (hL : ∀ b o, m.L b = some o → m'.L b = some o) (p : RepR K m' σ' H' v' r') : RepR K (mb m' m) σ' H' v' r' := by
  cases r' with
  | tmp c =>
    obtain ⟨b, e, h1, h2, h3, u, hu, rc⟩ := p
    refine ⟨b, e, h1, h2, ?_, u, hu, RepC.mono (m := m') (m' := mb m' m) ⟨fun _ _ h => h, Nat.le_refl _, fun _ _ => rfl⟩ rc⟩
    show m.L b = none
    cases q : m.L b with
    | none => rfl
    | some o => rw [hL b o q] at h3; cases h3
  | _ => exact p
theorem PostS_unlock {D : Ends} {y : SRes} (p : RepR K m σ H (.ref a) r) (h : PostS K W m (y.map (unlockV r s)) D) : PostS K W (lkF m a r H s) y D := by
  cases y with
  | stuck => exact h
  | next s1 => exact fun σ' H' m' l x => h σ' H' _ (mb_le l.lew) (x.unlock p l.lew)
  | brk s1 => exact fun σ' H' m' l x => h σ' H' _ (mb_le l.lew) (x.unlock p l.lew)
  | cont s1 => exact fun σ' H' m' l x => h σ' H' _ (mb_le l.lew) (x.unlock p l.lew)
  | ret r1 s1 => exact fun v σ' H' m' l x q => h v σ' H' _ (mb_le l.lew) (x.unlock p l.lew) (q.mbk (lkF_L p l.lew))
  | exc e s1 => exact fun c d σ' H' m' l x q => h c d σ' H' _ (mb_le l.lew) (x.unlock p l.lew) (RepX.mono (m := m') (m' := mb m' m) ⟨fun _ _ h => h, Nat.le_refl _, fun _ _ => rfl⟩ q)
/-- the walked list as it stands at a turn -/
theorem keepL_ok {xs : List D} {σ' : St} {H' : Hp} {s' : FS} (x : Rel K m σ H s) (p : RepR K m σ H (.ref a) r) (e : seqL s r = some xs) (l : (VL.lkF m a r H s).lew m') (x' : Rel K m' σ' H' s') (k : keepL r xs s') : ∃ vs, H' a = some (.lst vs) ∧ RDs K m' vs xs := by
  have ll0 : m.le (mb m' m) := mb_le l
  have kn : m.kn m' := ⟨ll0.P, ll0.n, ll0.io⟩
  cases r with
  | tmp c =>
    obtain ⟨a', vs, e1, e2, e3⟩ := seqL_ok x p e
    cases e1
    refine ⟨vs, x'.lock a _ (l.L _ _ ?_), RepDs.mono kn.P kn.n kn.io e3⟩
    show (if a = a then H a else m.L a) = some (.lst vs)
    rw [if_pos rfl]; exact e2
  | val d =>
    cases d with
    | lst ys =>
      have e' : some ys = some xs := e
      cases e'
      cases p with
      | lst ha r => exact ⟨_, x'.pers _ _ (kn.P _ _ ha), RepDs.mono kn.P kn.n kn.io r⟩
    | _ => cases e
  | var i =>
    have k' : s'.env[i]? = some (.lck (.lst xs)) := k
    obtain ⟨b, e1, ⟨o1, o, ho, rc⟩, e3⟩ := x'.env i _ k'
    obtain ⟨vs, rfl, rv⟩ := rc
    have hl := l.lks
    have hb : b = a := by
      have p' : σ[i]? = some (some (.ref a)) := p
      unfold seqL cont at e
      cases q : s.env[i]? with
      | none => simp only [q] at e; cases e
      | some z =>
        cases z with
        | own c =>
          simp only [VL.lkF, q] at hl
          rw [hl] at e3
          have e3' : (if i = i then some a else m.lks i) = some b := e3
          rw [if_pos rfl] at e3'
          exact (Option.some.inj e3').symm
        | lck c =>
          simp only [VL.lkF, q] at hl
          obtain ⟨a', f1, f2, f3⟩ := x.env i _ q
          rw [f1] at p'; cases p'
          rw [hl, f3] at e3
          exact (Option.some.inj e3).symm
        | _ => simp only [q] at e; cases e
    subst hb
    exact ⟨vs, ho, rv⟩
  | pc n =>
    have k' : seqL s' (.pc n) = some xs := k
    have p' : V.ref a = .ref (m.al n) := p
    have hal : m'.al = m.al := (show m.le (mb m' m) from mb_le l).al
    obtain ⟨b, vs, e1, e2, e3⟩ := seqL_ok (v := .ref a) (r := .pc n) x' (show RepR K m' σ' H' (.ref a) (.pc n) from (by show V.ref a = .ref (m'.al n); rw [hal]; exact p')) k'
    cases e1
    exact ⟨vs, e2, e3⟩
  | ic k2 j =>
    have k' : seqL s' (.ic k2 j) = some xs := k
    obtain ⟨p1, p2, p3⟩ := p
    have ll : m.le (mb m' m) := mb_le l
    have hic : m'.ic k2 j = m.ic k2 j := ll.ic k2 j p2 p3
    obtain ⟨b, vs, e1, e2, e3⟩ := seqL_ok (v := .ref a) (r := .ic k2 j) x' (show RepR K m' σ' H' (.ref a) (.ic k2 j) from ⟨by rw [hic]; exact p1, Nat.lt_of_lt_of_le p2 ll.n, Nat.lt_of_lt_of_le p3 (ll.nc k2 p2)⟩) k'
    cases e1
    exact ⟨vs, e2, e3⟩
end
/-- a target of an assignment takes data -/
def TgOk (K : PySem.W.Frag) (gT : TG) (g : D → FS → Option FS) : Prop := ∀ (m : Mp) (σ : St) (H : Hp) (s s1 : FS) (v : V) (d : D) (Q : St → Hp → Prop), Rel K m σ H s → RD K m v d → g d s = some s1 →
  (∀ σ' m', m.le m' → Rel K m' σ' H s1 → Q σ' H) → gT v σ H Q
def gSet (i : Nat) (d : D) (s : FS) : Option FS := some (s.setE i (.val d))
theorem tg_name {K : PySem.W.Frag} {i : Nat} : TgOk K (gName i) (gSet i) := by
  intro m σ H s s1 v d Q x r e h
  cases e
  refine h _ m (Mp.le.refl m) ?_
  by_cases hi : i < σ.length
  · exact x.fill ⟨v, set_self hi, r⟩
  · have e1 : s.env.set i (.val d) = s.env := List.set_eq_of_length_le (by rw [x.len]; omega)
    have e2 : σ.set i (some v) = σ := List.set_eq_of_length_le (by omega)
    have e3 : s.setE i (.val d) = s := by unfold FS.setE; rw [e1]
    rw [e2, e3]; exact x
structure Back (K : PySem.W.Frag) (m0 m1 : Mp) (ex : FS → FS) (bk : Mp → Mp) : Prop where
  le : ∀ m', m1.le m' → m0.le (bk m')
  rel : ∀ m', m1.le m' → ∀ σ H s, Rel K m' σ H s → Rel K (bk m') σ H (ex s)
  rep : ∀ m', m1.le m' → ∀ σ H v r, RepR K m' σ H v r → RepR K (bk m') σ H v r
  kn : ∀ m', m1.le m' → m'.kn (bk m')
theorem Back.id {K : PySem.W.Frag} (m : Mp) : Back K m m (fun s => s) (fun m => m) := ⟨fun _ l => l, fun _ _ _ _ _ x => x, fun _ _ _ _ _ _ p => p, fun _ _ => ⟨fun _ _ h => h, Nat.le_refl _, fun _ _ => rfl⟩⟩
theorem PostS_back {K : PySem.W.Frag} {W : WX} {m0 m1 : Mp} {ex : FS → FS} {bk : Mp → Mp} (b : Back K m0 m1 ex bk) {D : Ends} {y : SRes} (h : PostS K W m0 (y.map ex) D) : PostS K W m1 y D := by
  cases y with
  | stuck => exact h
  | next s1 => exact fun σ' H' m' l x => h σ' H' _ (b.le _ l) (b.rel _ l _ _ _ x)
  | brk s1 => exact fun σ' H' m' l x => h σ' H' _ (b.le _ l) (b.rel _ l _ _ _ x)
  | cont s1 => exact fun σ' H' m' l x => h σ' H' _ (b.le _ l) (b.rel _ l _ _ _ x)
  | ret r1 s1 => exact fun v σ' H' m' l x q => h v σ' H' _ (b.le _ l) (b.rel _ l _ _ _ x) (b.rep _ l _ _ _ _ q)
  | exc e s1 => exact fun c d σ' H' m' l x q => h c d σ' H' _ (b.le _ l) (b.rel _ l _ _ _ x) (q.mono (b.kn _ l))
/-- the iterator J yields xs -/
def Walks (K : PySem.W.Frag) (J : It) (m1 : Mp) (lp : Lp) : Prop := ∀ m' σ' H' s', m1.lew m' → Rel K m' σ' H' s' → lp.chk s' →
  (∀ i d, lp.xs[i]? = some d → J.go i H' ∧ ∀ y H2, J.yld i H' y H2 → ∃ m2, m'.le m2 ∧ Rel K m2 σ' H2 s' ∧ RD K m2 y d) ∧ ∀ i, lp.xs.length ≤ i → J.stop i H'
def PostI {α : Type} (K : PySem.W.Frag) (W : WX) (m : Mp) (σ : St) (x : Res α) (k : α → FS → Mp → Hp → Prop) : Prop := match x with
  | .stuck => False
  | .ok lp s1 => ∀ H1 m0, m.le m0 → Rel K m0 σ H1 s1 → k lp s1 m0 H1
  | .exc e s => ∀ c d H' m', m.le m' → Rel K m' σ H' s → RepX K m' H' c d e → W c d σ H'
/-- f says what the source wi walks -/
def SrcOk (K : PySem.W.Frag) (W : WX) (wi : TI) (f : M Lp) : Prop := ∀ (σ : St) (H : Hp) (RJ : It → Hp → Prop),
  (∃ m s, Rel K m σ H s ∧ PostI K W m σ (f s) fun lp s1 m0 H1 => ∀ J m1 bk, Back K m0 m1 lp.ex bk → Rel K m1 σ H1 (lp.en s1) → Walks K J m1 lp → RJ J H1) → wi σ H RJ
/-- the turns of a loop -/
theorem forL_ok {K : PySem.W.Frag} {W : WX} {D0 : Ends} {J : It} {lp : Lp} {gT : TG} {g : D → FS → Option FS} {body : SM} {m1 : Mp} (hg : TgOk K gT g) (hk : Walks K J m1 lp)
    {σ : St} {H : Hp} {s : FS} (x : Rel K m1 σ H s) (q : PostS K W m1 (forL lp.chk g body lp.xs s) D0) :
    ∃ Wv : Nat → Nat → St → Hp → Prop, (∃ m, Wv 0 m σ H) ∧ ∀ i m σ H, Wv i m σ H →
      (J.stop i H ∧ D0.nx σ H) ∨ (J.go i H ∧ ∃ N : St → Hp → Prop, (∀ σ' H', N σ' H' → ∃ m', m' < m ∧ Wv (i + 1) m' σ' H') ∧ ∀ y H', J.yld i H y H' → gT y σ H' fun σ2 H2 => toS K W body { D0 with nx := N, ct := N, bk := D0.nx } σ2 H2) := by
  refine ⟨fun i n σ H => n = lp.xs.length - i ∧ i ≤ lp.xs.length ∧ ∃ m' s', m1.le m' ∧ Rel K m' σ H s' ∧ PostS K W m' (forL lp.chk g body (lp.xs.drop i) s') D0, ⟨_, rfl, Nat.zero_le _, m1, s, Mp.le.refl _, x, q⟩, ?_⟩
  rintro i n σ H ⟨rfl, hi, m', s', l, x, q⟩
  cases hd : lp.xs.drop i with
  | nil =>
    rw [hd] at q
    unfold forL at q
    split at q
    · rename_i hc
      have hlen : lp.xs.length ≤ i := by
        have := congrArg List.length hd
        rw [List.length_drop, List.length_nil] at this
        omega
      exact .inl ⟨(hk m' σ H s' l.lew x hc).2 i hlen, q σ H m' (Mp.le.refl _) x⟩
    · exact q.elim
  | cons d ds =>
    rw [hd] at q
    unfold forL at q
    split at q
    · rename_i hc
      have hlt : i < lp.xs.length := by
        have := congrArg List.length hd
        rw [List.length_drop, List.length_cons] at this
        omega
      have hdi : lp.xs[i]? = some d := by
        have : (lp.xs.drop i)[0]? = some d := by rw [hd]; rfl
        rw [List.getElem?_drop] at this
        simpa using this
      have hds : lp.xs.drop (i + 1) = ds := by
        rw [← List.drop_drop, hd]; rfl
      obtain ⟨hgo, hyl⟩ := (hk m' σ H s' l.lew x hc).1 i d hdi
      refine .inr ⟨hgo, fun σ' H' => ∃ m'' s'', m1.le m'' ∧ Rel K m'' σ' H' s'' ∧ PostS K W m'' (forL lp.chk g body ds s'') D0, fun σ' H' ⟨m'', s'', l2, x2, q2⟩ => ⟨lp.xs.length - (i + 1), by omega, rfl, hlt, m'', s'', l2, x2, by rw [hds]; exact q2⟩, fun y H' hy => ?_⟩
      obtain ⟨m3, l3, x3, rv⟩ := hyl y H' hy
      have q := PostS_mono l3 q
      cases e3 : g d s' with
      | none => rw [e3] at q; exact q.elim
      | some s1 =>
        rw [e3] at q
        simp only [] at q
        refine hg m3 σ _ s' s1 y d _ x3 rv e3 fun σ2 m2 l2 x2 => ⟨m2, s1, x2, ?_⟩
        have q := PostS_mono l2 q
        have ll := (l.trans l3).trans l2
        cases e4 : body s1 with
        | stuck => rw [e4] at q; exact q
        | next s2 => rw [e4] at q; exact fun σ3 H3 m3 l3 x3 => ⟨m3, s2, ll.trans l3, x3, PostS_mono l3 q⟩
        | cont s2 => rw [e4] at q; exact fun σ3 H3 m3 l3 x3 => ⟨m3, s2, ll.trans l3, x3, PostS_mono l3 q⟩
        | brk s2 => rw [e4] at q; exact q
        | ret r s2 => rw [e4] at q; exact q
        | exc ex s2 => rw [e4] at q; exact q
    · exact q.elim
section
variable {X : Cx} {W : WX} {pos : Pos}
theorem ss_for {tg iter : Expr} {body : List Stmt} {wi : TI} {f : M Lp} {gT : TG} {g : D → FS → Option FS} {b : SM} (hp : PassesOwn (model X.prog X.w) X.A X.env X.xe) (hc : X.calm = true) (hi : PI X tg iter wi) (hf : SrcOk X.K W wi f) (hg : PG X tg gT) (hgk : TgOk X.K gT g) (hb : PSs X body (toS X.K W b))
    (hs : ∀ x, foldedSetIterable iter X.env x = pure x := by intro _; rfl) : PS X (.For tg iter body [] pos) (toS X.K W (sFor f g b)) :=
  PS_imp (ps_for hp hc hi hg hb hs) fun D σ H h => by
    obtain ⟨m, s, x, q⟩ := h
    refine hf σ H _ ⟨m, s, x, ?_⟩
    unfold sFor at q
    cases e : f s with
    | stuck => rw [e] at q; exact q.elim
    | exc ex s1 => rw [e] at q; exact fun c d H' m' l x => q c d σ H' m' l x
    | ok lp s1 =>
      rw [e] at q
      exact fun H1 m0 l0 x0 J m1 bk b x1 hk => forL_ok hgk hk x1 (PostS_back b (PostS_mono l0 q))
end
/-! ### sources -/
/-- a list -/
def iL (f : M R) : M Lp := fun s => (f s).bind fun r s1 => match seqL s1 r with
  | some xs => .ok { xs := xs, chk := keepL r xs, en := lockV r, ex := unlockV r s1 } s1
  | none => .stuck
theorem Itl_walks {K : PySem.W.Frag} {a : Addr} {vs : List V} {xs : List D} {m' : Mp} {σ' : St} {H' : Hp} {s' : FS} (x' : Rel K m' σ' H' s') (e1 : H' a = some (.lst vs)) (e2 : RDs K m' vs xs) :
    (∀ i d, xs[i]? = some d → (Itl K a).go i H' ∧ ∀ y H2, (Itl K a).yld i H' y H2 → ∃ m2, m'.le m2 ∧ Rel K m2 σ' H2 s' ∧ RD K m2 y d) ∧ ∀ i, xs.length ≤ i → (Itl K a).stop i H' := by
  refine ⟨fun i d hd => ?_, fun i hi => ⟨vs, SqL.of e1, by rw [e2.length]; exact hi⟩⟩
  obtain ⟨v, hv, rv⟩ := e2.get hd
  refine ⟨⟨vs, v, SqL.of e1, hv⟩, fun y H2 hy => ?_⟩
  obtain ⟨rfl, hy⟩ := hy
  have ey : y = v := Option.some.inj ((hy vs (SqL.of e1)).symm.trans hv)
  subst ey
  exact ⟨m', Mp.le.refl _, x', rv⟩
theorem one_src {K : PySem.W.Frag} {W : WX} {σ : St} {H : Hp} {f : M R} {k : R → M Lp} {kk : Lp → FS → Mp → Hp → Prop} {R' : V → Hp → Prop} (h : ∃ m s, Rel K m σ H s ∧ PostI K W m σ ((f s).bind k) kk)
    (hk : ∀ m s H v r, Rel K m σ H s → RepR K m σ H v r → PostI K W m σ (k r s) kk → R' v H) : toE K W f σ H R' := by
  obtain ⟨m, s, x, p⟩ := h
  refine ⟨m, s, x, ?_⟩
  cases e : f s with
  | stuck => rw [e] at p; exact p.elim
  | ok r s1 =>
    rw [e] at p
    intro v H1 m1 l1 x1 r1
    refine hk m1 s1 H1 v r x1 r1 ?_
    have p' : PostI K W m σ (k r s1) kk := p
    cases e2 : k r s1 with
    | stuck => rw [e2] at p'; exact p'
    | ok lp s2 => rw [e2] at p'; exact fun H1 m0 l0 => p' H1 m0 (l1.trans l0)
    | exc ex s2 => rw [e2] at p'; exact fun c d H' m' l => p' c d H' m' (l1.trans l)
  | exc ex s1 => rw [e] at p; exact p
theorem src_list {K : PySem.W.Frag} {W : WX} {f : M R} : SrcOk K W (iList K (toE K W f)) (iL f) := by
  intro σ H RJ h
  refine one_src h fun m s H v r x p q => ?_
  cases e : seqL s r with
  | none => rw [e] at q; exact q.elim
  | some xs =>
    rw [e] at q
    obtain ⟨a, vs, rfl, ha, ra⟩ := seqL_ok x p e
    refine ⟨a, rfl, ⟨vs, SqL.of ha⟩, q H m (Mp.le.refl m) x (Itl K a) (lkF m a r H s) (fun m' => mb m' m) ⟨fun m' l => mb_le l.lew, fun m' l σ H s x => x.unlock p l.lew, fun m' l σ H v r q => q.mbk (lkF_L p l.lew), fun m' l => ⟨fun _ _ h => h, Nat.le_refl _, fun _ _ => rfl⟩⟩ (x.lkF p) fun m' σ' H' s' l x' k => ?_⟩
    obtain ⟨ws, e1, e2⟩ := keepL_ok x p e l x' k
    exact Itl_walks x' e1 e2
/-- a tuple -/
def iT (f : M R) : M Lp := fun s => (f s).bind fun r s1 => match seqT r with
  | some xs => .ok { xs := xs } s1
  | none => .stuck
theorem src_tup {K : PySem.W.Frag} {W : WX} {f : M R} : SrcOk K W (iTup K (toE K W f)) (iT f) := by
  intro σ H RJ h
  refine one_src h fun m s H v r x p q => ?_
  cases e : seqT r with
  | none => rw [e] at q; exact q.elim
  | some xs =>
    rw [e] at q
    cases r with
    | val d =>
      cases d with
      | tup ys =>
        cases e
        cases p with
        | tup ha ra =>
          rename_i a vs
          refine ⟨a, rfl, ⟨vs, SqT.of (x.pers _ _ ha)⟩, q H m (Mp.le.refl m) x (Itt K a) m _ (Back.id m) x fun m' σ' H' s' l x' _ => ?_⟩
          have e1 : H' a = some (.tup vs) := x'.pers _ _ (l.P _ _ ha)
          have e2 : RDs K m' vs xs := RepDs.mono l.P l.n l.io ra
          refine ⟨fun i d hd => ?_, fun i hi => ⟨vs, SqT.of e1, by rw [e2.length]; exact hi⟩⟩
          obtain ⟨v, hv, rv⟩ := e2.get hd
          refine ⟨⟨vs, v, SqT.of e1, hv⟩, fun y H2 hy => ?_⟩
          obtain ⟨rfl, hy⟩ := hy
          have ey : y = v := Option.some.inj ((hy vs (SqT.of e1)).symm.trans hv)
          subst ey
          exact ⟨m', Mp.le.refl _, x', rv⟩
      | _ => cases e
    | _ => cases e
/-- the script: a list that is locked for good -/
def iZ (f : M R) : M Lp := fun s => (f s).bind fun r s1 => match r with
  | .val (.frz xs) => .ok { xs := xs } s1
  | _ => .stuck
theorem src_frz {K : PySem.W.Frag} {W : WX} {f : M R} : SrcOk K W (iList K (toE K W f)) (iZ f) := by
  intro σ H RJ h
  refine one_src h fun m s H v r x p q => ?_
  cases r with
  | val d =>
    cases d with
    | frz ys =>
      cases p with
      | frz ha ra =>
        rename_i a vs
        refine ⟨a, rfl, ⟨vs, sqL_mono x.pers ha⟩, q H m (Mp.le.refl m) x (Itl K a) m _ (Back.id m) x fun m' σ' H' s' l x' _ => ?_⟩
        have e1 : SqL K H' a vs := sqL_mono (fun b o h => x'.pers _ _ (l.P _ _ h)) ha
        have e2 : RDs K m' vs ys := RepDs.mono l.P l.n l.io ra
        refine ⟨fun i d hd => ?_, fun i hi => ⟨vs, e1, by rw [e2.length]; exact hi⟩⟩
        obtain ⟨v, hv, rv⟩ := e2.get hd
        refine ⟨⟨vs, v, e1, hv⟩, fun y H2 hy => ?_⟩
        obtain ⟨rfl, hy⟩ := hy
        have ey : y = v := Option.some.inj ((hy vs e1).symm.trans hv)
        subst ey
        exact ⟨m', Mp.le.refl _, x', rv⟩
    | _ => exact q.elim
  | _ => exact q.elim
/-- lo, lo + 1, .. -/
def rgD (lo : Int) (n : Nat) : List D := (List.range n).map fun i => D.int (lo + (i : Nat))
def iR1 (f : M (List R)) : M Lp := fun s => (f s).bind fun rs s1 => match rs with
  | [r] => match asI r with
    | some j => if -(2 ^ 62) ≤ j ∧ j < 2 ^ 62 then .ok { xs := rgD 0 j.toNat } s1 else .stuck
    | none => .stuck
  | _ => .stuck
def iR2 (f : M (List R)) : M Lp := fun s => (f s).bind fun rs s1 => match rs with
  | [r, r2] => match asI r, asI r2 with
    | some i, some j => if -(2 ^ 62) ≤ i ∧ i < 2 ^ 62 ∧ -(2 ^ 62) ≤ j ∧ j < 2 ^ 62 then .ok { xs := rgD i (j - i).toNat } s1 else .stuck
    | _, _ => .stuck
  | _ => .stuck
theorem many_src {K : PySem.W.Frag} {W : WX} {σ : St} {H : Hp} {f : M (List R)} {k : List R → M Lp} {kk : Lp → FS → Mp → Hp → Prop} {R' : List V → Hp → Prop} (h : ∃ m s, Rel K m σ H s ∧ PostI K W m σ ((f s).bind k) kk)
    (hk : ∀ m s H v r, Rel K m σ H s → RepRs K σ H m v r → PostI K W m σ (k r s) kk → R' v H) : toA K W f σ H R' := by
  obtain ⟨m, s, x, p⟩ := h
  refine ⟨m, s, x, ?_⟩
  cases e : f s with
  | stuck => rw [e] at p; exact p.elim
  | ok r s1 =>
    rw [e] at p
    intro v H1 m1 l1 x1 r1
    refine hk m1 s1 H1 v r x1 r1 ?_
    have p' : PostI K W m σ (k r s1) kk := p
    cases e2 : k r s1 with
    | stuck => rw [e2] at p'; exact p'
    | ok lp s2 => rw [e2] at p'; exact fun H1 m0 l0 => p' H1 m0 (l1.trans l0)
    | exc ex s2 => rw [e2] at p'; exact fun c d H' m' l => p' c d H' m' (l1.trans l)
  | exc ex s1 => rw [e] at p; exact p
theorem Itr_walks {K : PySem.W.Frag} {lo : Int} {n : Nat} {m : Mp} : Walks K (Itr lo n) m { xs := rgD lo n } := by
  intro m' σ' H' s' l x' _
  have hl : (rgD lo n).length = n := by unfold rgD; rw [List.length_map, List.length_range]
  refine ⟨fun i d hd => ?_, fun i hi => by rw [hl] at hi; exact hi⟩
  have hi : i < n := by
    have := (List.getElem?_eq_some_iff.mp hd).1
    rw [hl] at this; exact this
  refine ⟨hi, fun y H2 hy => ?_⟩
  obtain ⟨rfl, rfl⟩ := hy
  have hd' : (rgD lo n)[i]? = some d := hd
  unfold rgD at hd'
  rw [List.getElem?_map, List.getElem?_range hi] at hd'
  cases hd'
  exact ⟨m', Mp.le.refl _, x', .int⟩
theorem src_r1 {K : PySem.W.Frag} {W : WX} {f : M (List R)} : SrcOk K W (iRng1 (toA K W f)) (iR1 f) := by
  intro σ H RJ h
  refine many_src h fun m s H vs rs x p q => ?_
  match rs, vs, p, q with
  | [r], [v], p, q =>
    simp only [] at q
    cases e : asI r with
    | none => rw [e] at q; exact q.elim
    | some j =>
      rw [e] at q
      simp only [] at q
      split at q
      · rename_i hb
        exact ⟨j, by rw [asI_ok p.1 e], hb.1, hb.2, q H m (Mp.le.refl m) x (Itr 0 j.toNat) m _ (Back.id m) x Itr_walks⟩
      · exact q.elim
  | [], _, p, q => exact q.elim
  | _ :: _ :: _, _, p, q => exact q.elim
  | [_], [], p, q => exact p.elim
  | [_], _ :: _ :: _, p, q => exact p.2.elim
theorem src_r2 {K : PySem.W.Frag} {W : WX} {f : M (List R)} : SrcOk K W (iRng2 (toA K W f)) (iR2 f) := by
  intro σ H RJ h
  refine many_src h fun m s H vs rs x p q => ?_
  match rs, vs, p, q with
  | [r, r2], [v, v2], p, q =>
    simp only [] at q
    cases e : asI r with
    | none => rw [e] at q; exact q.elim
    | some i =>
      cases e2 : asI r2 with
      | none => rw [e, e2] at q; exact q.elim
      | some j =>
        rw [e, e2] at q
        simp only [] at q
        split at q
        · rename_i hb
          exact ⟨i, j, by rw [asI_ok p.1 e, asI_ok p.2.1 e2], hb, q H m (Mp.le.refl m) x (Itr i (j - i).toNat) m _ (Back.id m) x Itr_walks⟩
        · exact q.elim
  | [], _, p, q => exact q.elim
  | [_], _, p, q => exact q.elim
  | _ :: _ :: _ :: _, _, p, q => exact q.elim
  | [_, _], [], p, q => exact p.elim
  | [_, _], [_], p, q => exact p.2.elim
  | [_, _], _ :: _ :: _ :: _, p, q => exact p.2.2.elim

/-! ### while -/
def whileN (t : M Bool) (b : SM) : Nat → SM
  | 0, _ => .stuck
  | n + 1, s => (t s).bindS fun k s1 => if k = true then (match b s1 with
    | .next s2 => whileN t b n s2
    | .cont s2 => whileN t b n s2
    | .brk s2 => .next s2
    | .ret r s2 => .ret r s2
    | .exc e s2 => .exc e s2
    | .stuck => .stuck) else .next s1
open Classical in
noncomputable def sWhile (t : M Bool) (b : SM) : SM := fun s => if h : ∃ n, whileN t b n s ≠ .stuck then whileN t b h.choose s else .stuck
theorem whileN_up {t : M Bool} {b : SM} : ∀ {n : Nat} {s : FS}, whileN t b n s ≠ .stuck → whileN t b (n + 1) s = whileN t b n s
  | 0, s, h => absurd rfl h
  | n + 1, s, h => by
    unfold whileN at h ⊢
    cases e : t s with
    | stuck => rfl
    | exc ex s1 => rfl
    | ok k s1 =>
      rw [e] at h
      simp only [Res.bindS] at h ⊢
      cases k with
      | false => rfl
      | true =>
        rw [if_pos rfl] at h ⊢
        rw [if_pos rfl]
        cases e2 : b s1 with
        | next s2 => simp only [e2] at h ⊢; exact whileN_up h
        | cont s2 => simp only [e2] at h ⊢; exact whileN_up h
        | _ => rfl
theorem whileN_add {t : M Bool} {b : SM} {n : Nat} {s : FS} (h : whileN t b n s ≠ .stuck) : ∀ k, whileN t b (n + k) s = whileN t b n s
  | 0 => rfl
  | k + 1 => by
    have ih := whileN_add h k
    rw [← Nat.add_assoc, whileN_up (by rw [ih]; exact h), ih]
theorem sWhile_eq {t : M Bool} {b : SM} {n : Nat} {s : FS} {r : SRes} (h : whileN t b n s = r) (hr : r ≠ .stuck) : sWhile t b s = r := by
  have hn : whileN t b n s ≠ .stuck := by rw [h]; exact hr
  have ex : ∃ n, whileN t b n s ≠ .stuck := ⟨n, hn⟩
  unfold sWhile
  rw [dif_pos ex]
  have h1 := whileN_add ex.choose_spec n
  have h2 := whileN_add hn ex.choose
  rw [Nat.add_comm] at h2
  rw [← h1, h2, h]
section
variable {X : Cx} {W : WX} {pos : Pos}
theorem ss_while {c : Expr} {body : List Stmt} {t : M Bool} {b : SM} (hp : PassesOwn (model X.prog X.w) X.A X.env X.xe) (hc : PT X c (toT X.K W t)) (hb : PSs X body (toS X.K W b)) : PS X (.While c body [] pos) (toS X.K W (sWhile t b)) :=
  PS_imp (ps_while hp hc hb) fun D σ H h => by
    obtain ⟨m, s, x, q⟩ := h
    unfold sWhile at q
    split at q
    · rename_i ex
      refine ⟨fun n σ' H' => ∃ m' s', Rel X.K m' σ' H' s' ∧ PostS X.K W m' (whileN t b n s') D, ⟨_, m, s, x, q⟩, ?_⟩
      rintro n σ' H' ⟨m', s', x, q⟩
      cases n with
      | zero => exact q.elim
      | succ n =>
        refine oneTS (k := fun k s1 => if k = true then (match b s1 with
          | .next s2 => whileN t b n s2
          | .cont s2 => whileN t b n s2
          | .brk s2 => .next s2
          | .ret r s2 => .ret r s2
          | .exc e s2 => .exc e s2
          | .stuck => .stuck) else .next s1) (D := D) ⟨m', s', x, q⟩ fun m2 s2 H2 k x2 q2 => ?_
        cases k with
        | false => exact q2 _ _ m2 (Mp.le.refl m2) x2
        | true =>
          rw [if_pos rfl] at q2 ⊢
          refine ⟨fun σ3 H3 => ∃ m' s', Rel X.K m' σ3 H3 s' ∧ PostS X.K W m' (whileN t b n s') D, fun σ3 H3 h3 => ⟨n, Nat.lt_succ_self n, h3⟩, m2, s2, x2, ?_⟩
          cases e4 : b s2 with
          | stuck => rw [e4] at q2; exact q2
          | next s3 => rw [e4] at q2; exact fun σ3 H3 m3 l3 x3 => ⟨m3, s3, x3, PostS_mono l3 q2⟩
          | cont s3 => rw [e4] at q2; exact fun σ3 H3 m3 l3 x3 => ⟨m3, s3, x3, PostS_mono l3 q2⟩
          | brk s3 => rw [e4] at q2; exact q2
          | ret r s3 => rw [e4] at q2; exact q2
          | exc ex s3 => rw [e4] at q2; exact q2
    · exact q.elim
end
end VL

set_option maxRecDepth 100000
set_option maxHeartbeats 4000000
namespace VL
open PySem PySem.Spec L2
open PyProof.Rows hiding St

/-! ### comprehensions -/
def wipeE : List Nat → FS → FS
  | [], s => s
  | v :: vs, s => (wipeE vs s).setE v .no
/-- the slots of the block's own names as they were -/
def restE : List Nat → FS → FS → FS
  | [], _, s => s
  | v :: vs, s0, s => (restE vs s0 s).setE v (s0.env.getD v .no)
def plainS : S → Bool
  | .own _ => false
  | .lck _ => false
  | _ => true
def ownOk (own : List Nat) (s : FS) : Bool := own.all fun i => plainS (s.env.getD i .no)
open Classical in
noncomputable def compL (chk : FS → Prop) (own : List Nat) (g : D → FS → Option FS) (t : M Bool) (e : M R) : List D → List D → FS → Res (List D)
  | [], acc, s => if chk s then .ok acc s else .stuck
  | d :: ds, acc, s => if chk s ∧ ownOk own s = true then (match g d (wipeE own s) with
    | none => .stuck
    | some s1 => match t s1 with
      | .ok b s2 => if b = true then (match e s2 with
        | .ok r s3 => (match frzR r s3 with
          | some (dd, s4) => if acc.length < sizeLine then compL chk own g t e ds (acc ++ [dd]) (restE own s s4) else .stuck
          | none => .stuck)
        | _ => .stuck) else compL chk own g t e ds acc (restE own s s2)
      | _ => .stuck) else .stuck
noncomputable def eLc (f : M Lp) (own : List Nat) (g : D → FS → Option FS) (t : M Bool) (e : M R) : M R := fun s => (f s).bind fun lp s1 =>
  match compL lp.chk own g t e lp.xs [] (lp.en s1) with
  | .ok acc s2 => .ok (.tmp (.lst acc)) (lp.ex s2)
  | _ => .stuck
def mYes : M Bool := fun s => .ok true s
section
variable {K : PySem.W.Frag} {W : WX} {m m' : Mp} {σ σ2 : St} {H : Hp} {s s0 : FS}
theorem Rel.wipe (x : Rel K m σ H s) : ∀ own : List Nat, Rel K m (L2.wipe σ own) H (wipeE own s)
  | [] => x
  | v :: vs => (Rel.wipe x vs).fill (z := .no) trivial
theorem restE_get : ∀ {own : List Nat} {j : Nat} {z : S}, (restE own s0 s).env[j]? = some z → (j ∈ own ∧ z = s0.env.getD j .no) ∨ (j ∉ own ∧ s.env[j]? = some z)
  | [], j, z, e => .inr ⟨by simp, e⟩
  | v :: vs, j, z, e => by
    rcases setE_get (s := restE vs s0 s) e with ⟨rfl, rfl⟩ | ⟨hj, e⟩
    · exact .inl ⟨List.mem_cons_self, rfl⟩
    · rcases restE_get e with ⟨h1, h2⟩ | ⟨h1, h2⟩
      · exact .inl ⟨List.mem_cons_of_mem _ h1, h2⟩
      · exact .inr ⟨by simp only [List.mem_cons, not_or]; exact ⟨hj, h1⟩, h2⟩
theorem restE_len : ∀ own : List Nat, (restE own s0 s).env.length = s.env.length
  | [] => rfl
  | v :: vs => by
    show ((restE vs s0 s).env.set v _).length = _
    rw [List.length_set, restE_len vs]
theorem restE_g : ∀ own : List Nat, (restE own s0 s).g = s.g ∧ (restE own s0 s).pcs = s.pcs
  | [] => ⟨rfl, rfl⟩
  | v :: vs => restE_g vs
theorem SlotOk.plain {i : Nat} {z : S} {H' : Hp} (h : plainS z = true) (l : m.lew m') (x : SlotOk K m σ H i z) : SlotOk K m' σ H' i z := by
  cases z with
  | no => trivial
  | val d => obtain ⟨v, e, r⟩ := x; exact ⟨v, e, RepD.mono l.P l.n l.io r⟩
  | own c => cases h
  | lck c => cases h
  | pc n => show σ[i]? = some (some (V.ref (m'.al n))); rw [l.al]; exact x
  | ic k j =>
    obtain ⟨e, h1, h2⟩ := x
    exact ⟨by rw [l.ic k j h1 h2]; exact e, Nat.lt_of_lt_of_le h1 l.n, Nat.lt_of_lt_of_le h2 (l.nc k h1)⟩
theorem Rel.restore {own : List Nat} {m0 : Mp} {H0 : Hp} {s2 : FS} (x0 : Rel K m0 σ H0 s0) (ok : ownOk own s0 = true) (l : m0.lew m) (x : Rel K m σ2 H s2) (w : L2.wipe σ2 own = L2.wipe σ own) : Rel K m σ H (restE own s0 s2) := by
  have hl : σ2.length = σ.length := by rw [← wipe_length σ2 own, w, wipe_length]
  have hc : (restE own s0 s2).pcs = s2.pcs := (restE_g own).2
  have hgg : (restE own s0 s2).g = s2.g := (restE_g own).1
  refine ⟨x.pers, x.lock, x.oh, x.op, x.ol, x.lp, by rw [restE_len, x.len, hl], fun j z e => ?_, fun n c e => x.cells n c (by rw [← hc]; exact e), by rw [hgg]; exact x.cnt, fun k I e => x.ins k I (by rw [← hgg]; exact e)⟩
  rcases restE_get e with ⟨h1, rfl⟩ | ⟨h1, h2⟩
  · have hp : plainS (s0.env.getD j .no) = true := List.all_eq_true.mp ok j h1
    refine SlotOk.plain hp l (H := H0) ?_
    rw [List.getD_eq_getElem?_getD]
    cases q : s0.env[j]? with
    | none => trivial
    | some z => exact x0.env j z q
  · have y := x.env j z h2
    have es : σ2[j]? = σ[j]? := by rw [← wipe_out h1, w, wipe_out h1]
    cases z with
    | no => trivial
    | val d => obtain ⟨v, e, r⟩ := y; exact ⟨v, es.symm.trans e, r⟩
    | own c => obtain ⟨a, e, r⟩ := y; exact ⟨a, es.symm.trans e, r⟩
    | lck c => obtain ⟨a, e, r⟩ := y; exact ⟨a, es.symm.trans e, r⟩
    | pc n => exact es.symm.trans y
    | ic k j' => exact ⟨es.symm.trans y.1, y.2⟩
theorem wipe_set {i : Nat} {w : Option V} : ∀ {vs : List Nat} {σ : St}, i ∈ vs → L2.wipe (σ.set i w) vs = L2.wipe σ vs
  | [], σ, h => by cases h
  | v :: vs, σ, h => by
    unfold L2.wipe
    by_cases hv : i ∈ vs
    · rw [wipe_set hv]
    · have e : i = v := by
        rcases List.mem_cons.mp h with e | e
        · exact e
        · exact absurd e hv
      subst e
      have : ∀ (us : List Nat), i ∉ us → L2.wipe (σ.set i w) us = (L2.wipe σ us).set i w := by
        intro us
        induction us with
        | nil => intro _; rfl
        | cons u us ih =>
          intro hu
          unfold L2.wipe
          rw [ih (fun z => hu (List.mem_cons_of_mem _ z)), List.set_comm]
          exact fun z => hu (by rw [z]; exact List.mem_cons_self)
      rw [this vs hv, List.set_set]
theorem wipe_idem : ∀ (vs : List Nat) (σ : St), L2.wipe (L2.wipe σ vs) vs = L2.wipe σ vs
  | [], σ => rfl
  | v :: vs, σ => by
    have h1 : L2.wipe (L2.wipe σ (v :: vs)) (v :: vs) = (L2.wipe ((L2.wipe σ vs).set v none) vs).set v none := rfl
    rw [h1]
    by_cases hv : v ∈ vs
    · rw [wipe_set hv, wipe_idem vs]; rfl
    · have : ∀ (us : List Nat) (τ : St), v ∉ us → L2.wipe (τ.set v none) us = (L2.wipe τ us).set v none := by
        intro us τ
        induction us with
        | nil => intro _; rfl
        | cons u us ih =>
          intro hu
          unfold L2.wipe
          rw [ih (fun z => hu (List.mem_cons_of_mem _ z)), List.set_comm]
          exact fun z => hu (by rw [z]; exact List.mem_cons_self)
      rw [this vs _ hv, wipe_idem vs, List.set_set]; rfl
end
/-- a comprehension's target -/
def TgOkC (K : PySem.W.Frag) (gT : TG) (g : D → FS → Option FS) (own : List Nat) : Prop := ∀ (m : Mp) (σ : St) (H : Hp) (s s1 : FS) (v : V) (d : D) (Q : St → Hp → Prop), Rel K m σ H s → RD K m v d → g d s = some s1 →
  (∀ σ' m', m.le m' → L2.wipe σ' own = L2.wipe σ own → Rel K m' σ' H s1 → Q σ' H) → gT v σ H Q
theorem tgc_name {K : PySem.W.Frag} {i : Nat} {own : List Nat} (h : i ∈ own) : TgOkC K (gName i) (gSet i) own := by
  intro m σ H s s1 v d Q x r e k
  cases e
  refine k _ m (Mp.le.refl m) (wipe_set h) ?_
  by_cases hi : i < σ.length
  · exact x.fill ⟨v, set_self hi, r⟩
  · have e1 : s.env.set i (.val d) = s.env := List.set_eq_of_length_le (by rw [x.len]; omega)
    have e2 : σ.set i (some v) = σ := List.set_eq_of_length_le (by omega)
    have e3 : s.setE i (.val d) = s := by unfold FS.setE; rw [e1]
    rw [e2, e3]; exact x
abbrev W0 : WX := fun _ _ _ _ => False
section
variable {X : Cx} {W : WX} {pos : Pos}
theorem PTs_imp {ifs : List Expr} {t t' : TT} (h : PTs X ifs t) (i : ∀ σ H Q, t' σ H Q → t σ H Q) : PTs X ifs t' := ⟨fun pins s σ H Q I q => h.run pins s σ H Q I (i _ _ _ q)⟩
theorem sts_nil : PTs X [] (toT X.K W mYes) := PTs_imp pts_nil fun σ H Q ⟨m, s, x, p⟩ => p true H m (Mp.le.refl m) x rfl
theorem sts_one {c : Expr} {t : M Bool} (h : PT X c (toT X.K W t)) : PTs X [c] (toT X.K W t) := pts_one h
theorem lc_ok {K : PySem.W.Frag} {W : WX} {wi : TI} {f : M Lp} {gT : TG} {g : D → FS → Option FS} {t : M Bool} {e : M R} {ow : List Nat} (hf : SrcOk K W wi f) (hgk : TgOkC K gT g ow) {σ : St} {H : Hp} {Q : VK} (h : toE K W (eLc f ow g t e) σ H Q) :
    tLc wi gT (toT K W0 t) (toE K W0 e) ow σ H Q := by
    obtain ⟨m, s, x, q⟩ := h
    refine hf σ H _ ⟨m, s, x, ?_⟩
    unfold eLc at q
    cases e0 : f s with
    | stuck => rw [e0] at q; exact q.elim
    | exc ex s1 => rw [e0] at q; exact q
    | ok lp s1 =>
      rw [e0] at q
      intro H1 m0 l0 x0 J m1 bk b x1 hk Da nD
      -- what is wanted at the end
      have fin : ∀ acc s2, compL lp.chk ow g t e lp.xs [] (lp.en s1) = .ok acc s2 → ∀ H' m', m1.le m' → Rel K m' σ H' s2 → RepR K m' σ H' (.ref Da) (.tmp (.lst acc)) → Q (.ref Da) H' := fun acc s2 ec H' m' l x' r' => by
        have q' : Post K W m σ (match compL lp.chk ow g t e lp.xs [] (lp.en s1) with
          | .ok acc s2 => .ok (.tmp (.lst acc)) (lp.ex s2)
          | _ => .stuck) (RpE K σ) Q := q
        rw [ec] at q'
        exact q' _ H' _ (l0.trans (b.le _ l)) (b.rel _ l _ _ _ x') (b.rep _ l _ _ _ _ r')
      have nst : ∃ acc s2, compL lp.chk ow g t e lp.xs [] (lp.en s1) = .ok acc s2 := by
        have q' : Post K W m σ (match compL lp.chk ow g t e lp.xs [] (lp.en s1) with
          | .ok acc s2 => .ok (.tmp (.lst acc)) (lp.ex s2)
          | _ => .stuck) (RpE K σ) Q := q
        cases ec : compL lp.chk ow g t e lp.xs [] (lp.en s1) with
        | ok acc s2 => exact ⟨acc, s2, rfl⟩
        | stuck => rw [ec] at q'; exact q'.elim
        | exc ex s2 => rw [ec] at q'; exact q'.elim
      obtain ⟨accF, sF, eF⟩ := nst
      have fin := fin accF sF eF
      refine ⟨fun i n H => n = lp.xs.length - i ∧ i ≤ lp.xs.length ∧ ∃ m' s' acc, m1.le m' ∧ Rel K m' σ H s' ∧ RepR K m' σ H (.ref Da) (.tmp (.lst acc)) ∧ compL lp.chk ow g t e (lp.xs.drop i) acc s' = .ok accF sF, ⟨_, rfl, Nat.zero_le _, m1, lp.en s1, [], Mp.le.refl m1, x1.fresh nD, ?_, eF⟩, ?_⟩
      · obtain ⟨n1, n2, n3⟩ := x1.none3 nD
        exact ⟨Da, rfl, n1, n2, n3, _, upd_same, _, rfl, .nil⟩
      rintro i n H ⟨rfl, hi, m', s', acc, l, x', rD, q⟩
      cases hd : lp.xs.drop i with
      | nil =>
        rw [hd] at q
        unfold compL at q
        split at q
        · rename_i hc
          cases q
          have hlen : lp.xs.length ≤ i := by
            have := congrArg List.length hd
            rw [List.length_drop, List.length_nil] at this
            omega
          exact .inl ⟨(hk m' σ H _ l.lew x' hc).2 i hlen, fin H m' l x' rD⟩
        · cases q
      | cons d ds =>
        rw [hd] at q
        unfold compL at q
        split at q
        · rename_i hc
          obtain ⟨hchk, hown⟩ := hc
          have hlt : i < lp.xs.length := by
            have := congrArg List.length hd
            rw [List.length_drop, List.length_cons] at this
            omega
          have hdi : lp.xs[i]? = some d := by
            have : (lp.xs.drop i)[0]? = some d := by rw [hd]; rfl
            rw [List.getElem?_drop] at this
            simpa using this
          have hds : lp.xs.drop (i + 1) = ds := by
            rw [← List.drop_drop, hd]; rfl
          have xL := x'.lk rD
          have lL : m'.lew (lk m' (.ref Da) (.tmp (.lst acc)) H) := ⟨fun _ _ h => h, fun a o h => by
            show (if a = Da then H Da else m'.L a) = some o
            obtain ⟨a', e1, h1, h2, h3, _⟩ := rD
            cases e1
            by_cases ha : a = Da
            · rw [ha, h3] at h; cases h
            · rw [if_neg ha]; exact h, rfl, Nat.le_refl _, fun _ _ => rfl, fun _ _ => Nat.le_refl _, fun _ _ _ _ => rfl, rfl⟩
          have lew : m1.lew (lk m' (.ref Da) (.tmp (.lst acc)) H) := ⟨l.P, fun a o h => lL.L a o (by rw [l.L]; exact h), l.al, l.n, l.io, l.nc, l.ic, l.lks⟩
          obtain ⟨hgo, hyl⟩ := (hk _ σ H s' lew xL hchk).1 i d hdi
          -- back from the lock, at the block's end
          have back : ∀ {m6 : Mp} {σ6 : St} {H6 : Hp} {s6 : FS}, (lk m' (.ref Da) (.tmp (.lst acc)) H).le m6 → Rel K m6 σ6 H6 s6 → L2.wipe σ6 ow = L2.wipe σ ow →
              Rel K (m6.setL m'.L) σ H6 (restE ow s' s6) ∧ RepR K (m6.setL m'.L) σ H6 (.ref Da) (.tmp (.lst acc)) ∧ m1.le (m6.setL m'.L) := fun {m6 σ6 H6 s6} l6 x6 w6 => by
            have l6w : m'.lew m6 := ⟨fun a o h => l6.P a o h, fun a o h => by rw [l6.L]; exact lL.L a o h, l6.al, l6.n, l6.io, l6.nc, l6.ic, l6.lks⟩
            have xr : Rel K m6 σ H6 (restE ow s' s6) := Rel.restore x' hown l6w x6 w6
            have hr := lk_rep (L := m'.L) rfl rD l6 xr
            refine ⟨xr.setL fun a o h => ?_, hr.1, ?_⟩
            · rw [l6.L]; exact lL.L a o h
            · have z := lk_le (Mp.le.refl m') l6
              exact l.trans z
          refine .inr ⟨hgo, fun H' => ∃ m'' s'' acc', m1.le m'' ∧ Rel K m'' σ H' s'' ∧ RepR K m'' σ H' (.ref Da) (.tmp (.lst acc')) ∧ compL lp.chk ow g t e ds acc' s'' = .ok accF sF, fun H' ⟨m'', s'', acc', l2, x2, r2, q2⟩ => ⟨lp.xs.length - (i + 1), by omega, rfl, hlt, m'', s'', acc', l2, x2, r2, by rw [hds]; exact q2⟩, fun y H2 hy => ?_⟩
          obtain ⟨m2, l2, x2, ry⟩ := hyl y H2 hy
          cases eg : g d (wipeE ow s') with
          | none => rw [eg] at q; cases q
          | some sg =>
            rw [eg] at q
            simp only [] at q
            refine hgk m2 (L2.wipe σ ow) H2 (wipeE ow s') sg y d _ (x2.wipe ow) ry eg fun σ3 m3 l3 w3 x3 => ⟨w3.trans (wipe_idem ow σ), m3, sg, x3, ?_⟩
            cases et : t sg with
            | stuck => rw [et] at q; cases q
            | exc ex st => rw [et] at q; cases q
            | ok bb st =>
              rw [et] at q
              simp only [] at q
              intro kk H3 m4 l4 x4 ek
              have ek' : kk = bb := ek
              subst ek'
              cases kk with
              | false =>
                rw [if_neg (by decide)] at q ⊢
                obtain ⟨b1, b2, b3⟩ := back ((l2.trans l3).trans l4) x4 (w3.trans (wipe_idem ow σ))
                exact ⟨_, _, acc, b3, b1, b2, q⟩
              | true =>
                rw [if_pos rfl] at q ⊢
                refine ⟨m4, st, x4, ?_⟩
                cases ee : e st with
                | stuck => rw [ee] at q; cases q
                | exc ex se => rw [ee] at q; cases q
                | ok r se =>
                  rw [ee] at q
                  simp only [] at q
                  intro z H4 m5 l5 x5 rz
                  cases ef : frzR r se with
                  | none => rw [ef] at q; cases q
                  | some pr =>
                    obtain ⟨dd, s4⟩ := pr
                    rw [ef] at q
                    simp only [] at q
                    split at q
                    · rename_i hlen
                      obtain ⟨m6, l6, x6, rdd, _⟩ := rz.frz x5 ef
                      obtain ⟨b1, b2, b3⟩ := back ((((l2.trans l3).trans l4).trans l5).trans l6) x6 (w3.trans (wipe_idem ow σ))
                      obtain ⟨a', e1, h1, h2, h3, o, ho, vs, rfl, rv⟩ := id b2
                      cases e1
                      refine ⟨vs, ho, by rw [rv.length]; exact hlen, _, _, acc ++ [dd], b3, b1.keep (fun a w hw => upd_ne fun z => ?_) (fun a u hu => ?_) (fun a u hu => ?_), ⟨Da, rfl, h1, h2, h3, _, upd_same, _, rfl, rv.append (.cons rdd .nil)⟩, q⟩
                      · rw [z, h1] at hw; cases hw
                      · rw [upd_ne fun z => ?_]; exact b1.pers a u hu
                        rw [z, h2] at hu; cases hu
                      · rw [upd_ne fun z => ?_]; exact b1.lock a u hu
                        rw [z, h3] at hu; cases hu
                    · cases q
        · cases q
theorem se_lc {elt tg iter : Expr} {ifs : List Expr} {scope : Scope} {own : List (Str × Nat)} {wi : TI} {f : M Lp} {gT : TG} {g : D → FS → Option FS} {t : M Bool} {e : M R} (hc : X.calm = true) (hN : X.N.Nodup) (hi : PI X tg iter wi) (hf : SrcOk X.K W wi f)
    (ok : BlkOk X.N X.env.scope scope own)
    (hg : ∀ (s : Shared) (H : Hp) (C : Addr) (cl : List (Str × Addr)) (fp : List Addr), PG (X.blk s H scope (compEnvC scope cl C X.env) fp) tg gT) (hgk : TgOkC X.K gT g (own.map (·.2)))
    (ht : ∀ (s : Shared) (H : Hp) (C : Addr) (cl : List (Str × Addr)) (fp : List Addr), PTs (X.blk s H scope (compEnvC scope cl C X.env) fp) ifs (toT X.K W0 t))
    (he : ∀ (s : Shared) (H : Hp) (C : Addr) (cl : List (Str × Addr)) (fp : List Addr), PE (X.blk s H scope (compEnvC scope cl C X.env) fp) elt (toE X.K W0 e)) (hs : ∀ x, foldedSetIterable iter X.env x = pure x := by intro _; rfl) :
    PE X (.ListComp elt [⟨tg, iter, ifs, 0⟩] scope pos) (toE X.K W (eLc f (own.map (·.2)) g t e)) :=
  PE_imp (pe_lc hc hN hi ok hg ht he hs) fun σ H Q h => lc_ok hf hgk h
/-- name = [..], the name a local -/
theorem ss_setLc {i : Nat} {y : Str} {py spos : Pos} {elt tg iter : Expr} {ifs : List Expr} {scope : Scope} {own : List (Str × Nat)} {wi : TI} {f : M Lp} {gT : TG} {g : D → FS → Option FS} {t : M Bool} {e : M R} (hc : X.calm = true) (hN : X.N.Nodup) (hy : X.N[i]? = some y) (hyl : X.env.scope.names.lookup y = some .local)
    (hsw : swapsWith (.ListComp elt [⟨tg, iter, ifs, 0⟩] scope pos) (some (.Name y py)) spos.line X.env = pure true) (hi : PI X tg iter wi) (hf : SrcOk X.K W wi f)
    (ok : BlkOk X.N X.env.scope scope own)
    (hg : ∀ (s : Shared) (H : Hp) (C : Addr) (cl : List (Str × Addr)) (fp : List Addr), PG (X.blk s H scope (compEnvC scope cl C X.env) fp) tg gT) (hgk : TgOkC X.K gT g (own.map (·.2)))
    (ht : ∀ (s : Shared) (H : Hp) (C : Addr) (cl : List (Str × Addr)) (fp : List Addr), PTs (X.blk s H scope (compEnvC scope cl C X.env) fp) ifs (toT X.K W0 t))
    (he : ∀ (s : Shared) (H : Hp) (C : Addr) (cl : List (Str × Addr)) (fp : List Addr), PE (X.blk s H scope (compEnvC scope cl C X.env) fp) elt (toE X.K W0 e)) (hs : ∀ x, foldedSetIterable iter X.env x = pure x := by intro _; rfl) :
    PS X (.Assign [.Name y py] (.ListComp elt [⟨tg, iter, ifs, 0⟩] scope pos) spos) (toS X.K W (sSet i (eLc f (own.map (·.2)) g t e))) :=
  PS_imp (ps_setLc hc hN hy hyl hsw hi ok hg ht he hs) fun D σ H h => by
    show tLc wi gT (toT X.K W0 t) (toE X.K W0 e) (own.map (·.2)) σ H fun x H1 => D.nx (σ.set i (some x)) H1
    exact lc_ok hf hgk (oneS h fun m s H v r x p q => setSlot_ok x p q)
end
end VL

set_option maxRecDepth 100000
set_option maxHeartbeats 4000000
namespace VL
open PySem PySem.Spec L2
open PyProof.Rows hiding St

/-! ### calls of defs -/
def sameP : R → R → Bool
  | .var i, .var j => i == j
  | .pc i, .pc j => i == j
  | _, _ => false
def locP (r : R) : List R → Nat → Option Nat
  | [], _ => none
  | q :: og, t => if sameP r q = true then some t else locP r og (t + 1)
/-- the operands as the callee sees them: the objects that it may change are its cells 0, 1, .. -/
def canon (s : FS) : List R → List R → List C → Option (List R × List R × List C)
  | [], og, cs => some ([], og, cs)
  | .val d :: rs, og, cs => match canon s rs og cs with
    | some (as, z) => some (.val d :: as, z)
    | none => none
  | .ic k j :: rs, og, cs => match canon s rs og cs with
    | some (as, z) => some (.ic k j :: as, z)
    | none => none
  | r :: rs, og, cs => match locP r og 0 with
    | some t => match canon s rs og cs with
      | some (as, z) => some (.pc t :: as, z)
      | none => none
    | none => match cont s r with
      | some c => match canon s rs (og ++ [r]) (cs ++ [c]) with
        | some (as, z) => some (.pc og.length :: as, z)
        | none => none
      | none => none
def backW : List R → List C → FS → Option FS
  | [], _, s => some s
  | .tmp _ :: og, _ :: cs, s => backW og cs s
  | r :: og, c :: cs, s => match put s r c with
    | some s1 => backW og cs s1
    | none => none
  | _ :: _, [], _ => none
def resR (og : List R) (cs : List C) : R → Option R
  | .val d => some (.val d)
  | .tmp c => some (.tmp c)
  | .ic k j => some (.ic k j)
  | .var _ => none
  | .pc t => match og[t]? with
    | some (.tmp _) => match cs[t]? with
      | some c => some (.tmp c)
      | none => none
    | some r => some r
    | none => none
def callR (d : Den) (rs : List R) : M R := fun s => match canon s rs [] [] with
  | none => .stuck
  | some (as, og, cs) => match d as cs s.g with
    | .stuck => .stuck
    | .ok r cs' g' => match backW og cs' { s with g := g' } with
      | some s' => match resR og cs' r with
        | some r' => .ok r' s'
        | none => .stuck
      | none => .stuck
    | .exc e cs' g' => match backW og cs' { s with g := g' } with
      | some s' => .exc e s'
      | none => .stuck
def eCall (d : Den) (f : M (List R)) : M R := fun s => (f s).bind (callR d)

/-- the callee's arguments -/
def RepAs (K : PySem.W.Frag) (m : Mp) : List V → List R → Prop
  | [], [] => True
  | v :: vs, r :: rs => (match r with
    | .val d => RD K m v d
    | .pc n => v = .ref (m.al n)
    | .ic k j => v = .ref (m.ic k j) ∧ k < m.n ∧ j < m.nc k
    | _ => False) ∧ RepAs K m vs rs
  | _, _ => False
theorem RepAs.length {K : PySem.W.Frag} {m : Mp} : ∀ {vs : List V} {rs : List R}, RepAs K m vs rs → vs.length = rs.length
  | [], [], _ => rfl
  | _ :: vs, _ :: rs, h => by simp only [List.length_cons, RepAs.length h.2]
  | [], _ :: _, h => h.elim
  | _ :: _, [], h => h.elim
def PostD (K : PySem.W.Frag) (m : Mp) (x : DRes) (Q : VK) (E : XK) : Prop := match x with
  | .stuck => False
  | .ok r cs g => ∀ v H' m', m.le m' → Rel K m' [] H' ⟨[], cs, g⟩ → RepR K m' [] H' v r → Q v H'
  | .exc e cs g => ∀ c d H' m', m.le m' → Rel K m' [] H' ⟨[], cs, g⟩ → RepX K m' H' c d e → E c d H'
/-- THE PROMISE of a def that does d -/
def spOf (K : PySem.W.Frag) (d : Den) : Sp := fun vs H Q E => ∃ m as cs g, Rel K m [] H ⟨[], cs, g⟩ ∧ RepAs K m vs as ∧ PostD K m (d as cs g) Q E

structure AI (K : PySem.W.Frag) (m : Mp) (σ : St) (H : Hp) (s : FS) (og : List R) (cs : List C) (adr : List Addr) : Prop where
  l1 : og.length = adr.length
  l2 : cs.length = adr.length
  nd : adr.Nodup
  ct : ∀ (t : Nat) c a, cs[t]? = some c → adr[t]? = some a → ∃ o, H a = some o ∧ RepC K m o c
  vr : ∀ (t : Nat) i a, og[t]? = some (.var i) → adr[t]? = some a → σ[i]? = some (some (.ref a)) ∧ m.O a = some (.slot i)
  pc : ∀ (t : Nat) n a, og[t]? = some (.pc n) → adr[t]? = some a → a = m.al n ∧ m.O a = some (.pc n)
  tm : ∀ (t : Nat) c a, og[t]? = some (.tmp c) → adr[t]? = some a → m.O a = none ∧ m.P a = none ∧ m.L a = none
  no : ∀ (t : Nat), (∀ d, og[t]? ≠ some (.val d)) ∧ ∀ k j, og[t]? ≠ some (.ic k j)
theorem locP_some {r : R} : ∀ {og : List R} {b t : Nat}, locP r og b = some t → b ≤ t ∧ ∃ q, og[t - b]? = some q ∧ sameP r q = true
  | [], _, _, e => by cases e
  | q :: og, b, t, e => by
    unfold locP at e
    split at e
    · rename_i h
      cases e
      exact ⟨Nat.le_refl _, q, by simp, h⟩
    · obtain ⟨h1, q', h2, h3⟩ := locP_some e
      refine ⟨by omega, q', ?_, h3⟩
      rw [show t - b = (t - (b + 1)) + 1 by omega, List.getElem?_cons_succ]
      exact h2
theorem locP_none {r : R} : ∀ {og : List R} {b : Nat}, locP r og b = none → ∀ (t : Nat) q, og[t]? = some q → sameP r q = false
  | [], _, _, t, q, h => by simp at h
  | p :: og, b, e, t, q, h => by
    unfold locP at e
    split at e
    · cases e
    · rename_i hs
      cases t with
      | zero => simp at h; subst h; simpa using hs
      | succ t => exact locP_none e t q (by simpa using h)
theorem snoc_get {α : Type} {l : List α} {x y : α} {t : Nat} (h : (l ++ [x])[t]? = some y) : l[t]? = some y ∨ (t = l.length ∧ y = x) := by
  by_cases ht : t < l.length
  · rw [List.getElem?_append_left ht] at h; exact .inl h
  · by_cases he : t = l.length
    · subst he
      rw [List.getElem?_append_right (Nat.le_refl _)] at h
      simp at h
      exact .inr ⟨rfl, h.symm⟩
    · rw [List.getElem?_eq_none (by rw [List.length_append, List.length_singleton]; omega)] at h
      cases h
theorem get_lt {α : Type} {l : List α} {t : Nat} {x : α} (h : l[t]? = some x) : t < l.length := (List.getElem?_eq_some_iff.mp h).1
section
variable {K : PySem.W.Frag} {W : WX} {m : Mp} {σ : St} {H : Hp} {s : FS}
/-- one more cell -/
theorem AI.snoc {og : List R} {cs : List C} {adr : List Addr} (A : AI K m σ H s og cs adr) {r : R} {c : C} {a : Addr} {o : HO} (ha : a ∉ adr) (ho : H a = some o) (rc : RepC K m o c)
    (hv : ∀ i, r = .var i → σ[i]? = some (some (.ref a)) ∧ m.O a = some (.slot i)) (hp : ∀ n, r = .pc n → a = m.al n ∧ m.O a = some (.pc n)) (ht : ∀ c, r = .tmp c → m.O a = none ∧ m.P a = none ∧ m.L a = none)
    (hn : (∀ d, r ≠ .val d) ∧ ∀ k j, r ≠ .ic k j) : AI K m σ H s (og ++ [r]) (cs ++ [c]) (adr ++ [a]) := by
  have key : ∀ {t : Nat} {q : R} {b : Addr}, (og ++ [r])[t]? = some q → (adr ++ [a])[t]? = some b → (og[t]? = some q ∧ adr[t]? = some b) ∨ (q = r ∧ b = a) := fun {t q b} h1 h2 => by
    rcases snoc_get h1 with h1 | ⟨h1, h1'⟩
    · rcases snoc_get h2 with h2 | ⟨h2, h2'⟩
      · exact .inl ⟨h1, h2⟩
      · have := get_lt h1
        rw [A.l1] at this; omega
    · rcases snoc_get h2 with h2 | ⟨h2, h2'⟩
      · have := get_lt h2
        rw [← A.l1] at this; omega
      · exact .inr ⟨h1', h2'⟩
  refine ⟨by simp [A.l1], by simp [A.l2], ?_, fun t c' b h1 h2 => ?_, fun t i b h1 h2 => ?_, fun t n b h1 h2 => ?_, fun t c' b h1 h2 => ?_, fun t => ⟨fun d h => ?_, fun k j h => ?_⟩⟩
  · rw [List.nodup_append]
    refine ⟨A.nd, by simp, fun x hx y hy => ?_⟩
    simp at hy
    subst hy
    exact fun z => ha (z ▸ hx)
  · rcases snoc_get h1 with h1 | ⟨h1, h1'⟩
    · rcases snoc_get h2 with h2 | ⟨h2, h2'⟩
      · exact A.ct t c' b h1 h2
      · have := get_lt h1
        rw [A.l2] at this; omega
    · rcases snoc_get h2 with h2 | ⟨h2, h2'⟩
      · have := get_lt h2
        rw [← A.l2] at this; omega
      · rw [h1', h2']; exact ⟨o, ho, rc⟩
  · rcases key h1 h2 with ⟨h1, h2⟩ | ⟨h1, h2⟩
    · exact A.vr t i b h1 h2
    · rw [h2]; exact hv i h1.symm
  · rcases key h1 h2 with ⟨h1, h2⟩ | ⟨h1, h2⟩
    · exact A.pc t n b h1 h2
    · rw [h2]; exact hp n h1.symm
  · rcases key h1 h2 with ⟨h1, h2⟩ | ⟨h1, h2⟩
    · exact A.tm t c' b h1 h2
    · rw [h2]; exact ht c' h1.symm
  · rcases snoc_get h with h | ⟨_, h⟩
    · exact (A.no t).1 d h
    · exact hn.1 d h.symm
  · rcases snoc_get h with h | ⟨_, h⟩
    · exact (A.no t).2 k j h
    · exact hn.2 k j h.symm
/-- the callee's arguments by the cells' addresses -/
def RepAs' (K : PySem.W.Frag) (m : Mp) (adr : List Addr) : List V → List R → Prop
  | [], [] => True
  | v :: vs, r :: rs => (match r with
    | .val d => RD K m v d
    | .pc t => ∃ a, adr[t]? = some a ∧ v = .ref a
    | .ic k j => v = .ref (m.ic k j) ∧ k < m.n ∧ j < m.nc k
    | _ => False) ∧ RepAs' K m adr vs rs
  | _, _ => False
theorem own_of (x : Rel K m σ H s) {v : V} {i : Nat} {c : C} (p : σ[i]? = some (some v)) (e : cont s (.var i) = some c) : ∃ a, v = .ref a ∧ m.O a = some (.slot i) ∧ ∃ o, H a = some o ∧ RepC K m o c := by
  simp only [cont] at e
  cases q : s.env[i]? with
  | none => rw [q] at e; cases e
  | some z =>
    rw [q] at e
    cases z with
    | own c' => cases e; obtain ⟨a, e1, e2, o, e3, e4⟩ := x.env i _ q; rw [e1] at p; cases p; exact ⟨a, rfl, e2, o, e3, e4⟩
    | lck c' => cases e; obtain ⟨a, e1, ⟨e2, o, e3, e4⟩, _⟩ := x.env i _ q; rw [e1] at p; cases p; exact ⟨a, rfl, e2, o, e3, e4⟩
    | _ => cases e
theorem canon_ok (x : Rel K m σ H s) : ∀ {rs : List R} {vs : List V} {og og' : List R} {cs cs' : List C} {as : List R} {adr : List Addr} {mc : Mp}, AI K m σ H s og cs adr →
    mc.P = m.P → mc.O = m.O → mc.al = m.al → mc.n = m.n → mc.io = m.io → mc.nc = m.nc → mc.ic = m.ic → (∀ a o, m.L a = some o → mc.L a = some o) → (∀ a, a ∈ adr → m.O a = none → mc.L a ≠ none) →
    RepRs K σ H mc vs rs → canon s rs og cs = some (as, og', cs') →
    ∃ adr', AI K m σ H s og' cs' adr' ∧ (∀ (t : Nat) a, adr[t]? = some a → adr'[t]? = some a) ∧ RepAs' K m adr' vs as := by
  intro rs
  induction rs with
  | nil =>
    intro vs og og' cs cs' as adr mc A _ _ _ _ _ _ _ _ _ p e
    cases vs with
    | nil => cases e; exact ⟨adr, A, fun _ _ h => h, trivial⟩
    | cons v vs => exact p.elim
  | cons r rs ih =>
    intro vs og og' cs cs' as adr mc A eP eO ea en ei enc eic hL hT p e
    cases vs with
    | nil => exact p.elim
    | cons v vs =>
      obtain ⟨p1, p2⟩ := p
      have lkL : ∀ a o, m.L a = some o → (lk mc v r H).L a = some o := fun a o h => by
        have h1 := hL a o h
        cases r with
        | tmp c =>
          obtain ⟨b, rfl, h2, h3, h4, u, hu, _⟩ := p1
          show (if a = b then H b else mc.L a) = some o
          by_cases hab : a = b
          · rw [hab, h4] at h1; cases h1
          · rw [if_neg hab]; exact h1
        | _ => cases v <;> exact h1
      have lkT : ∀ a, mc.L a ≠ none → (lk mc v r H).L a ≠ none := fun a h => by
        cases r with
        | tmp c =>
          obtain ⟨b, rfl, h2, h3, h4, u, hu, _⟩ := p1
          show (if a = b then H b else mc.L a) ≠ none
          by_cases hab : a = b
          · rw [if_pos hab, hu]; intro z; cases z
          · rw [if_neg hab]; exact h
        | _ => cases v <;> exact h
      have go := fun {og og' : List R} {cs cs' : List C} {as : List R} {adr : List Addr} (A : AI K m σ H s og cs adr) (hT : ∀ a, a ∈ adr → m.O a = none → (lk mc v r H).L a ≠ none) (e : canon s rs og cs = some (as, og', cs')) =>
        ih (mc := lk mc v r H) A (by rw [lk_P]; exact eP) (by rw [lk_O]; exact eO) (by rw [lk_al]; exact ea) (by rw [lk_n]; exact en) (by rw [lk_io]; exact ei) (by rw [lk_nc]; exact enc) (by rw [lk_ic]; exact eic) lkL hT p2 e
      have hT' : ∀ a, a ∈ adr → m.O a = none → (lk mc v r H).L a ≠ none := fun a h h' => lkT a (hT a h h')
      -- a place or a new object
      have place : (∀ d, r ≠ .val d) → (∀ k j, r ≠ .ic k j) → (match locP r og 0 with
        | some t => match canon s rs og cs with
          | some (as, z) => some (R.pc t :: as, z)
          | none => none
        | none => match cont s r with
          | some c => match canon s rs (og ++ [r]) (cs ++ [c]) with
            | some (as, z) => some (R.pc og.length :: as, z)
            | none => none
          | none => none) = some (as, og', cs') → ∃ adr', AI K m σ H s og' cs' adr' ∧ (∀ (t : Nat) a, adr[t]? = some a → adr'[t]? = some a) ∧ RepAs' K m adr' (v :: vs) as := fun nv ni e => by
        cases e1 : locP r og 0 with
        | some t =>
          rw [e1] at e
          simp only [] at e
          cases e2 : canon s rs og cs with
          | none => rw [e2] at e; cases e
          | some z =>
            obtain ⟨as2, og2, cs2⟩ := z
            rw [e2] at e
            cases e
            obtain ⟨adr', A', h1, h2⟩ := go A hT' e2
            refine ⟨adr', A', h1, ?_, h2⟩
            obtain ⟨_, q, hq, hs⟩ := locP_some e1
            rw [Nat.sub_zero] at hq
            have hlt : t < adr.length := by rw [← A.l1]; exact get_lt hq
            have hg := List.getElem?_eq_getElem hlt
            refine ⟨adr[t], h1 t _ hg, ?_⟩
            cases r with
            | var i =>
              cases q with
              | var j =>
                have hij : i = j := by simpa [sameP] using hs
                subst hij
                have := (A.vr t i _ hq hg).1
                have p1' : σ[i]? = some (some v) := p1
                rw [p1'] at this
                cases this; rfl
              | _ => cases hs
            | pc n =>
              cases q with
              | pc j =>
                have hij : n = j := by simpa [sameP] using hs
                subst hij
                have p1' : v = .ref (mc.al n) := p1
                rw [p1', ea, ← (A.pc t n _ hq hg).1]
              | _ => cases hs
            | _ => cases q <;> cases hs
        | none =>
          rw [e1] at e
          simp only [] at e
          cases ec : cont s r with
          | none => rw [ec] at e; cases e
          | some c =>
            rw [ec] at e
            simp only [] at e
            cases e2 : canon s rs (og ++ [r]) (cs ++ [c]) with
            | none => rw [e2] at e; cases e
            | some z =>
              obtain ⟨as2, og2, cs2⟩ := z
              rw [e2] at e
              cases e
              have fin : ∀ a o, v = .ref a → a ∉ adr → H a = some o → RepC K m o c → (∀ i, r = .var i → σ[i]? = some (some (.ref a)) ∧ m.O a = some (.slot i)) → (∀ n, r = .pc n → a = m.al n ∧ m.O a = some (.pc n)) → (∀ c, r = .tmp c → m.O a = none ∧ m.P a = none ∧ m.L a = none) →
                  ∃ adr', AI K m σ H s og' cs' adr' ∧ (∀ (t : Nat) a, adr[t]? = some a → adr'[t]? = some a) ∧ RepAs' K m adr' (v :: vs) (.pc og.length :: as2) := fun a o ev hn ho rc hv hp ht => by
                have A2 := A.snoc hn ho rc hv hp ht ⟨nv, ni⟩
                obtain ⟨adr', A', h1, h2⟩ := go A2 (fun b hb hb' => by
                  rcases List.mem_append.mp hb with hb | hb
                  · exact hT' b hb hb'
                  · simp at hb
                    subst hb
                    cases r with
                    | tmp c' =>
                      subst ev
                      show (if b = b then H b else mc.L b) ≠ none
                      rw [if_pos rfl, ho]; intro z; cases z
                    | var i => rw [(hv i rfl).2] at hb'; cases hb'
                    | pc n => rw [(hp n rfl).2] at hb'; cases hb'
                    | val d => exact absurd rfl (nv d)
                    | ic k j => exact absurd rfl (ni k j)) e2
                refine ⟨adr', A', fun t b hb => h1 t b (by rw [List.getElem?_append_left (get_lt hb)]; exact hb), ⟨a, h1 _ _ ?_, ev⟩, h2⟩
                rw [A.l1, List.getElem?_append_right (Nat.le_refl _)]
                simp
              have notin : ∀ a, (∀ (t : Nat), adr[t]? = some a → False) → a ∉ adr := fun a h hm => by
                obtain ⟨t, ht⟩ := List.getElem?_of_mem hm
                exact h t ht
              have ogt : ∀ {t : Nat} {a}, adr[t]? = some a → ∃ q, og[t]? = some q := fun {t a} h => ⟨og[t]'(by rw [A.l1]; exact get_lt h), List.getElem?_eq_getElem _⟩
              cases r with
              | val d => exact absurd rfl (nv d)
              | ic k j => exact absurd rfl (ni k j)
              | var i =>
                obtain ⟨a, ev, ha, o, ho, rc⟩ := own_of x (show σ[i]? = some (some v) from p1) ec
                refine fin a o ev (notin a fun t ht => ?_) ho rc (fun j ej => ?_) (fun n en => nomatch en) (fun c ec => nomatch ec)
                · obtain ⟨q, hq⟩ := ogt ht
                  have hs := locP_none e1 t q hq
                  cases q with
                  | var j =>
                    have h2 := (A.vr t j a hq ht).2
                    rw [ha] at h2
                    have : i = j := by injection h2 with h2; injection h2
                    subst this
                    simp [sameP] at hs
                  | pc n => have h2 := (A.pc t n a hq ht).2; rw [ha] at h2; cases h2
                  | tmp c' => have h2 := (A.tm t c' a hq ht).1; rw [ha] at h2; cases h2
                  | val d => exact (A.no t).1 d hq
                  | ic k j => exact (A.no t).2 k j hq
                · cases ej
                  have p1' : σ[i]? = some (some v) := p1
                  rw [ev] at p1'
                  exact ⟨p1', ha⟩
              | pc n =>
                have ec' : s.pcs[n]? = some c := ec
                obtain ⟨ha, o, ho, rc⟩ := x.cells n c ec'
                have p1' : v = .ref (mc.al n) := p1
                rw [ea] at p1'
                refine fin _ o p1' (notin _ fun t ht => ?_) ho rc (fun j ej => nomatch ej) (fun n en => ?_) (fun c ec => nomatch ec)
                · obtain ⟨q, hq⟩ := ogt ht
                  have hs := locP_none e1 t q hq
                  cases q with
                  | var j => have h2 := (A.vr t j _ hq ht).2; rw [ha] at h2; cases h2
                  | pc n' =>
                    have h2 := (A.pc t n' _ hq ht).2
                    rw [ha] at h2
                    have : n = n' := by injection h2 with h2; injection h2
                    subst this
                    simp [sameP] at hs
                  | tmp c' => have h2 := (A.tm t c' _ hq ht).1; rw [ha] at h2; cases h2
                  | val d => exact (A.no t).1 d hq
                  | ic k j => exact (A.no t).2 k j hq
                · cases en
                  exact ⟨rfl, ha⟩
              | tmp c' =>
                cases ec
                obtain ⟨a, ev, h1, h2, h3, o, ho, rc⟩ := p1
                rw [eO] at h1
                rw [eP] at h2
                have rc' : RepC K m o c := RepC.mono (m := mc) (m' := m) ⟨fun a o h => by rw [← eP]; exact h, Nat.le_of_eq en, fun k _ => by rw [ei]⟩ rc
                refine fin a o ev (notin a fun t ht => ?_) ho rc' (fun j ej => nomatch ej) (fun n en => nomatch en) (fun c ec => ⟨h1, h2, ?_⟩)
                · exact hT a (List.mem_of_getElem? ht) h1 h3
                · cases q : m.L a with
                  | none => rfl
                  | some u => rw [hL a u q] at h3; cases h3
      cases r with
      | val d =>
        unfold canon at e
        cases e2 : canon s rs og cs with
        | none => rw [e2] at e; cases e
        | some z =>
          obtain ⟨as2, og2, cs2⟩ := z
          rw [e2] at e
          cases e
          obtain ⟨adr', A', h1, h2⟩ := go A hT' e2
          refine ⟨adr', A', h1, ?_, h2⟩
          exact RepD.mono (fun a o h => by rw [← eP]; exact h) (Nat.le_of_eq en) (fun k _ => by rw [ei]) p1
      | ic k j =>
        unfold canon at e
        cases e2 : canon s rs og cs with
        | none => rw [e2] at e; cases e
        | some z =>
          obtain ⟨as2, og2, cs2⟩ := z
          rw [e2] at e
          cases e
          obtain ⟨adr', A', h1, h2⟩ := go A hT' e2
          refine ⟨adr', A', h1, ?_, h2⟩
          obtain ⟨q1, q2, q3⟩ := p1
          exact ⟨by rw [← eic]; exact q1, by rw [← en]; exact q2, by rw [← enc]; exact q3⟩
      | var i => exact place (fun _ z => nomatch z) (fun _ _ z => nomatch z) e
      | pc n => exact place (fun _ z => nomatch z) (fun _ _ z => nomatch z) e
      | tmp c => exact place (fun _ z => nomatch z) (fun _ _ z => nomatch z) e
end
end VL

set_option maxRecDepth 100000
set_option maxHeartbeats 4000000
namespace VL
open PySem PySem.Spec L2
open PyProof.Rows hiding St

theorem idxOf_get {l : List Addr} (nd : l.Nodup) {t : Nat} {a : Addr} (h : l[t]? = some a) : l.idxOf a = t := by
  induction l generalizing t with
  | nil => simp at h
  | cons b l ih =>
    cases t with
    | zero => simp at h; subst h; simp [List.idxOf_cons]
    | succ t =>
      rw [List.getElem?_cons_succ] at h
      have hne : ¬ b = a := fun z => by
        subst z
        exact (List.nodup_cons.mp nd).1 (List.mem_of_getElem? h)
      have : (b == a) = false := by simpa using hne
      rw [List.idxOf_cons, this]
      simp only [Bool.false_eq_true, if_false, cond_false]
      rw [ih (List.nodup_cons.mp nd).2 h]
def mfO (m : Mp) (adr : List Addr) (a : Addr) : Option Own := if a ∈ adr then some (.pc (adr.idxOf a)) else match m.O a with
  | some (.ins k) => some (.ins k)
  | some (.idc k) => some (.idc k)
  | some (.ic k j) => some (.ic k j)
  | _ => none
def mfL (m : Mp) (adr : List Addr) (H : Hp) (a : Addr) : Option HO := if a ∈ adr then none else match m.O a with
  | some (.slot _) => H a
  | some (.pc _) => H a
  | _ => m.L a
/-- what the callee sees -/
def mf (m : Mp) (adr : List Addr) (H : Hp) : Mp := { m with O := mfO m adr, L := mfL m adr H, al := fun t => adr.getD t 0, lks := fun _ => none }
def m2O (m m' : Mp) (adr : List Addr) (og : List R) (a : Addr) : Option Own := match m'.O a with
  | some (.pc t) => if adr[t]? = some a then (match og[t]? with
    | some (.var i) => some (.slot i)
    | some (.pc n) => some (.pc n)
    | _ => none) else none
  | some (.slot _) => none
  | some w => some w
  | none => if a ∈ adr then none else match m.O a with
    | some (.slot i) => some (.slot i)
    | some (.pc n) => some (.pc n)
    | _ => none
/-- what the caller knows afterwards -/
def m2 (m m' : Mp) (adr : List Addr) (og : List R) : Mp := { m' with L := m.L, O := m2O m m' adr og, al := m.al, lks := m.lks }
section
variable {K : PySem.W.Frag} {W : WX} {m m' : Mp} {σ : St} {H : Hp} {s : FS} {og : List R} {cs : List C} {adr : List Addr}
theorem AI.cell (A : AI K m σ H s og cs adr) {a : Addr} (h : a ∈ adr) : ∃ (t : Nat) (q : R), adr[t]? = some a ∧ og[t]? = some q ∧ ∃ c, cs[t]? = some c := by
  obtain ⟨t, ht⟩ := List.getElem?_of_mem h
  have hl := get_lt ht
  exact ⟨t, og[t]'(by rw [A.l1]; exact hl), ht, List.getElem?_eq_getElem _, cs[t]'(by rw [A.l2]; exact hl), List.getElem?_eq_getElem _⟩
theorem AI.ownK (A : AI K m σ H s og cs adr) {a : Addr} (h : a ∈ adr) : ∀ w, m.O a = some w → (∃ i, w = .slot i) ∨ ∃ n, w = .pc n := fun w hw => by
  obtain ⟨t, q, h1, h2, _⟩ := A.cell h
  cases q with
  | var i => have := (A.vr t i a h2 h1).2; rw [hw] at this; cases this; exact .inl ⟨i, rfl⟩
  | pc n => have := (A.pc t n a h2 h1).2; rw [hw] at this; cases this; exact .inr ⟨n, rfl⟩
  | tmp c => have := (A.tm t c a h2 h1).1; rw [hw] at this; cases this
  | val d => exact absurd h2 ((A.no t).1 d)
  | ic k j => exact absurd h2 ((A.no t).2 k j)
theorem AI.noPL (A : AI K m σ H s og cs adr) (x : Rel K m σ H s) {a : Addr} (h : a ∈ adr) : m.P a = none ∧ m.L a = none := by
  obtain ⟨t, q, h1, h2, _⟩ := A.cell h
  cases q with
  | var i => have := (A.vr t i a h2 h1).2; exact ⟨x.op _ _ this, x.ol _ _ this⟩
  | pc n => have := (A.pc t n a h2 h1).2; exact ⟨x.op _ _ this, x.ol _ _ this⟩
  | tmp c => exact (A.tm t c a h2 h1).2
  | val d => exact absurd h2 ((A.no t).1 d)
  | ic k j => exact absurd h2 ((A.no t).2 k j)
/-- into the callee -/
theorem mf_rel (A : AI K m σ H s og cs adr) (x : Rel K m σ H s) : Rel K (mf m adr H) [] H ⟨[], cs, s.g⟩ := by
  have hin : ∀ {a w}, m.O a = some w → (∀ i, w ≠ .slot i) → (∀ n, w ≠ .pc n) → a ∉ adr ∧ mfO m adr a = (match w with | .ins k => some (.ins k) | .idc k => some (.idc k) | .ic k j => some (.ic k j) | _ => none) := fun {a w} h h1 h2 => by
    have hn : a ∉ adr := fun hm => by
      rcases A.ownK hm w h with ⟨i, e⟩ | ⟨n, e⟩
      · exact h1 i e
      · exact h2 n e
    refine ⟨hn, ?_⟩
    unfold mfO
    rw [if_neg hn, h]
    cases w <;> rfl
  refine ⟨x.pers, fun a o e => ?_, fun a w e => ?_, fun a w e => ?_, fun a w e => ?_, fun a o e => ?_, rfl, fun i z e => by simp at e, fun t c e => ?_, x.cnt, fun k I e => ?_⟩
  · have e' : mfL m adr H a = some o := e
    unfold mfL at e'
    split at e'
    · cases e'
    · split at e'
      · exact e'
      · exact e'
      · exact x.lock a o e'
  · have e' : mfO m adr a = some w := e
    unfold mfO at e'
    split at e'
    · rename_i hm
      obtain ⟨t, q, h1, h2, c, h3⟩ := A.cell hm
      obtain ⟨o, ho, _⟩ := A.ct t c a h3 h1
      rw [ho]; intro z; cases z
    · split at e' <;> first
        | (rename_i hO; exact x.oh a _ hO)
        | cases e'
  · have e' : mfO m adr a = some w := e
    unfold mfO at e'
    split at e'
    · rename_i hm; exact (A.noPL x hm).1
    · split at e' <;> first
        | (rename_i hO; exact x.op a _ hO)
        | cases e'
  · have e' : mfO m adr a = some w := e
    show mfL m adr H a = none
    unfold mfO at e'
    unfold mfL
    split at e'
    · rename_i hm; rw [if_pos hm]
    · rename_i hm
      rw [if_neg hm]
      split at e' <;> first
        | (rename_i hO; rw [hO]; exact x.ol a _ hO)
        | cases e'
  · have e' : mfL m adr H a = some o := e
    show m.P a = none
    unfold mfL at e'
    split at e'
    · cases e'
    · split at e'
      · rename_i hO; exact x.op a _ hO
      · rename_i hO; exact x.op a _ hO
      · exact x.lp a o e'
  · have hl : t < adr.length := by rw [← A.l2]; exact get_lt e
    have hg := List.getElem?_eq_getElem hl
    have hal : (mf m adr H).al t = adr[t] := by
      show adr.getD t 0 = adr[t]
      rw [List.getD_eq_getElem?_getD, hg]; rfl
    rw [hal]
    refine ⟨?_, A.ct t c _ e hg⟩
    show mfO m adr adr[t] = some (.pc t)
    unfold mfO
    rw [if_pos (List.getElem_mem hl), idxOf_get A.nd hg]
  · have y := x.ins k I e
    refine InstOk.mono (m := m) (m' := mf m adr H) ⟨fun _ _ h => h, Nat.le_refl _, fun _ _ => rfl⟩ rfl rfl rfl (fun _ _ => rfl) ?_ ?_ (fun j hj => ?_) rfl rfl (fun _ _ => rfl) y
    · exact (hin y.1 (fun _ z => nomatch z) (fun _ z => nomatch z)).2
    · exact (hin y.2.1 (fun _ z => nomatch z) (fun _ z => nomatch z)).2
    · obtain ⟨_, _, _, _, n, cs⟩ := y
      have hj' : j < I.cells.length := by rw [← n]; exact hj
      exact (hin (cs j _ (List.getElem?_eq_getElem hj')).1 (fun _ z => nomatch z) (fun _ z => nomatch z)).2
theorem RepAs_of (A : AI K m σ H s og cs adr) : ∀ {vs : List V} {as : List R}, RepAs' K m adr vs as → RepAs K (mf m adr H) vs as
  | [], [], _ => trivial
  | v :: vs, r :: rs, h => by
    refine ⟨?_, RepAs_of A h.2⟩
    have h1 := h.1
    cases r with
    | val d => exact h1
    | pc t =>
      obtain ⟨a, ha, e⟩ := h1
      show v = .ref (adr.getD t 0)
      rw [List.getD_eq_getElem?_getD, ha, e]; rfl
    | ic k j => exact h1
    | _ => exact h1.elim
  | [], _ :: _, h => h.elim
  | _ :: _, [], h => h.elim
theorem m2_le (x : (mf m adr H).le m') : m.le (m2 m m' adr og) := ⟨x.P, rfl, rfl, x.n, x.io, x.nc, x.ic, rfl⟩
/-- what the writing back does -/
def BW (og : List R) (cs : List C) (s s2 : FS) : Prop := s2.g = s.g ∧ s2.env.length = s.env.length ∧
    (∀ (i : Nat) (z : S), s2.env[i]? = some z → (∃ (t : Nat) (c : C), og[t]? = some (R.var i) ∧ cs[t]? = some c ∧ (z = S.own c ∨ (z = S.lck c ∧ ∃ c0, s.env[i]? = some (S.lck c0)))) ∨ ((∀ (t : Nat), og[t]? = some (R.var i) → cs[t]? = none) ∧ s.env[i]? = some z)) ∧
    (∀ (n : Nat) (c : C), s2.pcs[n]? = some c → (∃ t : Nat, og[t]? = some (R.pc n) ∧ cs[t]? = some c) ∨ ((∀ t : Nat, og[t]? = some (R.pc n) → cs[t]? = none) ∧ s.pcs[n]? = some c)) ∧ (∀ (t : Nat) (q : R), og[t]? = some q → ∃ c, cs[t]? = some c)
theorem backW_ok : ∀ {og : List R} {cs : List C} {s s2 : FS}, backW og cs s = some s2 → (∀ (t : Nat), (∀ d, og[t]? ≠ some (R.val d)) ∧ ∀ k j, og[t]? ≠ some (R.ic k j)) → BW og cs s s2
  | [], cs, s, s2, e, hn => by
    cases e
    exact ⟨rfl, rfl, fun i z h => .inr ⟨fun t h => by simp at h, h⟩, fun n c h => .inr ⟨fun t h => by simp at h, h⟩, fun t q h => by simp at h⟩
  | r :: og, [], s, s2, e, hn => by
    cases r <;> cases e
  | r :: og, c :: cs, s, s2, e, hn => by
    have hn' : ∀ (t : Nat), (∀ d, og[t]? ≠ some (R.val d)) ∧ ∀ k j, og[t]? ≠ some (R.ic k j) := fun t => by
      have := hn (t + 1)
      simpa using this
    have step : ∀ s1 : FS, backW og cs s1 = some s2 → s1.g = s.g → s1.env.length = s.env.length →
        (∀ (i : Nat) (z : S), s1.env[i]? = some z → (r = R.var i ∧ (z = S.own c ∨ (z = S.lck c ∧ ∃ c0, s.env[i]? = some (S.lck c0)))) ∨ (r ≠ R.var i ∧ s.env[i]? = some z)) →
        (∀ (n : Nat) (c' : C), s1.pcs[n]? = some c' → (r = R.pc n ∧ c' = c) ∨ (r ≠ R.pc n ∧ s.pcs[n]? = some c')) → BW (r :: og) (c :: cs) s s2 := fun s1 e1 hg hl h1 h2 => by
      obtain ⟨g1, g2, g3, g4, g5⟩ := backW_ok e1 hn'
      refine ⟨g1.trans hg, g2.trans hl, fun i z h => ?_, fun n c' h => ?_, fun t q h => ?_⟩
      · rcases g3 i z h with ⟨t, c', k1, k2, k3⟩ | ⟨k1, k2⟩
        · refine .inl ⟨t + 1, c', by simpa using k1, by simpa using k2, ?_⟩
          rcases k3 with k3 | ⟨k3, c0, k4⟩
          · exact .inl k3
          · refine .inr ⟨k3, ?_⟩
            rcases h1 i _ k4 with ⟨_, k5 | ⟨_, k5⟩⟩ | ⟨_, k5⟩
            · cases k5
            · exact k5
            · exact ⟨c0, k5⟩
        · rcases h1 i z k2 with ⟨k3, k4⟩ | ⟨k3, k4⟩
          · exact .inl ⟨0, c, by simp [k3], by simp, k4⟩
          · refine .inr ⟨fun t ht => ?_, k4⟩
            cases t with
            | zero => simp at ht; exact absurd ht k3
            | succ t => simpa using k1 t (by simpa using ht)
      · rcases g4 n c' h with ⟨t, k1, k2⟩ | ⟨k1, k2⟩
        · exact .inl ⟨t + 1, by simpa using k1, by simpa using k2⟩
        · rcases h2 n c' k2 with ⟨k3, k4⟩ | ⟨k3, k4⟩
          · exact .inl ⟨0, by simp [k3], by simp [k4]⟩
          · refine .inr ⟨fun t ht => ?_, k4⟩
            cases t with
            | zero => simp at ht; exact absurd ht k3
            | succ t => simpa using k1 t (by simpa using ht)
      · cases t with
        | zero => exact ⟨c, by simp⟩
        | succ t => simpa using g5 t q (by simpa using h)
    cases r with
    | tmp c' => exact step s e rfl rfl (fun i z h => .inr ⟨(fun z => nomatch z), h⟩) (fun n c h => .inr ⟨(fun z => nomatch z), h⟩)
    | val d => exact absurd rfl ((hn 0).1 d)
    | ic k j => exact absurd rfl ((hn 0).2 k j)
    | var i =>
      have e' : (match put s (.var i) c with | some s1 => backW og cs s1 | none => none) = some s2 := e
      simp only [put] at e'
      cases q : s.env[i]? with
      | none =>
        rw [q] at e'
        refine step _ e' rfl (by show (s.env.set i _).length = _; rw [List.length_set]) (fun j z h => ?_) (fun n c h => .inr ⟨(fun z => nomatch z), h⟩)
        rcases setE_get h with ⟨rfl, rfl⟩ | ⟨hj, h⟩
        · exact .inl ⟨rfl, .inl rfl⟩
        · exact .inr ⟨fun z => hj (by injection z with z; exact z.symm), h⟩
      | some w =>
        rw [q] at e'
        cases w with
        | lck c0 =>
          refine step _ e' rfl (by show (s.env.set i _).length = _; rw [List.length_set]) (fun j z h => ?_) (fun n c h => .inr ⟨(fun z => nomatch z), h⟩)
          rcases setE_get h with ⟨rfl, rfl⟩ | ⟨hj, h⟩
          · exact .inl ⟨rfl, .inr ⟨rfl, c0, q⟩⟩
          · exact .inr ⟨fun z => hj (by injection z with z; exact z.symm), h⟩
        | _ =>
          refine step _ e' rfl (by show (s.env.set i _).length = _; rw [List.length_set]) (fun j z h => ?_) (fun n c h => .inr ⟨(fun z => nomatch z), h⟩)
          rcases setE_get h with ⟨rfl, rfl⟩ | ⟨hj, h⟩
          · exact .inl ⟨rfl, .inl rfl⟩
          · exact .inr ⟨fun z => hj (by injection z with z; exact z.symm), h⟩
    | pc n =>
      refine step { s with pcs := s.pcs.set n c } e rfl rfl (fun i z h => .inr ⟨(fun z => nomatch z), h⟩) (fun n' c' h => ?_)
      have h' : (s.pcs.set n c)[n']? = some c' := h
      by_cases hn : n = n'
      · subst hn
        by_cases hl : n < s.pcs.length
        · rw [List.getElem?_set_self hl] at h'; cases h'; exact .inl ⟨rfl, rfl⟩
        · rw [List.getElem?_eq_none (by simpa using hl)] at h'; cases h'
      · rw [List.getElem?_set_ne hn] at h'
        exact .inr ⟨fun z => hn (by injection z), h'⟩
/-- back from the callee -/
theorem m2_rel {cs' : List C} {g' : List Inst} {H' : Hp} {s2 : FS} (A : AI K m σ H s og cs adr) (x : Rel K m σ H s) (l : (mf m adr H).le m') (x' : Rel K m' [] H' ⟨[], cs', g'⟩) (eb : backW og cs' { s with g := g' } = some s2) :
    Rel K (m2 m m' adr og) σ H' s2 := by
  obtain ⟨g1, g2, g3, g4, g5⟩ := backW_ok eb A.no
  have lL : m'.L = mfL m adr H := l.L
  have lal : m'.al = fun t => adr.getD t 0 := l.al
  -- a cell of the caller's that the callee did not see
  have rest : ∀ {a w}, a ∉ adr → m.O a = some w → ((∃ i, w = .slot i) ∨ ∃ n, w = .pc n) → H' a = H a ∧ m'.O a = none ∧ m'.P a = none ∧ m2O m m' adr og a = some w := fun {a w} hn hO hw => by
    obtain ⟨o, ho⟩ := Option.ne_none_iff_exists'.mp (x.oh a w hO)
    have hL : m'.L a = some o := by
      rw [lL]
      unfold mfL
      rw [if_neg hn, hO]
      rcases hw with ⟨i, rfl⟩ | ⟨n, rfl⟩ <;> exact ho
    have hO' : m'.O a = none := by
      cases q : m'.O a with
      | none => rfl
      | some w' => have := x'.ol a w' q; rw [hL] at this; cases this
    refine ⟨(x'.lock a o hL).trans ho.symm, hO', x'.lp a o hL, ?_⟩
    unfold m2O
    rw [hO', if_neg hn, hO]
    rcases hw with ⟨i, rfl⟩ | ⟨n, rfl⟩ <;> rfl
  have pass : ∀ {t : Nat} {a c}, adr[t]? = some a → cs'[t]? = some c → m'.O a = some (.pc t) ∧ ∃ o, H' a = some o ∧ RepC K m' o c := fun {t a c} h1 h2 => by
    have := x'.cells t c h2
    rw [lal] at this
    have ea : adr.getD t 0 = a := by rw [List.getD_eq_getElem?_getD, h1]; rfl
    simp only [ea] at this
    exact this
  have mL : ∀ a w, m'.O a = some w → m.L a = none := fun a w h => by
    have h1 := x'.ol a w h
    rw [lL] at h1
    unfold mfL at h1
    split at h1
    · rename_i hm; exact (A.noPL x hm).2
    · split at h1
      · rename_i hO; exact x.ol a _ hO
      · rename_i hO; exact x.ol a _ hO
      · exact h1
  have m2c : ∀ {a w}, m2O m m' adr og a = some w → (∃ w', m'.O a = some w') ∨ (a ∉ adr ∧ m.O a = some w ∧ ((∃ i, w = .slot i) ∨ ∃ n, w = .pc n)) := fun {a w} h => by
    unfold m2O at h
    split at h
    · rename_i hO; exact .inl ⟨_, hO⟩
    · cases h
    · rename_i hO; exact .inl ⟨_, hO⟩
    · split at h
      · cases h
      · rename_i hm
        split at h
        · rename_i hO; cases h; exact .inr ⟨hm, hO, .inl ⟨_, rfl⟩⟩
        · rename_i hO; cases h; exact .inr ⟨hm, hO, .inr ⟨_, rfl⟩⟩
        · cases h
  have kn : m.kn (m2 m m' adr og) := ⟨l.P, l.n, l.io⟩
  have slotA : ∀ {i : Nat} {a}, σ[i]? = some (some (V.ref a)) → m.O a = some (.slot i) → a ∈ adr → ∃ t : Nat, adr[t]? = some a ∧ og[t]? = some (.var i) := fun {i a} _ hO hm => by
    obtain ⟨t, q, h1, h2, _⟩ := A.cell hm
    cases q with
    | var j => have := (A.vr t j a h2 h1).2; rw [hO] at this; cases this; exact ⟨t, h1, h2⟩
    | pc n => have := (A.pc t n a h2 h1).2; rw [hO] at this; cases this
    | tmp c => have := (A.tm t c a h2 h1).1; rw [hO] at this; cases this
    | val d => exact absurd h2 ((A.no t).1 d)
    | ic k j => exact absurd h2 ((A.no t).2 k j)
  refine ⟨x'.pers, fun a o e => ?_, fun a w e => ?_, fun a w e => ?_, fun a w e => ?_, fun a o e => ?_, ?_, fun i z e => ?_, fun n c e => ?_, ?_, fun k I e => ?_⟩
  · have e' : m.L a = some o := e
    refine x'.lock a o ?_
    rw [lL]
    unfold mfL
    have hn : a ∉ adr := fun hm => by have := (A.noPL x hm).2; rw [e'] at this; cases this
    rw [if_neg hn]
    split
    · rename_i hO; have := x.ol a _ hO; rw [e'] at this; cases this
    · rename_i hO; have := x.ol a _ hO; rw [e'] at this; cases this
    · exact e'
  · rcases m2c e with ⟨w', hO⟩ | ⟨hn, hO, hw⟩
    · exact x'.oh a w' hO
    · rw [(rest hn hO hw).1]; exact x.oh a w hO
  · rcases m2c e with ⟨w', hO⟩ | ⟨hn, hO, hw⟩
    · exact x'.op a w' hO
    · exact (rest hn hO hw).2.2.1
  · rcases m2c e with ⟨w', hO⟩ | ⟨hn, hO, hw⟩
    · exact mL a w' hO
    · exact x.ol a w hO
  · have e' : m.L a = some o := e
    refine x'.lp a o ?_
    rw [lL]
    unfold mfL
    have hn : a ∉ adr := fun hm => by have := (A.noPL x hm).2; rw [e'] at this; cases this
    rw [if_neg hn]
    split
    · rename_i hO; have := x.ol a _ hO; rw [e'] at this; cases this
    · rename_i hO; have := x.ol a _ hO; rw [e'] at this; cases this
    · exact e'
  · rw [g2]; exact x.len
  · rcases g3 i z e with ⟨t, c, k1, k2, k3⟩ | ⟨k1, k2⟩
    · have hl : t < adr.length := by rw [← A.l1]; exact get_lt k1
      have hg := List.getElem?_eq_getElem hl
      obtain ⟨hσ, hO⟩ := A.vr t i _ k1 hg
      obtain ⟨hO', hc⟩ := pass hg k2
      have h2 : m2O m m' adr og adr[t] = some (.slot i) := by
        unfold m2O
        rw [hO']
        simp only []
        rw [if_pos hg, k1]
      rcases k3 with rfl | ⟨rfl, c0, k4⟩
      · exact ⟨_, hσ, h2, hc⟩
      · obtain ⟨a0, f1, _, f2⟩ := x.env i _ k4
        rw [hσ] at f1
        cases f1
        exact ⟨_, hσ, ⟨h2, hc⟩, f2⟩
    · have y := x.env i z k2
      have keep : ∀ {a c}, σ[i]? = some (some (V.ref a)) → CellOk K m H (.slot i) a c → CellOk K (m2 m m' adr og) H' (.slot i) a c := fun {a c} hs hc => by
        obtain ⟨hO, o, ho, rc⟩ := hc
        have hn : a ∉ adr := fun hm => by
          obtain ⟨t, h1, h2⟩ := slotA hs hO hm
          obtain ⟨c', h3⟩ := g5 t _ h2
          rw [k1 t h2] at h3; cases h3
        obtain ⟨h1, _, _, h4⟩ := rest hn hO (.inl ⟨i, rfl⟩)
        exact ⟨h4, o, h1.trans ho, rc.mono kn⟩
      cases z with
      | no => trivial
      | val d => obtain ⟨v, f1, f2⟩ := y; exact ⟨v, f1, RepD.mono kn.P kn.n kn.io f2⟩
      | own c => obtain ⟨a, f1, f2⟩ := y; exact ⟨a, f1, keep f1 f2⟩
      | lck c => obtain ⟨a, f1, f2, f3⟩ := y; exact ⟨a, f1, keep f1 f2, f3⟩
      | pc n => exact y
      | ic k j =>
        obtain ⟨f1, f2, f3⟩ := y
        exact ⟨by show σ[i]? = some (some (V.ref (m'.ic k j))); rw [l.ic k j f2 f3]; exact f1, Nat.lt_of_lt_of_le f2 l.n, Nat.lt_of_lt_of_le f3 (l.nc k f2)⟩
  · rcases g4 n c e with ⟨t, k1, k2⟩ | ⟨k1, k2⟩
    · have hl : t < adr.length := by rw [← A.l1]; exact get_lt k1
      have hg := List.getElem?_eq_getElem hl
      obtain ⟨ha, hO⟩ := A.pc t n _ k1 hg
      obtain ⟨hO', hc⟩ := pass hg k2
      show CellOk K (m2 m m' adr og) H' (.pc n) (m.al n) c
      rw [← ha]
      refine ⟨?_, hc⟩
      show m2O m m' adr og adr[t] = some (.pc n)
      unfold m2O
      rw [hO']
      simp only []
      rw [if_pos hg, k1]
    · obtain ⟨hO, o, ho, rc⟩ := x.cells n c k2
      have hn : m.al n ∉ adr := fun hm => by
        obtain ⟨t, q, h1, h2, _⟩ := A.cell hm
        cases q with
        | var j => have := (A.vr t j _ h2 h1).2; rw [hO] at this; cases this
        | pc n' =>
          have := (A.pc t n' _ h2 h1).2
          rw [hO] at this
          cases this
          obtain ⟨c', h3⟩ := g5 t _ h2
          rw [k1 t h2] at h3; cases h3
        | tmp c => have := (A.tm t c _ h2 h1).1; rw [hO] at this; cases this
        | val d => exact absurd h2 ((A.no t).1 d)
        | ic k j => exact absurd h2 ((A.no t).2 k j)
      obtain ⟨h1, _, _, h4⟩ := rest hn hO (.inr ⟨n, rfl⟩)
      exact ⟨h4, o, h1.trans ho, rc.mono kn⟩
  · show m'.n = s2.g.length
    rw [g1]; exact x'.cnt
  · have e' : g'[k]? = some I := by rw [g1] at e; exact e
    have y := x'.ins k I e'
    have own2 : ∀ {a w}, m'.O a = some w → (∀ i, w ≠ .slot i) → (∀ n, w ≠ .pc n) → m2O m m' adr og a = some w := fun {a w} h h1 h2 => by
      unfold m2O
      rw [h]
      cases w with
      | slot i => exact absurd rfl (h1 i)
      | pc n => exact absurd rfl (h2 n)
      | _ => rfl
    refine InstOk.mono (m := m') (m' := m2 m m' adr og) ⟨fun _ _ h => h, Nat.le_refl _, fun _ _ => rfl⟩ rfl rfl rfl (fun _ _ => rfl) ?_ ?_ (fun j hj => ?_) rfl rfl (fun _ _ => rfl) y
    · exact own2 y.1 (fun _ z => nomatch z) (fun _ z => nomatch z)
    · exact own2 y.2.1 (fun _ z => nomatch z) (fun _ z => nomatch z)
    · obtain ⟨_, _, _, _, n, cs⟩ := y
      have hj' : j < I.cells.length := by rw [← n]; exact hj
      exact own2 (cs j _ (List.getElem?_eq_getElem hj')).1 (fun _ z => nomatch z) (fun _ z => nomatch z)
theorem m2_res {cs' : List C} {g' : List Inst} {H' : Hp} {s2 : FS} {v : V} {r r' : R} (A : AI K m σ H s og cs adr) (x : Rel K m σ H s) (l : (mf m adr H).le m') (x' : Rel K m' [] H' ⟨[], cs', g'⟩) (eb : backW og cs' { s with g := g' } = some s2)
    (p : RepR K m' [] H' v r) (e : resR og cs' r = some r') : RepR K (m2 m m' adr og) σ H' v r' := by
  have lL : m'.L = mfL m adr H := l.L
  have lal : m'.al = fun t => adr.getD t 0 := l.al
  obtain ⟨g1, g2, g3, g4, g5⟩ := backW_ok eb A.no
  cases r with
  | val d => cases e; exact p
  | tmp c =>
    cases e
    obtain ⟨a, ev, h1, h2, h3, o, ho, rc⟩ := p
    rw [lL] at h3
    have hn : a ∉ adr := fun hm => by
      obtain ⟨t, q, k1, k2, _⟩ := A.cell hm
      obtain ⟨c', k3⟩ := g5 t q k2
      have := (x'.cells t c' k3).1
      rw [lal] at this
      have ea : adr.getD t 0 = a := by rw [List.getD_eq_getElem?_getD, k1]; rfl
      simp only [ea] at this
      rw [h1] at this; cases this
    unfold mfL at h3
    rw [if_neg hn] at h3
    refine ⟨a, ev, ?_, h2, ?_, o, ho, rc⟩
    · show m2O m m' adr og a = none
      unfold m2O
      rw [h1, if_neg hn]
      cases q : m.O a with
      | none => rfl
      | some w =>
        rw [q] at h3
        cases w with
        | slot i => exact absurd h3 (x.oh a _ q)
        | pc n => exact absurd h3 (x.oh a _ q)
        | _ => rfl
    · show m.L a = none
      split at h3
      · rename_i hO; exact x.ol a _ hO
      · rename_i hO; exact x.ol a _ hO
      · exact h3
  | ic k j => cases e; exact p
  | var i => cases e
  | pc t =>
    have p' : v = .ref (m'.al t) := p
    rw [lal] at p'
    simp only [resR] at e
    cases q : og[t]? with
    | none => rw [q] at e; cases e
    | some q' =>
      rw [q] at e
      have hl : t < adr.length := by rw [← A.l1]; exact get_lt q
      have hg := List.getElem?_eq_getElem hl
      have ea : adr.getD t 0 = adr[t] := by rw [List.getD_eq_getElem?_getD, hg]; rfl
      simp only [ea] at p'
      cases q' with
      | tmp c =>
        simp only [] at e
        cases q2 : cs'[t]? with
        | none => rw [q2] at e; cases e
        | some c' =>
          rw [q2] at e
          cases e
          obtain ⟨k1, k2, k3⟩ := A.tm t c _ q hg
          have hc := x'.cells t c' q2
          rw [lal] at hc
          simp only [ea] at hc
          obtain ⟨hO, o, ho, rc⟩ := hc
          refine ⟨_, p', ?_, x'.op _ _ hO, k3, o, ho, rc⟩
          show m2O m m' adr og adr[t] = none
          unfold m2O
          rw [hO]
          simp only []
          rw [if_pos hg, q]
      | var i => cases e; rw [p']; exact (A.vr t i _ q hg).1
      | pc n => cases e; rw [p']; show V.ref _ = V.ref (m.al n); rw [← (A.pc t n _ q hg).1]
      | val d => exact absurd q ((A.no t).1 d)
      | ic k j => exact absurd q ((A.no t).2 k j)
end
end VL

set_option maxRecDepth 100000
set_option maxHeartbeats 4000000
namespace VL
open PySem PySem.Spec L2
open PyProof.Rows hiding St

section
variable {K : PySem.W.Frag} {W : WX} {m m' : Mp} {σ : St} {H : Hp} {s : FS}
theorem AI_nil : AI K m σ H s [] [] [] := ⟨rfl, rfl, .nil, fun t c a h => by simp at h, fun t i a h => by simp at h, fun t i a h => by simp at h, fun t i a h => by simp at h, fun t => ⟨fun d h => by simp at h, fun k j h => by simp at h⟩⟩
/-- THE CALL: what is known of the callee's d is enough for its promise -/
theorem callR_ok {d : Den} {vs : List V} {rs : List R} {Q : VK} (x : Rel K m σ H s) (p : RepRs K σ H m vs rs) (q : Post K W m σ (callR d rs s) (RpE K σ) Q) : spOf K d vs H Q (WE W σ) := by
  unfold callR at q
  cases e : canon s rs [] [] with
  | none => rw [e] at q; exact q.elim
  | some z =>
    obtain ⟨as, og, cs⟩ := z
    rw [e] at q
    simp only [] at q
    obtain ⟨adr, A, _, ra⟩ := canon_ok x AI_nil rfl rfl rfl rfl rfl rfl rfl (fun _ _ h => h) (fun a h => by simp at h) p e
    refine ⟨mf m adr H, as, cs, s.g, mf_rel A x, RepAs_of A ra, ?_⟩
    cases ed : d as cs s.g with
    | stuck => rw [ed] at q; exact q.elim
    | ok r cs' g' =>
      rw [ed] at q
      simp only [] at q
      cases eb : backW og cs' { s with g := g' } with
      | none => rw [eb] at q; exact q.elim
      | some s2 =>
        rw [eb] at q
        simp only [] at q
        cases er : resR og cs' r with
        | none => rw [er] at q; exact q.elim
        | some r' =>
          rw [er] at q
          exact fun v H' m' l x' p' => q v H' (m2 m m' adr og) (m2_le l) (m2_rel A x l x' eb) (m2_res A x l x' eb p' er)
    | exc ex cs' g' =>
      rw [ed] at q
      simp only [] at q
      cases eb : backW og cs' { s with g := g' } with
      | none => rw [eb] at q; exact q.elim
      | some s2 =>
        rw [eb] at q
        exact fun c d H' m' l x' p' => q c d H' (m2 m m' adr og) (m2_le l) (m2_rel A x l x' eb) (RepX.mono (m := m') (m' := m2 m m' adr og) ⟨fun _ _ h => h, Nat.le_refl _, fun _ _ => rfl⟩ p')
end
section
variable {X : Cx} {W : WX} {pos : Pos}
/-- f(e, ..), f a def that does d -/
theorem se_call {k : Nat} {f : Addr} {fd : FuncData} {ps : List Str} {d : Den} {x : Str} {p : Pos} {e : Expr} {es : List Expr} {fa : M (List R)} (F : FnOk X.prog X.w X.K X.mg X.base (L2.CX X.prog X.w) k f fd ps (spOf X.K d)) (hr : Room k X.A) (hg : Gl X x) (hm : X.mg x = some (.ref f)) (hk : PySem.W.keepIn X.K (.ref f) = true)
    (hb : Binds X.K fd ps []) (tk : Takes X W) (ha : PA X (e :: es) (toA X.K W fa)) (hdb : (x == ("__debug__" : Str)) = false := by decide) (he : starEach (e :: es) X.env = (false, eval e X.env) :: starEach es X.env := by rfl) (hpl : (backTo pos (starEach es X.env)).any (·.1) = false := by rfl) :
    PE X (.Call (.Name x p) (e :: es) [] pos) (toE X.K W (eCall d fa)) :=
  PE_imp (pe_callSD F hr hg hm hk hb .nil (fun σ => passAt tk σ) ha hdb he hpl) fun σ H Q h => by
    show toA X.K W fa σ H fun vs H1 => spOf X.K d (vs ++ []) H1 Q (WE W σ)
    refine many h fun m s H vs rs x p q => ?_
    rw [List.append_nil]
    exact callR_ok x p q
end

/-! ### a def -/
def argS : R → S
  | .val d => .val d
  | .pc n => .pc n
  | .ic k j => .ic k j
  | _ => .no
def fin : SRes → DRes
  | .next s => .ok (.val .non) s.pcs s.g
  | .ret r s => match r with
    | .val d => .ok (.val d) s.pcs s.g
    | .tmp c => .ok (.tmp c) s.pcs s.g
    | .pc n => .ok (.pc n) s.pcs s.g
    | .ic k j => .ok (.ic k j) s.pcs s.g
    | .var i => match cont s (.var i) with
      | some c => .ok (.tmp c) s.pcs s.g
      | none => .stuck
  | .exc e s => .exc e s.pcs s.g
  | _ => .stuck
/-- a def of n parameters and l further names, with this body -/
def mkDen (n l : Nat) (body : SM) : Den := fun as cs g => if as.length = n then fin (body ⟨as.map argS ++ List.replicate l .no, cs, g⟩) else .stuck
section
variable {K : PySem.W.Frag} {m m' : Mp} {σ : St} {H : Hp} {s : FS}
def noSlot (m : Mp) : Mp := { m with O := fun a => match m.O a with
  | some (.slot _) => none
  | w => w }
/-- the frame is gone -/
theorem Rel.drop (x : Rel K m σ H s) : Rel K (noSlot m) [] H ⟨[], s.pcs, s.g⟩ := by
  have hO : ∀ {a w}, (noSlot m).O a = some w → m.O a = some w := fun {a w} h => by
    have h' : (match m.O a with | some (.slot _) => none | w => w) = some w := h
    cases q : m.O a with
    | none => rw [q] at h'; cases h'
    | some w' =>
      rw [q] at h'
      cases w' <;> first
        | (cases h'; rfl)
        | cases h'
  have hO2 : ∀ {a w}, m.O a = some w → (∀ i, w ≠ .slot i) → (noSlot m).O a = some w := fun {a w} h n => by
    show (match m.O a with | some (.slot _) => none | w => w) = some w
    rw [h]
    cases w <;> first
      | rfl
      | exact absurd rfl (n _)
  refine ⟨x.pers, x.lock, fun a w h => x.oh a w (hO h), fun a w h => x.op a w (hO h), fun a w h => x.ol a w (hO h), x.lp, rfl, fun i z e => by simp at e, fun n c e => ?_, x.cnt, fun k I e => ?_⟩
  · obtain ⟨h1, h2⟩ := x.cells n c e
    exact ⟨hO2 h1 (fun _ z => nomatch z), h2⟩
  · have y := x.ins k I e
    refine InstOk.mono (m := m) (m' := noSlot m) ⟨fun _ _ h => h, Nat.le_refl _, fun _ _ => rfl⟩ rfl rfl rfl (fun _ _ => rfl) (hO2 y.1 fun _ z => nomatch z) (hO2 y.2.1 fun _ z => nomatch z) (fun j hj => ?_) rfl rfl (fun _ _ => rfl) y
    obtain ⟨_, _, _, _, n, cs⟩ := y
    have hj' : j < I.cells.length := by rw [← n]; exact hj
    exact hO2 (cs j _ (List.getElem?_eq_getElem hj')).1 fun _ z => nomatch z
theorem noSlot_le (l : m.le m') : m.le (noSlot m') := ⟨l.P, l.L, l.al, l.n, l.io, l.nc, l.ic, l.lks⟩
theorem argS_plain (as : List R) (l i : Nat) (z : S) (h : (as.map argS ++ List.replicate l S.no)[i]? = some z) : plainS z = true := by
  have hm := List.mem_of_getElem? h
  rcases List.mem_append.mp hm with hm | hm
  · obtain ⟨a, _, rfl⟩ := List.mem_map.mp hm
    cases a <;> rfl
  · obtain ⟨_, rfl⟩ := List.mem_replicate.mp hm
    rfl
/-- into the frame -/
theorem Rel.enter {vs : List V} {as : List R} {cs : List C} {g : List Inst} (x : Rel K m [] H ⟨[], cs, g⟩) (p : RepAs K m vs as) (l : Nat) : Rel K m (vs.map some ++ List.replicate l none) H ⟨as.map argS ++ List.replicate l .no, cs, g⟩ := by
  refine ⟨x.pers, x.lock, x.oh, x.op, x.ol, x.lp, by simp [p.length], fun i z e => ?_, x.cells, x.cnt, x.ins⟩
  have key : ∀ {vs : List V} {as : List R} {i : Nat} {z : S}, RepAs K m vs as → (as.map argS ++ List.replicate l S.no)[i]? = some z → SlotOk K m (vs.map some ++ List.replicate l none) H i z := by
    intro vs
    induction vs with
    | nil =>
      intro as i z p e
      cases as with
      | cons a as => exact p.elim
      | nil =>
        have e' : (List.replicate l S.no)[i]? = some z := by simpa using e
        rw [List.getElem?_replicate] at e'
        split at e'
        · cases e'; trivial
        · cases e'
    | cons v vs ih =>
      intro as i z p e
      cases as with
      | nil => exact p.elim
      | cons a as =>
        cases i with
        | zero =>
          have e' : argS a = z := by simpa using e
          subst e'
          have p1 := p.1
          cases a with
          | val d => exact ⟨v, by simp, p1⟩
          | pc n => show ((v :: vs).map some ++ List.replicate l none)[0]? = _; have p1' : v = .ref (m.al n) := p1; rw [p1']; rfl
          | ic k j => exact ⟨by rw [p1.1]; rfl, p1.2⟩
          | _ => exact p1.elim
        | succ i =>
          have e' : (as.map argS ++ List.replicate l S.no)[i]? = some z := by simpa using e
          have y := ih p.2 e'
          have es : ((v :: vs).map some ++ List.replicate l (none : Option V))[i + 1]? = (vs.map some ++ List.replicate l none)[i]? := by simp
          cases z with
          | no => trivial
          | val d => obtain ⟨w, f1, f2⟩ := y; exact ⟨w, es.trans f1, f2⟩
          | own c => cases argS_plain as l i _ e'
          | lck c => cases argS_plain as l i _ e'
          | pc n => exact es.trans y
          | ic k j => exact ⟨es.trans y.1, y.2⟩
  exact key p e
theorem post_fin {y : SRes} {Q : VK} {E : XK} (h : PostD K m (fin y) Q E) : PostS K (fun c d _ H => E c d H) m y { nx := fun _ H' => Q .non H', rt := Q } := by
  cases y with
  | stuck => exact h
  | next s1 => exact fun σ' H' m' l x => h .non H' (noSlot m') (noSlot_le l) x.drop .non
  | brk s1 => exact h.elim
  | cont s1 => exact h.elim
  | exc e s1 => exact fun c d σ' H' m' l x r => h c d H' (noSlot m') (noSlot_le l) x.drop (RepX.mono (m := m') (m' := noSlot m') ⟨fun _ _ h => h, Nat.le_refl _, fun _ _ => rfl⟩ r)
  | ret r s1 =>
    intro v σ' H' m' l x p
    cases r with
    | val d => exact h v H' (noSlot m') (noSlot_le l) x.drop p
    | tmp c =>
      obtain ⟨a, ev, h1, h2, h3, o, ho, rc⟩ := p
      refine h v H' (noSlot m') (noSlot_le l) x.drop ⟨a, ev, ?_, h2, h3, o, ho, rc⟩
      show (match m'.O a with | some (.slot _) => none | w => w) = none
      rw [h1]
    | pc n => exact h v H' (noSlot m') (noSlot_le l) x.drop p
    | ic k j => exact h v H' (noSlot m') (noSlot_le l) x.drop p
    | var i =>
      simp only [fin] at h
      cases e : cont s1 (.var i) with
      | none => rw [e] at h; exact h.elim
      | some c =>
        rw [e] at h
        obtain ⟨a, ev, hO, o, ho, rc⟩ := own_of x (show σ'[i]? = some (some v) from p) e
        refine h v H' (noSlot m') (noSlot_le l) x.drop ⟨a, ev, ?_, x.op a _ hO, x.ol a _ hO, o, ho, rc⟩
        show (match m'.O a with | some (.slot _) => none | w => w) = none
        rw [hO]
end
section
variable {P : Program} {w : World} {K : PySem.W.Frag} {mg : Str → Option Value} {base : Heap}
/-- THE RULE for a def: its body does b -/
theorem fn_rule {x qual : Str} {params : Arguments} {body : List Stmt} {scope : Scope} {dvs : List V} {kws : List (Str × V)} {f : Addr} {fd : FuncData} {N ps : List Str} {k n l : Nat} {b : SM} (F : FunD K x qual params body scope dvs kws f fd) (S : FnScope N ps scope) (hn : ps.length = n) (hl : N.length = n + l)
    (hb : ∀ (cdv : Value) (A : Around) (outer : List Env) (s : Shared) (H : Hp) (E : XK), Room k (A.deeper (envOfC qual scope s.heap.objs.size f cdv)) → Takes (cxOf (L2.CX P w) P w K mg base N qual scope f cdv A outer s H E) (fun c d _ H => E c d H) →
      PassesOwn (model P w) (cxOf (L2.CX P w) P w K mg base N qual scope f cdv A outer s H E).A (cxOf (L2.CX P w) P w K mg base N qual scope f cdv A outer s H E).env (cxOf (L2.CX P w) P w K mg base N qual scope f cdv A outer s H E).xe →
      PSs (cxOf (L2.CX P w) P w K mg base N qual scope f cdv A outer s H E) body (toS K (fun c d _ H => E c d H) b)) :
    FnOk P w K mg base (L2.CX P w) (k + 1) f fd ps (spOf K (mkDen n l b)) := by
  refine F.ok S (fun vs H Q E h => ?_) (fun cdv A outer s H vs Q E hr h => ?_)
  · obtain ⟨m, as, cs, g, x, ra, q⟩ := h
    unfold mkDen at q
    split at q
    · rename_i e; rw [ra.length, e, hn]
    · exact q.elim
  · refine ⟨toS K (fun c d _ H => E c d H) b, hb cdv A outer s H E hr (takes_of rfl rfl rfl rfl) (passes_of rfl), ?_⟩
    obtain ⟨m, as, cs, g, x, ra, q⟩ := h
    unfold mkDen at q
    split at q
    · rename_i e
      refine ⟨m, _, ?_, post_fin q⟩
      have es : L2.start N vs = vs.map some ++ List.replicate l none := by
        unfold L2.start
        rw [hl, ra.length, e, Nat.add_sub_cancel_left]
      rw [es]
      exact x.enter ra l
    · exact q.elim
end
end VL

set_option maxRecDepth 100000
set_option maxHeartbeats 4000000
namespace VL
open PySem PySem.Spec L2
open PyProof.Rows hiding St

/-! ### displays -/
def eLst (f : M (List R)) : M R := fun s => (f s).bind fun rs s1 => match frzAll rs s1 with
  | some (ds, s2) => if ds.length ≤ sizeLine then .ok (.tmp (.lst ds)) s2 else .stuck
  | none => .stuck
def eTup (f : M (List R)) : M R := fun s => (f s).bind fun rs s1 => match frzAll rs s1 with
  | some (ds, s2) => if ds.length ≤ sizeLine then .ok (.val (.tup ds)) s2 else .stuck
  | none => .stuck
section
variable {X : Cx} {W : WX} {pos : Pos} {es : List Expr} {f : M (List R)}
theorem se_lst (h : PA X es (toA X.K W f)) : PE X (.List es pos) (toE X.K W (eLst f)) :=
  PE_imp (pe_lst h) fun σ H Q h => many h fun m s H vs rs x p q => by
    cases e : frzAll rs s with
    | none => rw [e] at q; exact q.elim
    | some z =>
      obtain ⟨ds, s2⟩ := z
      rw [e] at q
      simp only [] at q
      split at q
      · rename_i hl
        obtain ⟨m', l, x', r⟩ := frzAll_ok x p e
        exact ⟨by rw [r.length]; exact hl, fun a n => post_tmp x' (Post_mono l q) n ⟨vs, rfl, r⟩⟩
      · exact q.elim
theorem se_tup {x1} (h : PA X es (toA X.K W f)) : PE X (.Tuple es x1 pos) (toE X.K W (eTup f)) :=
  PE_imp (pe_tup h) fun σ H Q h => many h fun m s H vs rs x p q => by
    cases e : frzAll rs s with
    | none => rw [e] at q; exact q.elim
    | some z =>
      obtain ⟨ds, s2⟩ := z
      rw [e] at q
      simp only [] at q
      split at q
      · rename_i hl
        obtain ⟨m', l, x', r⟩ := frzAll_ok x p e
        exact ⟨by rw [r.length]; exact hl, fun a n => post_new x' (Post_mono l q) n fun m2 k hp => .tup hp (RepDs.mono k.P k.n k.io r)⟩
      · exact q.elim
theorem se_dict0 : PE X (.Dict [] [] pos) (toE X.K W fun s => .ok (.tmp (.dct [])) s) :=
  PE_imp pe_dnewK fun σ H Q ⟨m, s, x, q⟩ p n => post_tmp x q n ⟨[], rfl, .nil⟩
end

/-! ### subscripts -/
def kIx : R → R → M R := fun a b s => match dctK s a with
  | some kvs => match asK b with
    | some k => match dval kvs k with
      | some d => .ok (.val d) s
      | none => .stuck
    | none => .stuck
  | none => match asI b with
    | none => .stuck
    | some i => match seqL s a with
      | some xs => match atI xs i with
        | some d => .ok (.val d) s
        | none => .stuck
      | none => match seqT a with
        | some xs => match atI xs i with
          | some d => .ok (.val d) s
          | none => .stuck
        | none => match asS a with
          | some z => if z.length ≤ sizeLine then (match atI z.cps.toList i with
            | some c => .ok (.val (.str ⟨#[c]⟩)) s
            | none => .stuck) else .stuck
          | none => .stuck
/-- a dict's item that is there -/
def rIxK : R2 := fun x y H Q => ∃ a kvs k v, x = .ref a ∧ H a = some (.dK kvs) ∧ y = kV k ∧ valV kvs k = some v ∧ Q v H
theorem ix_dict {X : Cx} : IxR X rIxK := by
  intro value slice pins s σ H x y v u Q I rx ry h hs
  obtain ⟨a, kvs, k, z, rfl, ha, rfl, hz, q⟩ := h
  cases rx
  obtain ⟨zz, hd, vs, rel, dd⟩ := dk_rd I.hok (.inl ha)
  obtain ⟨w', hw, rw'⟩ := RelO.some_of (v := z) (o := valueAt vs k) (by rw [← hz]; exact rel.val k)
  exact subscriptTail_builtinR (x := w') dd.typeIs PySem.F.slot_dict_getitem.lookup (wpAny_getItem_of (kV_is ry) dd.mapOf hw ⟨rfl, z, H, I.tok _, rw', q⟩) hs
def rIxA (K : PySem.W.Frag) : R2 := fun x y H Q => rIxK x y H Q ∨ rIx K x y H Q
theorem ix_any {X : Cx} : IxR X (rIxA X.K) := ix_dict.or ix_seq
theorem RepDs.atI {K : PySem.W.Frag} {P : Hp} {io : Nat → Addr} {n : Nat} {vs : List V} {ds : List D} {i : Int} {d : D} (r : RepDs K P io n vs ds) (e : L2.atI ds i = some d) : ∃ v, L2.atI vs i = some v ∧ RepD K P io n v d := by
  unfold L2.atI at e ⊢
  rw [r.length]
  cases q : ixN ds.length i with
  | none => rw [q] at e; cases e
  | some j =>
    rw [q] at e
    exact r.get e
theorem o2_ix {K : PySem.W.Frag} : Op2 K (rIxA K) kIx := by
  intro W σ m s H v1 v2 r1 r2 Q x ps q
  unfold kIx at q
  have p2 := ps.2.1
  cases e0 : dctK s r1 with
  | some kvs =>
    rw [e0] at q
    simp only [] at q
    obtain ⟨a, vs, rfl, ha, ra⟩ := dctK_ok x ps.1 e0
    cases e1 : asK r2 with
    | none => rw [e1] at q; exact q.elim
    | some k =>
      rw [e1] at q
      simp only [] at q
      rcases ra.val (k := k) with ⟨h1, _⟩ | ⟨d, v, h1, h2, h3⟩
      · rw [h1] at q; exact q.elim
      · rw [h1] at q
        exact .inl ⟨a, vs, k, v, rfl, ha, asK_ok p2 e1, h2, post_val x q h3⟩
  | none =>
    rw [e0] at q
    simp only [] at q
    cases e1 : asI r2 with
    | none => rw [e1] at q; exact q.elim
    | some i =>
      rw [e1] at q
      simp only [] at q
      have ei := asI_ok p2 e1
      cases e2 : seqL s r1 with
      | some xs =>
        rw [e2] at q
        simp only [] at q
        obtain ⟨a, vs, rfl, ha, ra⟩ := seqL_ok x ps.1 e2
        cases e3 : atI xs i with
        | none => rw [e3] at q; exact q.elim
        | some d =>
          rw [e3] at q
          obtain ⟨v, hv, rv⟩ := ra.atI e3
          exact .inr (.inl ⟨a, vs, i, v, rfl, ei, SqL.of ha, hv, post_val x q rv⟩)
      | none =>
        rw [e2] at q
        simp only [] at q
        cases e3 : seqT r1 with
        | some xs =>
          rw [e3] at q
          simp only [] at q
          obtain ⟨a, vs, rfl, ha, ra⟩ := seqT_ok x ps.1 e3
          cases e4 : atI xs i with
          | none => rw [e4] at q; exact q.elim
          | some d =>
            rw [e4] at q
            obtain ⟨v, hv, rv⟩ := ra.atI e4
            exact .inr (.inr (.inl ⟨a, vs, i, v, rfl, ei, SqT.of ha, hv, post_val x q rv⟩))
        | none =>
          rw [e3] at q
          simp only [] at q
          cases e4 : asS r1 with
          | none => rw [e4] at q; exact q.elim
          | some z =>
            rw [e4] at q
            simp only [] at q
            split at q
            · rename_i hl
              cases e5 : atI z.cps.toList i with
              | none => rw [e5] at q; exact q.elim
              | some c =>
                rw [e5] at q
                exact .inr (.inr (.inr ⟨z, i, c, asS_ok ps.1 e4, ei, hl, e5, post_val x q .str⟩))
            · exact q.elim

/-! ### o[i] = v -/
def setItem (o i : R) (d : D) (s : FS) : Option FS := match dctK s o with
  | some kvs => match asK i with
    | some k => if kvs.length < sizeLine then put s o (.dct (dput kvs k d)) else none
    | none => none
  | none => match seqL s o, asI i with
    | some xs, some k => match ixN xs.length k with
      | some j => put s o (.lst (xs.set j d))
      | none => none
    | _, _ => none
def rSetK : TSet := fun o i v H Q => ∃ a kvs k, o = .ref a ∧ i = kV k ∧ H a = some (.dK kvs) ∧ kvs.length < sizeLine ∧ Q (upd H a (.dK (putK kvs k v)))
theorem set_dict {X : Cx} (hu : X.A.units + 1 < cLine) : PSet X rSetK := by
  intro pins s σ H o i v ov iv u Q I ro ri rv h
  obtain ⟨a, kvs, k, rfl, rfl, ha, hl, q⟩ := h
  cases ro
  exact d_setItem hu I (DPut.k ha hl) ri rv fun s' I' => ⟨_, I', q⟩
def rSetA : TSet := fun o i v H Q => rSetK o i v H Q ∨ rSetL o i v H Q
theorem set_any {X : Cx} (hu : X.A.units + 1 < cLine) : PSet X rSetA := by
  intro pins s σ H o i v ov iv u Q I ro ri rv h
  rcases h with h | h
  · exact set_dict hu pins s σ H o i v ov iv u Q I ro ri rv h
  · exact set_list pins s σ H o i v ov iv u Q I ro ri rv h
def sSetIt (fo fi fv : M R) : SM := fun s => (eCons fv (eCons fo (eCons fi eNil)) s).bindS fun rs s1 => match rs with
  | [v, o, i] => match frzR v s1 with
    | some (d, s2) => match setItem o i d s2 with
      | some s3 => .next s3
      | none => .stuck
    | none => .stuck
  | _ => .stuck
theorem setItem_ok {K : PySem.W.Frag} {m : Mp} {σ : St} {H : Hp} {s s' : FS} {v1 v2 v : V} {o i : R} {d : D} {Q : Hp → Prop} (x : Rel K m σ H s) (po : RepR K m σ H v1 o) (pi : RepR K m σ H v2 i) (r : RD K m v d) (e : setItem o i d s = some s')
    (q : ∀ H', Rel K m σ H' s' → Q H') : rSetA v1 v2 v H Q := by
  unfold setItem at e
  cases e0 : dctK s o with
  | some kvs =>
    rw [e0] at e
    simp only [] at e
    obtain ⟨a, vs, rfl, ha, ra⟩ := dctK_ok x po e0
    cases e1 : asK i with
    | none => rw [e1] at e; cases e
    | some k =>
      rw [e1] at e
      simp only [] at e
      split at e
      · rename_i hl
        have ec : cont s o = some (.dct kvs) := by
          unfold dctK at e0
          split at e0
          · cases e0; assumption
          · cases e0
        obtain ⟨a', ea, x'⟩ := Rel.put (o := .dK (putK vs k v)) x po ec e ⟨_, rfl, ra.put r⟩
        cases ea
        exact .inl ⟨a, vs, k, rfl, asK_ok pi e1, ha, by rw [ra.length]; exact hl, q _ x'⟩
      · cases e
  | none =>
    rw [e0] at e
    simp only [] at e
    cases e1 : seqL s o with
    | none => rw [e1] at e; cases e
    | some xs =>
      cases e2 : asI i with
      | none => rw [e1, e2] at e; cases e
      | some k =>
        rw [e1, e2] at e
        simp only [] at e
        cases e3 : ixN xs.length k with
        | none => rw [e3] at e; cases e
        | some j =>
          rw [e3] at e
          simp only [] at e
          obtain ⟨a, vs, rfl, ha, ra⟩ := seqL_ok x po e1
          have ec : cont s o = some (.lst xs) := by
            unfold seqL at e1
            split at e1
            · cases e1; assumption
            · cases e1
          obtain ⟨a', ea, x'⟩ := Rel.put (o := .lst (vs.set j v)) x po ec e ⟨_, rfl, RepDs.set r j ra⟩
          cases ea
          exact .inr ⟨a, vs, k, j, rfl, asI_ok pi e2, ha, by rw [ra.length]; exact e3, q _ x'⟩
section
variable {X : Cx} {W : WX} {pos pos' : Pos} {o i value : Expr} {fo fi fv : M R}
theorem toA3 {K : PySem.W.Frag} {W : WX} {f g h : M R} {σ : St} {H : Hp} {Q : V → V → V → Hp → Prop} (z : toA K W (eCons f (eCons g (eCons h eNil))) σ H fun vs H => ∀ a b c, vs = [a, b, c] → Q a b c H) :
    toE K W f σ H fun a H1 => toE K W g σ H1 fun b H2 => toE K W h σ H2 fun c H3 => Q a b c H3 := by
  have z1 := toA_cons z
  have up : ∀ {f : M R} {σ H} {R1 R2 : V → Hp → Prop}, (∀ v H, R1 v H → R2 v H) → toE K W f σ H R1 → toE K W f σ H R2 := fun {f σ H R1 R2} i ⟨m, s, x, p⟩ => ⟨m, s, x, by
    cases e : f s with
    | stuck => rw [e] at p; exact p
    | ok r s1 => rw [e] at p; exact fun v H' m' l x r => i _ _ (p v H' m' l x r)
    | exc ex s1 => rw [e] at p; exact p⟩
  refine up (fun a H1 q1 => ?_) z1
  have z2 := toA_cons q1
  refine up (fun b H2 q2 => ?_) z2
  have z3 := toA_cons q2
  refine up (fun c H3 q3 => ?_) z3
  exact toA_nil q3 a b c rfl
theorem ss_setitem (hu : X.A.units + 1 < cLine) (ho : PE X o (toE X.K W fo)) (hi : PE X i (toE X.K W fi)) (hv : PE X value (toE X.K W fv)) (hs : swapsWithSole [.Subscript o i pos'] value pos.line X.env = pure false := by rfl) (hw : swappedStores [.Subscript o i pos'] value X.env = pure none := by rfl)
    (hA : ∀ v, assign (.Subscript o i pos') X.env v = (do
      let ov ← holding [v] (eval o X.env)
      let iv ← holding [v, ov] (eval i X.env)
      standAt pos'
      holding [v, ov, iv] (PySem.setItem ov iv v)
      release [v, ov, iv] []) := by intro _; rfl) :
    PS X (.Assign [.Subscript o i pos'] value pos) (toS X.K W (sSetIt fo fi fv)) :=
  PS_imp (ps_asg hv (pg_sub ho hi (set_any hu) hA) hs hw) fun D σ H h => by
    show toE X.K W fv σ H fun v H1 => toE X.K W fo σ H1 fun o H2 => toE X.K W fi σ H2 fun i H3 => rSetA o i v H3 fun H4 => D.nx σ H4
    refine toA3 (Q := fun v o i H3 => rSetA o i v H3 fun H4 => D.nx σ H4) (manyS h fun m s H vs rs x p q => ?_)
    intro a b c e
    subst e
    match rs, p, q with
    | [rv, ro, ri], p, q =>
      simp only [] at q
      cases e1 : frzR rv s with
      | none => rw [e1] at q; exact q.elim
      | some z =>
        obtain ⟨d, s2⟩ := z
        rw [e1] at q
        simp only [] at q
        cases e2 : setItem ro ri d s2 with
        | none => rw [e2] at q; exact q.elim
        | some s3 =>
          rw [e2] at q
          obtain ⟨m1, l1, x1, r1, sm⟩ := p.1.frz x e1
          have ps := RepRs.sim sm p.2
          have p3 : RepR X.K m1 σ H c ri := by
            have z := ps.2.1
            have ll : ∀ {r : R} {v : V}, RepR X.K (lk m1 b ro H) σ H v r → RepR X.K m1 σ H v r := fun {r v} z => by
              cases r with
              | val d => exact RepD.mono (fun a o h => by rw [lk_P] at h; exact h) (Nat.le_of_eq lk_n) (fun k _ => by rw [lk_io]) z
              | tmp cc =>
                obtain ⟨a', e1, h1, h2, h3, o', h4, h5⟩ := z
                rw [lk_O] at h1
                rw [lk_P] at h2
                refine ⟨a', e1, h1, h2, ?_, o', h4, RepC.mono (m := lk m1 b ro H) (m' := m1) ⟨fun a o h => by rw [lk_P] at h; exact h, Nat.le_of_eq lk_n, fun k _ => by rw [lk_io]⟩ h5⟩
                cases ro with
                | tmp c3 =>
                  obtain ⟨b', e2, _⟩ := ps.1
                  subst e2
                  have h3' : (if a' = b' then H b' else m1.L a') = none := h3
                  by_cases hab : a' = b'
                  · rw [if_pos hab, ← hab, h4] at h3'; cases h3'
                  · rw [if_neg hab] at h3'; exact h3'
                | _ => cases b <;> exact h3
              | var i => exact z
              | pc n => show _ = V.ref (m1.al n); have z' : v = V.ref ((lk m1 b ro H).al n) := z; rw [lk_al] at z'; exact z'
              | ic k j => obtain ⟨z1, z2, z3⟩ := z; rw [lk_ic] at z1; rw [lk_n] at z2; rw [lk_nc] at z3; exact ⟨z1, z2, z3⟩
            exact ll z
          exact setItem_ok x1 ps.1 p3 r1 e2 fun H' x' => q σ H' m1 l1 x'
    | [], p, q => exact q.elim
    | [_], p, q => exact q.elim
    | [_, _], p, q => exact q.elim
    | _ :: _ :: _ :: _ :: _, p, q => exact q.elim
end

/-! ### calls of built-ins -/
def OpN (K : PySem.W.Frag) (r : List V → Hp → VK → Prop) (k : List R → M R) : Prop := ∀ (W : WX) (σ : St) (m : Mp) (s : FS) (H : Hp) (vs : List V) (rs : List R) (Q : VK), Rel K m σ H s → RepRs K σ H m vs rs → Post K W m σ (k rs s) (RpE K σ) Q → r vs H Q
def eCB (k : List R → M R) (f : M (List R)) : M R := fun s => (f s).bind k
section
variable {X : Cx} {W : WX} {pos p : Pos} {x : Str} {e : Expr} {es : List Expr} {f : M (List R)} {id T : String} {r : List V → Hp → VK → Prop} {k : List R → M R}
theorem se_callB (hc : CallR X (.builtin id) r) (hk : OpN X.K r k) (hg : Gl X x) (hm : X.mg x = none) (hv : bootBuiltins x = some (.builtin id)) (ha : PA X (e :: es) (toA X.K W f)) (hn : x ≠ "__name__" := by decide) (hdb : (x == ("__debug__" : Str)) = false := by decide)
    (he : starEach (e :: es) X.env = (false, eval e X.env) :: starEach es X.env := by rfl) (hpl : (backTo pos (starEach es X.env)).any (·.1) = false := by rfl) : PE X (.Call (.Name x p) (e :: es) [] pos) (toE X.K W (eCB k f)) :=
  PE_imp (pe_callB hc hg hm hv ha hn hdb he hpl) fun σ H Q h => many h fun m s H vs rs x p q => hk W σ m s H vs rs Q x p q
theorem se_callTy (hc : CallR X (.type T) r) (hk : OpN X.K r k) (hg : Gl X x) (hm : X.mg x = none) (hv : bootBuiltins x = some (.type T)) (ha : PA X (e :: es) (toA X.K W f)) (hn : x ≠ "__name__" := by decide) (hdb : (x == ("__debug__" : Str)) = false := by decide)
    (he : starEach (e :: es) X.env = (false, eval e X.env) :: starEach es X.env := by rfl) (hpl : (backTo pos (starEach es X.env)).any (·.1) = false := by rfl) : PE X (.Call (.Name x p) (e :: es) [] pos) (toE X.K W (eCB k f)) :=
  PE_imp (pe_callTy hc hg hm hv ha hn hdb he hpl) fun σ H Q h => many h fun m s H vs rs x p q => hk W σ m s H vs rs Q x p q
end
/-- one operand -/
theorem opN1 {K : PySem.W.Frag} {r : List V → Hp → VK → Prop} {k : R → M R} (h : ∀ (W : WX) (σ : St) (m : Mp) (s : FS) (H : Hp) (v : V) (r1 : R) (Q : VK), Rel K m σ H s → RepR K m σ H v r1 → Post K W m σ (k r1 s) (RpE K σ) Q → r [v] H Q) :
    OpN K r fun rs s => match rs with
      | [a] => k a s
      | _ => .stuck := by
  intro W σ m s H vs rs Q x p q
  match rs, vs, p, q with
  | [a], [v], p, q => exact h W σ m s H v a Q x p.1 q
  | [], _, p, q => exact q.elim
  | _ :: _ :: _, _, p, q => exact q.elim
  | [_], [], p, q => exact p.elim
  | [_], _ :: _ :: _, p, q => exact p.2.elim
def k1 (k : R → M R) : List R → M R := fun rs s => match rs with
  | [a] => k a s
  | _ => .stuck
def k2 (k : R → R → M R) : List R → M R := fun rs s => match rs with
  | [a, b] => k a b s
  | _ => .stuck
theorem opN2 {K : PySem.W.Frag} {r : List V → Hp → VK → Prop} {k : R → R → M R} (h : Op2 K (fun x y H Q => r [x, y] H Q) k) : OpN K r (k2 k) := by
  intro W σ m s H vs rs Q x p q
  match rs, vs, p, q with
  | [a, b], [v, w], p, q => exact h W σ m s H v w a b Q x p q
  | [], _, p, q => exact q.elim
  | [_], _, p, q => exact q.elim
  | _ :: _ :: _ :: _, _, p, q => exact q.elim
  | [_, _], [], p, q => exact p.elim
  | [_, _], [_], p, q => exact p.2.elim
  | [_, _], _ :: _ :: _ :: _, p, q => exact p.2.2.elim
def kAbs : R → M R := fun a s => match asI a with
  | some i => .ok (.val (.int (if i < 0 then -i else i))) s
  | none => .stuck
def kInt : R → M R := fun a s => match asI a with
  | some i => .ok (.val (.int i)) s
  | none => match asBl a with
    | some b => .ok (.val (.int (if b then 1 else 0))) s
    | none => .stuck
def pMax : Int → Int → Option D := fun i j => some (.int (if j > i then j else i))
def pMin : Int → Int → Option D := fun i j => some (.int (if j < i then j else i))
def kLen : R → M R := fun a s => match seqL s a with
  | some xs => .ok (.val (.int xs.length)) s
  | none => match seqT a with
    | some xs => .ok (.val (.int xs.length)) s
    | none => match asS a with
      | some z => if z.length ≤ sizeLine then .ok (.val (.int z.length)) s else .stuck
      | none => match dctK s a with
        | some kvs => .ok (.val (.int kvs.length)) s
        | none => .stuck
section
variable {K : PySem.W.Frag}
theorem n_abs : OpN K (fun xs H Q => ∃ i, xs = [.int i] ∧ Q (.int (if i < 0 then -i else i)) H) (k1 kAbs) := opN1 fun W σ m s H v r Q x p q => by
  unfold kAbs at q
  cases e : asI r with
  | none => rw [e] at q; exact q.elim
  | some i => rw [e] at q; exact ⟨i, by rw [asI_ok p e], post_val x q .int⟩
theorem n_int : OpN K (fun xs H Q => (∃ i, xs = [.int i] ∧ Q (.int i) H) ∨ ∃ k, xs = [.bl k] ∧ Q (.int (if k then 1 else 0)) H) (k1 kInt) := opN1 fun W σ m s H v r Q x p q => by
  unfold kInt at q
  cases e : asI r with
  | some i => rw [e] at q; exact .inl ⟨i, by rw [asI_ok p e], post_val x q .int⟩
  | none =>
    rw [e] at q
    simp only [] at q
    cases e2 : asBl r with
    | none => rw [e2] at q; exact q.elim
    | some b => rw [e2] at q; exact .inr ⟨b, by rw [asBl_ok p e2], post_val x q .int⟩
theorem n_max2 : OpN K (fun xs H Q => ∃ i j, xs = [.int i, .int j] ∧ Q (.int (if j > i then j else i)) H) (k2 (kII pMax)) := opN2 (op2_II fun m i j d H Q e q => by cases e; exact ⟨i, j, rfl, q _ .int⟩)
theorem n_min2 : OpN K (fun xs H Q => ∃ i j, xs = [.int i, .int j] ∧ Q (.int (if j < i then j else i)) H) (k2 (kII pMin)) := opN2 (op2_II fun m i j d H Q e q => by cases e; exact ⟨i, j, rfl, q _ .int⟩)
end
/-- len of a list, a tuple, a text, a dict -/
def rLen4 (K : PySem.W.Frag) : List V → Hp → VK → Prop := fun xs H Q => (∃ x n, xs = [x] ∧ LenV K x H n ∧ Q (.int n) H) ∨ ∃ a kvs, xs = [.ref a] ∧ H a = some (.dK kvs) ∧ Q (.int kvs.length) H
theorem call_len4 {X : Cx} : CallR X (.builtin "len") (rLen4 X.K) := by
  intro pins s σ H xs us Q I r h
  rcases h with h | ⟨a, kvs, rfl, ha, q⟩
  · exact call_len pins s σ H xs us Q I r h
  · rw [Vals.ref1 r]
    exact d_len I (.inl ha) fun t s' I' => ⟨.int kvs.length, H, I', ⟨t, rfl⟩, q⟩
theorem n_len {K : PySem.W.Frag} : OpN K (rLen4 K) (k1 kLen) := opN1 fun W σ m s H v r Q x p q => by
  unfold kLen at q
  cases e : seqL s r with
  | some xs =>
    rw [e] at q
    obtain ⟨a, vs, rfl, ha, ra⟩ := seqL_ok x p e
    refine .inl ⟨_, vs.length, rfl, .inl ⟨vs, SqL.of ha, rfl⟩, ?_⟩
    rw [ra.length]; exact post_val x q .int
  | none =>
    rw [e] at q
    simp only [] at q
    cases e2 : seqT r with
    | some xs =>
      rw [e2] at q
      obtain ⟨a, vs, rfl, ha, ra⟩ := seqT_ok x p e2
      refine .inl ⟨_, vs.length, rfl, .inr ⟨vs, SqT.of ha, rfl⟩, ?_⟩
      rw [ra.length]; exact post_val x q .int
    | none =>
      rw [e2] at q
      simp only [] at q
      cases e3 : asS r with
      | some z =>
        rw [e3] at q
        simp only [] at q
        split at q
        · rename_i hl
          exact .inl ⟨_, z.length, rfl, by rw [asS_ok p e3]; exact ⟨hl, rfl⟩, post_val x q .int⟩
        · exact q.elim
      | none =>
        rw [e3] at q
        simp only [] at q
        cases e4 : dctK s r with
        | none => rw [e4] at q; exact q.elim
        | some kvs =>
          rw [e4] at q
          obtain ⟨a, vs, rfl, ha, ra⟩ := dctK_ok x p e4
          refine .inr ⟨a, vs, rfl, ha, ?_⟩
          rw [ra.length]; exact post_val x q .int

/-! ### isinstance of a built-in type -/
def tyD (s : FS) (r : R) : Option String := match r with
  | .val .non => some "NoneType"
  | .val (.bl _) => some "bool"
  | .val (.int _) => some "int"
  | .val (.str _) => some "str"
  | .val (.tup _) => some "tuple"
  | r => match cont s r with
    | some (.lst _) => some "list"
    | some (.dct _) => some "dict"
    | none => none
def isTy (a b : String) : Bool := a == b || (a == "bool" && b == "int")
def knownTy (b : String) : Bool := ["bool", "int", "str", "tuple", "list", "dict"].contains b
theorem kit_known : ∀ a ∈ ["NoneType", "bool", "int", "str", "tuple", "list", "dict"], ∀ b ∈ ["bool", "int", "str", "tuple", "list", "dict"], kitB a b = some (isTy a b) := by decide +kernel
def eIsT (T : String) (f : M R) : M R := fun s => (f s).bind fun r s1 => match tyD s1 r with
  | some a => .ok (.val (.bl (isTy a T))) s1
  | none => .stuck
theorem tyD_mem {s : FS} {r : R} {a : String} (e : tyD s r = some a) : a ∈ ["NoneType", "bool", "int", "str", "tuple", "list", "dict"] := by
  unfold tyD at e
  split at e
  · cases e; decide
  · cases e; decide
  · cases e; decide
  · cases e; decide
  · cases e; decide
  · split at e <;> first
      | (cases e; decide)
      | cases e
theorem tyD_ok {K : PySem.W.Frag} {m : Mp} {σ : St} {H : Hp} {s : FS} {v : V} {r : R} {a : String} (x : Rel K m σ H s) (p : RepR K m σ H v r) (e : tyD s r = some a) : TyX K H v (.type a) := by
  have go : ∀ {r : R}, RepR K m σ H v r → (match cont s r with | some (.lst _) => some "list" | some (.dct _) => some "dict" | none => none) = some a → TyX K H v (.type a) := fun {r} p e => by
    cases q : cont s r with
    | none => rw [q] at e; cases e
    | some c =>
      rw [q] at e
      obtain ⟨b, o, rfl, ho, rc⟩ := cont_ok x p q
      cases c with
      | lst ds => cases e; obtain ⟨vs, rfl, _⟩ := rc; exact .base (.lst ho)
      | dct ds => cases e; obtain ⟨vs, rfl, _⟩ := rc; exact .base (.dK ho)
  cases r with
  | val d =>
    cases d with
    | non => cases e; cases p; exact .base .non
    | bl b => cases e; cases p; exact .base (.bl _)
    | int i => cases e; cases p; exact .base (.int _)
    | str i => cases e; cases p; exact .base (.str _)
    | tup xs => cases e; cases p with | tup h r => exact .base (.tup (x.pers _ _ h))
    | lst xs => exact go p e
    | dct xs => exact go p e
    | ins k => exact go p e
    | frz xs => exact go p e
  | tmp c => exact go p e
  | var i => exact go p e
  | pc n => exact go p e
  | ic k j => exact go p e
section
variable {X : Cx} {W : WX} {pos p p2 : Pos} {e : Expr} {f : M R} {x : Str}
theorem se_isT {T : String} (hT : T ∈ ["bool", "int", "str", "tuple", "list", "dict"]) (hg : Gl X "isinstance") (hm : X.mg "isinstance" = none) (hgx : Gl X x) (hmx : X.mg x = none) (hvx : bootBuiltins x = some (.type T)) (ha : PE X e (toE X.K W f)) (hn : x ≠ "__name__" := by decide) (hdb : (x == ("__debug__" : Str)) = false := by decide)
    (he2 : starEach [.Name x p2] X.env = [(false, eval (.Name x p2) X.env)] := by rfl)
    (he : starEach [e, .Name x p2] X.env = (false, eval e X.env) :: starEach [.Name x p2] X.env := by rfl) (hpl : (backTo pos (starEach [.Name x p2] X.env)).any (·.1) = false := by rfl) : PE X (.Call (.Name "isinstance" p) [e, .Name x p2] [] pos) (toE X.K W (eIsT T f)) :=
  PE_imp (pe_callB call_isi hg hm (by decide +kernel) (pa_cons ha (pa_cons (pe_bltn hgx hmx hvx (v := .ty T) rfl hn hdb) pa_nil he2) he) (by decide) (by decide) he hpl) fun σ H Q h => by
    show toE X.K W f σ H fun y H1 => rIsi X.K [y, .ty T] H1 Q
    refine one h fun m s H v r x p q => ?_
    cases e1 : tyD s r with
    | none => rw [e1] at q; exact q.elim
    | some a =>
      rw [e1] at q
      exact ⟨v, .ty T, .type a, .type T, isTy a T, rfl, .ty T, tyD_ok x p e1, kit_ty (kit_known a (tyD_mem e1) T hT), post_val x q .bl⟩
end

/-! ### chains of comparisons -/
def eCh (k k' : R → R → M R) (f g h : M R) : M R := fun s => (f s).bind fun a s1 => (g s1).bind fun b s2 => (k a b s2).bind fun r s3 => (asB r s3).bind fun c s4 => if c = true then (h s4).bind fun d s5 => k' b d s5 else .ok (.val (.bl false)) s4
section
variable {X : Cx} {W : WX} {pos : Pos} {a b c : Expr} {f g h : M R}
/-- the middle operand an int -/
theorem se_chain {op op' : CmpOp} {p p' : Int → Int → Option D} {q q' : Int → Int → Bool} (hp : ∀ i j, p i j = some (.bl (q i j))) (hp' : ∀ i j, p' i j = some (.bl (q' i j))) (ho : OpR X (compareOp op) (rI0 fun i j => .bl (q i j))) (ho' : OpR X (compareOp op') (rI0 fun i j => .bl (q' i j)))
    (ha : PE X a (toE X.K W f)) (hb : PE X b (toE X.K W g)) (hc : PE X c (toE X.K W h)) (hm : lastMarks [op, op'] [b, c] = false := by with_unfolding_all rfl) : PE X (.Compare a [op, op'] [b, c] pos) (toE X.K W (eCh (kII p) (kII p') f g h)) :=
  PE_imp (pe_chain ho ho' ha hb hc hm) fun σ H Q z => by
    refine two (k := fun a b s2 => (kII p a b s2).bind fun r s3 => (asB r s3).bind fun c s4 => if c = true then (h s4).bind fun d s5 => kII p' b d s5 else .ok (.val (.bl false)) s4) z fun m s H v1 v2 r1 r2 x ps e => ?_
    unfold kII at e
    cases e1 : asI r1 with
    | none => rw [e1] at e; exact e.elim
    | some i =>
      cases e2 : asI r2 with
      | none => rw [e1, e2] at e; exact e.elim
      | some j =>
        rw [e1, e2] at e
        simp only [hp, Res.bind, asB] at e
        refine ⟨i, j, asI_ok ps.1 e1, asI_ok ps.2.1 e2, _, rfl, ?_⟩
        by_cases hq : q i j = true
        · rw [if_pos hq] at e ⊢
          have e' : Post X.K W m σ ((h s).bind fun d s5 => match asI d with
            | some k => .ok (.val (.bl (q' j k))) s5
            | none => .stuck) (RpE X.K σ) Q := by
            cases e3 : h s with
            | stuck => rw [e3] at e; exact e
            | exc ex s5 => rw [e3] at e; exact e
            | ok d s5 =>
              rw [e3] at e
              simp only [] at e
              cases e4 : asI d with
              | none => simp only [e4] at e; exact e.elim
              | some k => simp only [e4, hp'] at e; simp only [Res.bind, e4]; exact e
          refine one ⟨m, s, x, e'⟩ fun m s H v r x p e => ?_
          cases e4 : asI r with
          | none => rw [e4] at e; exact e.elim
          | some k => rw [e4] at e; exact ⟨j, k, asI_ok ps.2.1 e2, asI_ok p e4, post_val x e .bl⟩
        · rw [if_neg hq] at e ⊢
          exact post_val x e .bl
/-- .. as a test -/
theorem st_chain {op op' : CmpOp} {p p' : Int → Int → Option D} {q q' : Int → Int → Bool} (hp : ∀ i j, p i j = some (.bl (q i j))) (hp' : ∀ i j, p' i j = some (.bl (q' i j))) (ho : OpR X (compareOp op) (rI0 fun i j => .bl (q i j))) (ho' : OpR X (compareOp op') (rI0 fun i j => .bl (q' i j)))
    (ha : PE X a (toE X.K W f)) (hb : PE X b (toE X.K W g)) (hc : PE X c (toE X.K W h)) (hm : lastMarks [op, op'] [b, c] = false := by with_unfolding_all rfl) : PT X (.Compare a [op, op'] [b, c] pos) (toT X.K W (eT (eCh (kII p) (kII p') f g h))) :=
  PT_imp (pt_chain ho ho' ha hb hc hm) fun σ H Q z => by
    have z' : ∃ m s, Rel X.K m σ H s ∧ Post X.K W m σ ((f s).bind fun a s1 => (g s1).bind fun b s2 => ((kII p a b s2).bind fun r s3 => (asB r s3).bind fun c s4 => if c = true then (h s4).bind fun d s5 => kII p' b d s5 else .ok (.val (.bl false)) s4).bind asB) RpT Q := by
      obtain ⟨m, s, x, q⟩ := z
      refine ⟨m, s, x, ?_⟩
      have e : eT (eCh (kII p) (kII p') f g h) s = (f s).bind fun a s1 => (g s1).bind fun b s2 => ((kII p a b s2).bind fun r s3 => (asB r s3).bind fun c s4 => if c = true then (h s4).bind fun d s5 => kII p' b d s5 else .ok (.val (.bl false)) s4).bind asB := by
        unfold eT eCh
        cases f s with
        | stuck => rfl
        | exc e s1 => rfl
        | ok r1 s1 =>
          simp only [Res.bind]
          cases g s1 <;> rfl
      rw [e] at q; exact q
    show tChain _ _ (toE X.K W f) (toE X.K W g) (toE X.K W h) σ H fun z H3 => ∃ k, z = .bl k ∧ Q k H3
    refine two z' fun m s H v1 v2 r1 r2 x ps e => ?_
    unfold kII at e
    cases e1 : asI r1 with
    | none => rw [e1] at e; exact e.elim
    | some i =>
      cases e2 : asI r2 with
      | none => rw [e1, e2] at e; exact e.elim
      | some j =>
        rw [e1, e2] at e
        simp only [hp, Res.bind, asB] at e
        refine ⟨i, j, asI_ok ps.1 e1, asI_ok ps.2.1 e2, _, rfl, ?_⟩
        by_cases hq : q i j = true
        · rw [if_pos hq] at e ⊢
          have e' : Post X.K W m σ ((h s).bind fun d s5 => match asI d with
            | some k => .ok (q' j k) s5
            | none => .stuck) RpT Q := by
            cases e3 : h s with
            | stuck => rw [e3] at e; exact e
            | exc ex s5 => rw [e3] at e; exact e
            | ok d s5 =>
              rw [e3] at e
              simp only [] at e
              cases e4 : asI d with
              | none => simp only [e4] at e; exact e.elim
              | some k => simp only [e4, hp'] at e; simp only [Res.bind, e4]; exact e
          refine one ⟨m, s, x, e'⟩ fun m s H v r x p e => ?_
          cases e4 : asI r with
          | none => rw [e4] at e; exact e.elim
          | some k => rw [e4] at e; exact ⟨j, k, asI_ok ps.2.1 e2, asI_ok p e4, _, rfl, e _ H m (Mp.le.refl m) x rfl⟩
        · rw [if_neg hq] at e ⊢
          exact ⟨_, rfl, e false H m (Mp.le.refl m) x rfl⟩
end
end VL

set_option maxRecDepth 100000
set_option maxHeartbeats 4000000
namespace VL
open PySem PySem.Spec L2
open PyProof.Rows hiding St

/-! ### any sequence -/
theorem PI_or {X : Cx} {tg e : Expr} {w1 w2 : TI} (h1 : PI X tg e w1) (h2 : PI X tg e w2) : PI X tg e (fun σ H R => w1 σ H R ∨ w2 σ H R) :=
  ⟨fun pins s σ H R I h => h.elim (h1.run pins s σ H R I) (h2.run pins s σ H R I)⟩
/-- a list, a tuple, the script -/
def iAny (f : M R) : M Lp := fun s => match f s with
  | .ok (.val (.tup _)) _ => iT f s
  | .ok (.val (.frz _)) _ => iZ f s
  | _ => iL f s
theorem src_any {K : PySem.W.Frag} {W : WX} {f : M R} : SrcOk K W (fun σ H R => iList K (toE K W f) σ H R ∨ iTup K (toE K W f) σ H R) (iAny f) := by
  intro σ H RJ h
  obtain ⟨m, s, x, p⟩ := h
  unfold iAny at p
  split at p
  · exact .inr (src_tup σ H RJ ⟨m, s, x, p⟩)
  · exact .inl (src_frz σ H RJ ⟨m, s, x, p⟩)
  · exact .inl (src_list σ H RJ ⟨m, s, x, p⟩)
theorem pi_any {X : Cx} {W : WX} {tg e : Expr} {f : M R} (h : PE X e (toE X.K W f)) : PI X tg e (fun σ H R => iList X.K (toE X.K W f) σ H R ∨ iTup X.K (toE X.K W f) σ H R) := PI_or (pi_list h) (pi_tup h)
theorem takes0 {X : Cx} : Takes X W0 := fun u s' ⟨a, B, sI, pins, σ, H, cls, d, e, I, nb, up, sky, na, os, ag, w⟩ => w.elim

/-! ### the module's names -/
structure Tp (fa : List He.Fa) (fn : List He.DefD) (K : PySem.W.Frag) (mg : Str → Option Value) : Prop where
  h : ∃ h : Heap, K.In h ∧ h.Ns mainGlobals mg
  c : He.SaysD fa fn K
section
variable {fa : List He.Fa} {fn : List He.DefD} {K : PySem.W.Frag} {mg : Str → Option Value}
theorem Tp.free (T : Tp fa fn K mg) (x : Str) (i : Nat) (e : fa[i]? = some (.free x) := by rfl) : mg x = none := by
  obtain ⟨h, X, G⟩ := T.h
  exact He.free_ok X G (T.c.fact i e)
theorem Tp.glo (T : Tp fa fn K mg) (x : Str) (i : Nat) (e : fa[i]? = some (.glo x) := by rfl) : mg x = some (.ref (He.ga K x)) := by
  obtain ⟨h, X, G⟩ := T.h
  exact He.glo_ok X G (T.c.fact i e)
end
/-- the def of this name does d, from level k on -/
structure Okk (P : Program) (w : World) (K : PySem.W.Frag) (mg : Str → Option Value) (base : Heap) (k : Nat) (x : Str) (ps : List Str) (d : Den) (fd : FuncData) : Prop where
  F : FnOk P w K mg base (L2.CX P w) k (He.ga K x) fd ps (spOf K d)
  b : Binds K fd ps []
  m : mg x = some (.ref (He.ga K x))
  kp : PySem.W.keepIn K (.ref (He.ga K x)) = true
  bt : ∀ (s : Shared) (us : List Value), us.length = ps.length → BindsTo s fd ⟨us, []⟩ (ps.zip us)
  u : ∃ oc od osl, K.lookup (He.ga K x) = some ⟨oc, od, .func fd, osl⟩
section
variable {X : Cx} {W : WX} {pos : Pos}
theorem se_callO {k : Nat} {fd : FuncData} {ps : List Str} {d : Den} {x : Str} {p : Pos} {e : Expr} {es : List Expr} {fa : M (List R)} (O : Okk X.prog X.w X.K X.mg X.base k x ps d fd) (hr : Room k X.A) (hg : Gl X x) (tk : Takes X W) (ha : PA X (e :: es) (toA X.K W fa))
    (hdb : (x == ("__debug__" : Str)) = false := by decide) (he : starEach (e :: es) X.env = (false, eval e X.env) :: starEach es X.env := by rfl) (hpl : (backTo pos (starEach es X.env)).any (·.1) = false := by rfl) :
    PE X (.Call (.Name x p) (e :: es) [] pos) (toE X.K W (eCall d fa)) := se_call O.F hr hg O.m O.kp O.b tk ha hdb he hpl
end
/-- a def's own end: what is asked of the law -/
theorem spOf_law {K : PySem.W.Frag} {d : Den} {ns : List Int} {a : Addr} {H : Hp} (hS : SqL K H a (ns.map V.int)) (h : ∃ cs g, d [.val (.frz (ns.map D.int))] [] [] = .ok (.val (.bl true)) cs g) : spOf K d [.ref a] H (fun v _ => v = .bl true) fun _ _ _ => False := by
  obtain ⟨cs, g, h⟩ := h
  have hr : ∀ (io : Nat → Addr) (ns : List Int), RepDs K H io 0 (ns.map V.int) (ns.map D.int) := fun io ns => by
    induction ns with
    | nil => exact .nil
    | cons n ns ih => exact .cons .int ih
  refine ⟨⟨H, fun _ => none, fun _ => none, fun _ => 0, 0, fun _ => 0, fun _ => 0, fun _ => 0, fun _ _ => 0, fun _ => none⟩, [.val (.frz (ns.map D.int))], [], [], ?_, ⟨.frz hS (hr _ ns), trivial⟩, ?_⟩
  · exact { pers := fun _ _ h => h, lock := (by intro _ _ h; exact nomatch h), oh := (by intro _ _ h; exact nomatch h), op := (by intro _ _ h; exact nomatch h), ol := (by intro _ _ h; exact nomatch h), lp := (by intro _ _ h; exact nomatch h), len := rfl, env := (by intro i z e; simp at e), cells := (by intro n c e; simp at e), cnt := rfl, ins := (by intro k I e; simp at e) }
  · rw [h]
    intro v H' m' _ _ p
    cases p
    rfl
theorem cx_false {P : Program} {w : World} : ∀ (H : Hp) (s : Shared) (e : Value) (s' : Shared), L2.CX P w [] H s (fun _ _ _ => False) e s' → False := by
  intro H s e s' h
  obtain ⟨_, _, _, _, _, _, _, _, _, _, _, _, z⟩ := h
  exact z
def eDict0 : M R := fun s => .ok (.tmp (.dct [])) s
def pAdd : Int → Int → Option D := fun i j => some (.int (i + j))
theorem o2_addI {K : PySem.W.Frag} : Op2 K (ipI fun i j => i + j) (kII pAdd) := op2_II fun m i j d H Q e q => by cases e; exact ⟨i, j, rfl, rfl, q _ .int⟩
theorem o2_subI {K : PySem.W.Frag} : Op2 K (ipI fun i j => i - j) (kII pSub) := op2_II fun m i j d H Q e q => by cases e; exact ⟨i, j, rfl, rfl, q _ .int⟩
theorem fun_at {K : PySem.W.Frag} {x qual : Str} {params : Arguments} {body : List Stmt} {scope : Scope} {dvs : List V} {kws : List (Str × V)} {f : Addr} {fd : FuncData} (F : FunD K x qual params body scope dvs kws f fd) : ∃ oc od osl, K.lookup f = some ⟨oc, od, .func fd, osl⟩ := by
  obtain ⟨oc, od, dV, kV, doc, pm, an, cdv, ct, osl, rfl, lk, hcd, _, _⟩ := F.ex
  exact ⟨oc, od, osl, lk⟩
end VL

set_option maxRecDepth 100000
set_option maxHeartbeats 4000000
/-! The plain side: rules that step through a denotation. -/
namespace VL
open PySem PySem.Spec L2
open PyProof.Rows hiding St

def wp {α : Type} (x : Res α) (Q : α → FS → Prop) (X : Ex → FS → Prop) : Prop := match x with
  | .stuck => False
  | .ok a s => Q a s
  | .exc e s => X e s
def wpS (x : SRes) (Q : SRes → Prop) : Prop := match x with
  | .stuck => False
  | r => Q r
def wpD (x : DRes) (Q : R → List C → List Inst → Prop) (X : Ex → List C → List Inst → Prop) : Prop := match x with
  | .stuck => False
  | .ok r cs g => Q r cs g
  | .exc e cs g => X e cs g
abbrev X0 : Ex → List C → List Inst → Prop := fun _ _ _ => False
section
variable {α β : Type} {Q : α → FS → Prop} {X : Ex → FS → Prop} {s : FS}
theorem w_bind {x : Res β} {k : β → M α} (h : wp x (fun b s1 => wp (k b s1) Q X) X) : wp (x.bind k) Q X := by
  cases x with
  | stuck => exact h
  | ok a s => exact h
  | exc e s => exact h
theorem wp_mono {x : Res α} {Q' : α → FS → Prop} (h : wp x Q X) (i : ∀ a s, Q a s → Q' a s) : wp x Q' X := by
  cases x with
  | stuck => exact h
  | ok a s => exact i _ _ h
  | exc e s => exact h
theorem w_bindS {x : Res β} {k : β → SM} {Q : SRes → Prop} (h : wp x (fun b s1 => wpS (k b s1) Q) (fun e s => Q (.exc e s))) : wpS (x.bindS k) Q := by
  cases x with
  | stuck => exact h
  | ok a s => exact h
  | exc e s => exact h
end
theorem wpD_mono {x : DRes} {Q Q' : R → List C → List Inst → Prop} {X : Ex → List C → List Inst → Prop} (h : wpD x Q X) (i : ∀ r cs g, Q r cs g → Q' r cs g) : wpD x Q' X := by
  cases x with
  | stuck => exact h
  | ok a s => exact i _ _ _ h
  | exc e s => exact h

section
variable {Q : R → FS → Prop} {X : Ex → FS → Prop} {s : FS}
/-! ### operands -/
theorem w_d {d : D} (q : Q (.val d) s) : wp (eD d s) Q X := q
theorem w_var_val {i : Nat} {d : D} (h : s.env[i]? = some (.val d)) (q : Q (.val d) s) : wp (eVar i s) Q X := by unfold eVar; rw [h]; exact q
theorem w_var_own {i : Nat} {c : C} (h : s.env[i]? = some (.own c)) (q : Q (.var i) s) : wp (eVar i s) Q X := by unfold eVar; rw [h]; exact q
theorem w_var_lck {i : Nat} {c : C} (h : s.env[i]? = some (.lck c)) (q : Q (.var i) s) : wp (eVar i s) Q X := by unfold eVar; rw [h]; exact q
theorem w_var_pc {i n : Nat} (h : s.env[i]? = some (.pc n)) (q : Q (.pc n) s) : wp (eVar i s) Q X := by unfold eVar; rw [h]; exact q
theorem w_var_ic {i k j : Nat} (h : s.env[i]? = some (.ic k j)) (q : Q (.ic k j) s) : wp (eVar i s) Q X := by unfold eVar; rw [h]; exact q
theorem w_nil {Q : List R → FS → Prop} (q : Q [] s) : wp (eNil s) Q X := q
theorem w_cons {f : M R} {g : M (List R)} {Q : List R → FS → Prop} (h : wp (f s) (fun r s1 => wp (g s1) (fun rs s2 => Q (r :: rs) s2) X) X) : wp (eCons f g s) Q X := by
  unfold eCons
  refine w_bind (wp_mono h fun r s1 h1 => w_bind (wp_mono h1 fun rs s2 h2 => h2))
/-! ### operators -/
theorem w_bin {k : R → R → M R} {f g : M R} (h : wp (f s) (fun a s1 => wp (g s1) (fun b s2 => wp (k a b s2) Q X) X) X) : wp (eB k f g s) Q X := by
  unfold eB
  exact w_bind (wp_mono h fun r s1 h1 => w_bind h1)
theorem w_un {k : R → M R} {f : M R} (h : wp (f s) (fun a s1 => wp (k a s1) Q X) X) : wp (eU k f s) Q X := w_bind h
theorem w_II {p : Int → Int → Option D} {i j : Int} {d : D} (h : p i j = some d) (q : Q (.val d) s) : wp (kII p (.val (.int i)) (.val (.int j)) s) Q X := by
  show wp (match p i j with | some d => .ok (.val d) s | none => .stuck) Q X
  rw [h]; exact q
theorem w_mod {i j : Int} (h : 0 < j) (q : Q (.val (.int (i % j))) s) : wp (kII pMod (.val (.int i)) (.val (.int j)) s) Q X := w_II (if_pos h) q
theorem w_div {i j : Int} (h : 0 < j) (h2 : j < 1073741824) (q : Q (.val (.int (i / j))) s) : wp (kII pDiv (.val (.int i)) (.val (.int j)) s) Q X := w_II (if_pos ⟨h, h2⟩) q
theorem w_pow {i j : Int} (h : 0 ≤ j ∧ j ≤ 1000000 ∧ i.natAbs < 2 ^ 64) (q : Q (.val (.int (i ^ j.toNat))) s) : wp (kII pPow (.val (.int i)) (.val (.int j)) s) Q X := w_II (if_pos h) q
theorem w_sub {i j : Int} (q : Q (.val (.int (i - j))) s) : wp (kII pSub (.val (.int i)) (.val (.int j)) s) Q X := q
theorem w_lt {i j : Int} (q : Q (.val (.bl (decide (i < j)))) s) : wp (kII pLt (.val (.int i)) (.val (.int j)) s) Q X := q
theorem w_le {i j : Int} (q : Q (.val (.bl (decide (i ≤ j)))) s) : wp (kII pLe (.val (.int i)) (.val (.int j)) s) Q X := q
theorem w_gt {i j : Int} (q : Q (.val (.bl (decide (j < i)))) s) : wp (kII pGt (.val (.int i)) (.val (.int j)) s) Q X := q
theorem w_ge {i j : Int} (q : Q (.val (.bl (decide (j ≤ i)))) s) : wp (kII pGe (.val (.int i)) (.val (.int j)) s) Q X := q
theorem w_max {i j : Int} (q : Q (.val (.int (if j > i then j else i))) s) : wp (kII pMax (.val (.int i)) (.val (.int j)) s) Q X := q
theorem w_min {i j : Int} (q : Q (.val (.int (if j < i then j else i))) s) : wp (kII pMin (.val (.int i)) (.val (.int j)) s) Q X := q
theorem w_add {i j : Int} (q : Q (.val (.int (i + j))) s) : wp (kAdd (.val (.int i)) (.val (.int j)) s) Q X := q
theorem w_addI {i j : Int} (q : Q (.val (.int (i + j))) s) : wp (kII pAdd (.val (.int i)) (.val (.int j)) s) Q X := q
theorem w_adds {x y : Str} (h : x.length + y.length ≤ sizeLine) (q : Q (.val (.str (x ++ y))) s) : wp (kAdd (.val (.str x)) (.val (.str y)) s) Q X := by
  show wp (if x.length + y.length ≤ sizeLine then .ok (.val (.str (x ++ y))) s else .stuck) Q X
  rw [if_pos h]; exact q
theorem asI_cont {r : R} {c : C} (h : cont s r = some c) : asI r = none := by
  cases r with
  | val d => cases d <;> first | rfl | cases h
  | _ => rfl
theorem asS_cont {r : R} {c : C} (h : cont s r = some c) : asS r = none := by
  cases r with
  | val d => cases d <;> first | rfl | cases h
  | _ => rfl
theorem cont_of_seqL {r : R} {xs : List D} (h : seqL s r = some xs) : cont s r = some (.lst xs) := by
  unfold seqL at h
  split at h
  · cases h; assumption
  · cases h
theorem w_addl {a b : R} {xs ys : List D} (h1 : seqL s a = some xs) (h2 : seqL s b = some ys) (h : xs.length + ys.length ≤ sizeLine) (q : Q (.tmp (.lst (xs ++ ys))) s) : wp (kAdd a b s) Q X := by
  unfold kAdd
  rw [asI_cont (cont_of_seqL h1), asS_cont (cont_of_seqL h1)]
  simp only [h1, h2]
  rw [if_pos h]; exact q
theorem w_mul {i j : Int} (h : (-(2 ^ 64) < i ∧ i < 2 ^ 64) ∨ (-(2 ^ 64) < j ∧ j < 2 ^ 64)) (q : Q (.val (.int (i * j))) s) : wp (kMul (.val (.int i)) (.val (.int j)) s) Q X := by
  show wp (if _ then .ok (.val (.int (i * j))) s else .stuck) Q X
  rw [if_pos h]; exact q
theorem w_neg {i : Int} (q : Q (.val (.int (-i))) s) : wp (kNeg (.val (.int i)) s) Q X := q
theorem w_eqi {i j : Int} (q : Q (.val (.bl (decide (i = j)))) s) : wp (kEqN false (.val (.int i)) (.val (.int j)) s) Q X := by
  show Q (.val (.bl (decide (i = j) ^^ false))) s
  rw [Bool.xor_false]; exact q
theorem w_nei {i j : Int} (q : Q (.val (.bl (decide (i ≠ j)))) s) : wp (kEqN true (.val (.int i)) (.val (.int j)) s) Q X := by
  show Q (.val (.bl (decide (i = j) ^^ true))) s
  have e : (decide (i = j) ^^ true) = decide (i ≠ j) := by by_cases h : i = j <;> simp [h]
  rw [e]; exact q
theorem w_eqb {i j : Bool} (q : Q (.val (.bl (decide (i = j)))) s) : wp (kEqN false (.val (.bl i)) (.val (.bl j)) s) Q X := by
  show Q (.val (.bl (decide (i = j) ^^ false))) s
  rw [Bool.xor_false]; exact q
theorem w_eqs {i j : Str} (q : Q (.val (.bl (decide (i = j)))) s) : wp (kEqN false (.val (.str i)) (.val (.str j)) s) Q X := by
  show Q (.val (.bl (decide (i = j) ^^ false))) s
  rw [Bool.xor_false]; exact q
theorem w_eqsc {a b : R} {n k : Bool} (h : eqSc a b = some k) (q : Q (.val (.bl (k ^^ n))) s) : wp (kEqN n a b s) Q X := by
  unfold kEqN; rw [h]; exact q
theorem w_is {a b : R} {n k : Bool} (h : kIsN n a b s = .ok (.val (.bl k)) s) (q : Q (.val (.bl k)) s) : wp (kIsN n a b s) Q X := by
  rw [h]; exact q
theorem w_ixl {a : R} {xs : List D} {i : Int} {d : D} (h : seqL s a = some xs) (h2 : atI xs i = some d) (q : Q (.val d) s) : wp (kIx a (.val (.int i)) s) Q X := by
  unfold kIx
  have hc := cont_of_seqL h
  have hd : dctK s a = none := by unfold dctK; rw [hc]
  rw [hd]
  simp only [asI, h, h2]; exact q
theorem w_ixt {xs : List D} {i : Int} {d : D} (h2 : atI xs i = some d) (q : Q (.val d) s) : wp (kIx (.val (.tup xs)) (.val (.int i)) s) Q X := by
  have e : kIx (.val (.tup xs)) (.val (.int i)) s = (match atI xs i with | some d => .ok (.val d) s | none => .stuck) := rfl
  rw [e, h2]; exact q
/-! ### truth -/
variable {Qb : Bool → FS → Prop}
theorem w_asB {b : Bool} (q : Qb b s) : wp (asB (.val (.bl b)) s) Qb X := q
theorem w_T {f : M R} (h : wp (f s) (fun r s1 => wp (asB r s1) Qb X) X) : wp (eT f s) Qb X := w_bind h
theorem w_if {β : Type} {b : Bool} {x y : Res β} {Q : β → FS → Prop} (h : (b = true → wp x Q X) ∧ (b = false → wp y Q X)) : wp (if b = true then x else y) Q X := by
  cases b with
  | true => exact h.1 rfl
  | false => exact h.2 rfl
theorem w_mand {f g : M Bool} (h : wp (f s) (fun b s1 => (b = true → wp (g s1) Qb X) ∧ (b = false → Qb false s1)) X) : wp (mAnd f g s) Qb X := by
  unfold mAnd
  exact w_bind (wp_mono h fun b s1 h => w_if h)
theorem w_mor {f g : M Bool} (h : wp (f s) (fun b s1 => (b = true → Qb true s1) ∧ (b = false → wp (g s1) Qb X)) X) : wp (mOr f g s) Qb X := by
  unfold mOr
  exact w_bind (wp_mono h fun b s1 h => w_if h)
theorem w_mnot {f : M Bool} (h : wp (f s) (fun b s1 => Qb (!b) s1) X) : wp (mNot f s) Qb X := w_bind h
theorem w_yes (q : Qb true s) : wp (mYes s) Qb X := q
theorem w_eand {f g : M R} (h : wp (f s) (fun r s1 => wp (asB r s1) (fun b s2 => (b = true → wp (g s2) Q X) ∧ (b = false → Q (.val (.bl false)) s2)) X) X) : wp (eAnd f g s) Q X := by
  unfold eAnd
  exact w_bind (wp_mono h fun r s1 h => w_bind (wp_mono h fun b s2 h => w_if h))
theorem w_eor {f g : M R} (h : wp (f s) (fun r s1 => wp (asB r s1) (fun b s2 => (b = true → Q (.val (.bl true)) s2) ∧ (b = false → wp (g s2) Q X)) X) X) : wp (eOr f g s) Q X := by
  unfold eOr
  exact w_bind (wp_mono h fun r s1 h => w_bind (wp_mono h fun b s2 h => w_if h))
theorem w_enot {f : M R} (h : wp (f s) (fun r s1 => wp (asB r s1) (fun b s2 => Q (.val (.bl (!b))) s2) X) X) : wp (eNot f s) Q X := by
  unfold eNot
  exact w_bind (wp_mono h fun r s1 h => w_bind (wp_mono h fun b s2 h => h))
theorem w_eif {t : M Bool} {f g : M R} (h : wp (t s) (fun b s1 => (b = true → wp (f s1) Q X) ∧ (b = false → wp (g s1) Q X)) X) : wp (eIf t f g s) Q X := by
  unfold eIf
  exact w_bind (wp_mono h fun b s1 h => w_if h)
theorem w_ch {k k' : R → R → M R} {f g h : M R} (z : wp (f s) (fun a s1 => wp (g s1) (fun b s2 => wp (k a b s2) (fun r s3 => wp (asB r s3) (fun c s4 => (c = true → wp (h s4) (fun d s5 => wp (k' b d s5) Q X) X) ∧ (c = false → Q (.val (.bl false)) s4)) X) X) X) X) : wp (eCh k k' f g h s) Q X := by
  unfold eCh
  exact w_bind (wp_mono z fun a s1 z => w_bind (wp_mono z fun b s2 z => w_bind (wp_mono z fun r s3 z => w_bind (wp_mono z fun c s4 z => w_if ⟨fun e => w_bind (z.1 e), z.2⟩))))
/-! ### displays, built-ins -/
theorem w_lst {f : M (List R)} (h : wp (f s) (fun rs s1 => ∃ ds s2, frzAll rs s1 = some (ds, s2) ∧ ds.length ≤ sizeLine ∧ Q (.tmp (.lst ds)) s2) X) : wp (eLst f s) Q X := by
  unfold eLst
  refine w_bind (wp_mono h fun rs s1 ⟨ds, s2, e, hl, q⟩ => ?_)
  simp only [e, if_pos hl]; exact q
theorem w_tup {f : M (List R)} (h : wp (f s) (fun rs s1 => ∃ ds s2, frzAll rs s1 = some (ds, s2) ∧ ds.length ≤ sizeLine ∧ Q (.val (.tup ds)) s2) X) : wp (eTup f s) Q X := by
  unfold eTup
  refine w_bind (wp_mono h fun rs s1 ⟨ds, s2, e, hl, q⟩ => ?_)
  simp only [e, if_pos hl]; exact q
theorem w_dict0 (q : Q (.tmp (.dct [])) s) : wp (eDict0 s) Q X := q
theorem w_cb {k : List R → M R} {f : M (List R)} (h : wp (f s) (fun rs s1 => wp (k rs s1) Q X) X) : wp (eCB k f s) Q X := w_bind h
theorem w_k1 {k : R → M R} {a : R} (h : wp (k a s) Q X) : wp (k1 k [a] s) Q X := h
theorem w_k2 {k : R → R → M R} {a b : R} (h : wp (k a b s) Q X) : wp (k2 k [a, b] s) Q X := h
theorem w_abs {i : Int} (q : Q (.val (.int (if i < 0 then -i else i))) s) : wp (kAbs (.val (.int i)) s) Q X := q
theorem w_int {i : Int} (q : Q (.val (.int i)) s) : wp (kInt (.val (.int i)) s) Q X := q
theorem w_intb {b : Bool} (q : Q (.val (.int (if b then 1 else 0))) s) : wp (kInt (.val (.bl b)) s) Q X := q
theorem w_lenl {a : R} {xs : List D} (h : seqL s a = some xs) (q : Q (.val (.int xs.length)) s) : wp (kLen a s) Q X := by
  unfold kLen; rw [h]; exact q
theorem w_lent {xs : List D} (q : Q (.val (.int xs.length)) s) : wp (kLen (.val (.tup xs)) s) Q X := q
theorem w_isT {T : String} {f : M R} (h : wp (f s) (fun r s1 => ∃ a, tyD s1 r = some a ∧ Q (.val (.bl (isTy a T))) s1) X) : wp (eIsT T f s) Q X := by
  unfold eIsT
  refine w_bind (wp_mono h fun r s1 ⟨a, e, h⟩ => ?_)
  rw [e]; exact h
/-! ### calls -/
theorem w_eCall {d : Den} {f : M (List R)} (h : wp (f s) (fun rs s1 => wp (callR d rs s1) Q X) X) : wp (eCall d f s) Q X := w_bind h
theorem w_call {d : Den} {rs as og : List R} {cs : List C} (hc : canon s rs [] [] = some (as, og, cs)) (h : wpD (d as cs s.g) (fun r cs' g' => ∃ s2 r', backW og cs' { s with g := g' } = some s2 ∧ resR og cs' r = some r' ∧ Q r' s2) (fun e cs' g' => ∃ s2, backW og cs' { s with g := g' } = some s2 ∧ X e s2)) :
    wp (callR d rs s) Q X := by
  unfold callR
  rw [hc]
  simp only []
  cases e : d as cs s.g with
  | stuck => rw [e] at h; exact h.elim
  | ok r cs' g' =>
    rw [e] at h
    obtain ⟨s2, r', e1, e2, q⟩ := h
    simp only [e1, e2]; exact q
  | exc ex cs' g' =>
    rw [e] at h
    obtain ⟨s2, e1, q⟩ := h
    simp only [e1]; exact q
end
section
variable {Q : SRes → Prop} {s : FS}
/-! ### statements -/
theorem wpS_mono {x : SRes} {Q' : SRes → Prop} (h : wpS x Q) (i : ∀ r, Q r → Q' r) : wpS x Q' := by
  cases x <;> first | exact h | exact i _ h
def seqK (g : SM) (Q : SRes → Prop) : SRes → Prop := fun r => match r with
  | .next s1 => wpS (g s1) Q
  | r => wpS r Q
theorem v_seq {f g : SM} (h : wpS (f s) (seqK g Q)) : wpS (sSeq f g s) Q := by
  unfold sSeq
  cases e : f s <;> rw [e] at h <;> first | exact h | exact h.elim
theorem v_k_next {g : SM} {s1 : FS} (h : wpS (g s1) Q) : seqK g Q (.next s1) := h
theorem v_k_ret {g : SM} {r : R} {s1 : FS} (h : Q (.ret r s1)) : seqK g Q (.ret r s1) := h
theorem v_k_brk {g : SM} {s1 : FS} (h : Q (.brk s1)) : seqK g Q (.brk s1) := h
theorem v_k_cont {g : SM} {s1 : FS} (h : Q (.cont s1)) : seqK g Q (.cont s1) := h
theorem v_k_exc {g : SM} {e : Ex} {s1 : FS} (h : Q (.exc e s1)) : seqK g Q (.exc e s1) := h
theorem v_nil (h : Q (.next s)) : wpS (sNil s) Q := h
theorem v_brk (h : Q (.brk s)) : wpS (sBrk s) Q := h
theorem v_cont (h : Q (.cont s)) : wpS (sCont s) Q := h
theorem v_retN (h : Q (.ret (.val .non) s)) : wpS (sRetN s) Q := h
theorem v_ret {f : M R} (h : wp (f s) (fun r s1 => Q (.ret r s1)) (fun e s => Q (.exc e s))) : wpS (sRet f s) Q := w_bindS (wp_mono h fun _ _ h => h)
theorem v_e {f : M R} (h : wp (f s) (fun r s1 => Q (.next s1)) (fun e s => Q (.exc e s))) : wpS (sE f s) Q := w_bindS (wp_mono h fun _ _ h => h)
theorem v_iteS {b : Bool} {x y : SRes} (h : (b = true → wpS x Q) ∧ (b = false → wpS y Q)) : wpS (if b = true then x else y) Q := by
  cases b with
  | true => exact h.1 rfl
  | false => exact h.2 rfl
theorem v_if {t : M Bool} {f g : SM} (h : wp (t s) (fun b s1 => (b = true → wpS (f s1) Q) ∧ (b = false → wpS (g s1) Q)) (fun e s => Q (.exc e s))) : wpS (sIf t f g s) Q := w_bindS (wp_mono h fun _ _ h => v_iteS h)
theorem v_set {i : Nat} {f : M R} (h : wp (f s) (fun r s1 => wpS (setSlot i r s1) Q) (fun e s => Q (.exc e s))) : wpS (sSet i f s) Q := w_bindS h
theorem v_aug {i : Nat} {k : R → R → M R} {f : M R} (h : wp (eB k (eVar i) f s) (fun r s1 => wpS (setSlot i r s1) Q) (fun e s => Q (.exc e s))) : wpS (sAug i k f s) Q := w_bindS h
theorem v_sl_val {i : Nat} {d : D} (q : Q (.next ⟨s.env.set i (.val d), s.pcs, s.g⟩)) : wpS (setSlot i (.val d) s) Q := q
theorem v_sl_pc {i n : Nat} (q : Q (.next ⟨s.env.set i (.pc n), s.pcs, s.g⟩)) : wpS (setSlot i (.pc n) s) Q := q
theorem v_sl_ic {i k j : Nat} (q : Q (.next ⟨s.env.set i (.ic k j), s.pcs, s.g⟩)) : wpS (setSlot i (.ic k j) s) Q := q
theorem v_sl_tmp {i : Nat} {c : C} (h : i < s.env.length) (q : Q (.next ⟨s.env.set i (.own c), s.pcs, s.g⟩)) : wpS (setSlot i (.tmp c) s) Q := by
  show wpS (if i < s.env.length then .next (s.setE i (.own c)) else .stuck) Q
  rw [if_pos h]; exact q
theorem v_it {fo fi fv : M R} (h : wp (fv s) (fun v s1 => wp (fo s1) (fun o s2 => wp (fi s2) (fun i s3 => ∃ d s4 s5, frzR v s3 = some (d, s4) ∧ setItem o i d s4 = some s5 ∧ Q (.next s5)) (fun e s => Q (.exc e s))) (fun e s => Q (.exc e s))) (fun e s => Q (.exc e s))) : wpS (sSetIt fo fi fv s) Q := by
  unfold sSetIt
  refine w_bindS (w_cons (wp_mono h fun v s1 h => w_cons (wp_mono h fun o s2 h => w_cons (wp_mono h fun i s3 h => ?_))))
  obtain ⟨d, s4, s5, e1, e2, q⟩ := h
  refine w_nil ?_
  simp only [e1, e2]; exact q
theorem setItem_lst {s s5 : FS} {o : R} {xs : List D} {k : Int} {d : D} {j : Nat} (h : seqL s o = some xs) (hj : ixN xs.length k = some j) (hp : put s o (.lst (xs.set j d)) = some s5) : setItem o (.val (.int k)) d s = some s5 := by
  unfold setItem
  have hc := cont_of_seqL h
  have hd : dctK s o = none := by unfold dctK; rw [hc]
  simp only [hd, h, asI, hj]; exact hp
end
section
variable {Q : R → List C → List Inst → Prop} {X : Ex → List C → List Inst → Prop}
def finK (Q : R → List C → List Inst → Prop) (X : Ex → List C → List Inst → Prop) : SRes → Prop := fun r => wpD (fin r) Q X
/-- a def -/
theorem v_den {n l : Nat} {b : SM} {as : List R} {cs : List C} {g : List Inst} (ha : as.length = n) (h : wpS (b ⟨as.map argS ++ List.replicate l .no, cs, g⟩) (finK Q X)) : wpD (mkDen n l b as cs g) Q X := by
  unfold mkDen
  rw [if_pos ha]
  cases e : b ⟨as.map argS ++ List.replicate l .no, cs, g⟩ with
  | stuck => rw [e] at h; exact h.elim
  | _ => rw [e] at h; exact h
theorem f_next {s : FS} (q : Q (.val .non) s.pcs s.g) : finK Q X (.next s) := q
theorem f_val {s : FS} {d : D} (q : Q (.val d) s.pcs s.g) : finK Q X (.ret (.val d) s) := q
theorem f_tmp {s : FS} {c : C} (q : Q (.tmp c) s.pcs s.g) : finK Q X (.ret (.tmp c) s) := q
theorem f_pc {s : FS} {n : Nat} (q : Q (.pc n) s.pcs s.g) : finK Q X (.ret (.pc n) s) := q
theorem f_ic {s : FS} {k j : Nat} (q : Q (.ic k j) s.pcs s.g) : finK Q X (.ret (.ic k j) s) := q
theorem f_var {s : FS} {i : Nat} {c : C} (h : cont s (.var i) = some c) (q : Q (.tmp c) s.pcs s.g) : finK Q X (.ret (.var i) s) := by
  unfold finK fin; simp only [h]; exact q
theorem f_exc {s : FS} {e : Ex} (q : X e s.pcs s.g) : finK Q X (.exc e s) := q
end
/-! ### branches -/
section
variable {A B : Prop} {b : Bool}
theorem i_true (h : A) : (true = true → A) ∧ (true = false → B) := ⟨fun _ => h, fun z => (nomatch z)⟩
theorem i_false (h : B) : (false = true → A) ∧ (false = false → B) := ⟨fun z => (nomatch z), fun _ => h⟩
theorem i_dec {p : Prop} [Decidable p] (h1 : p → A) (h2 : ¬ p → B) : (decide p = true → A) ∧ (decide p = false → B) := ⟨fun z => h1 (of_decide_eq_true z), fun z => h2 (of_decide_eq_false z)⟩
theorem i_not (h : (b = true → B) ∧ (b = false → A)) : ((!b) = true → A) ∧ ((!b) = false → B) := by
  cases b with
  | true => exact ⟨fun z => (nomatch z), fun _ => h.1 rfl⟩
  | false => exact ⟨fun _ => h.2 rfl, fun z => (nomatch z)⟩
theorem i_lt (e : b = true) (h : A) : (b = true → A) ∧ (b = false → B) := ⟨fun _ => h, fun z => (by rw [e] at z; cases z)⟩
theorem i_lf (e : b = false) (h : B) : (b = true → A) ∧ (b = false → B) := ⟨fun z => (by rw [e] at z; cases z), fun _ => h⟩
theorem ble_of {n m : Nat} (h : Nat.ble n m = true) : n ≤ m := Nat.le_of_ble_eq_true h
end
/-! ### loops -/
section
variable {Q : SRes → Prop} {s : FS}
def loopK (I : Nat → FS → Prop) (i : Nat) (ex : FS → FS) (Q : SRes → Prop) : SRes → Prop := fun r => match r with
  | .next s2 => I (i + 1) s2
  | .cont s2 => I (i + 1) s2
  | .brk s2 => Q (.next (ex s2))
  | .ret r s2 => Q (.ret r (ex s2))
  | .exc e s2 => Q (.exc e (ex s2))
  | .stuck => False
theorem forL_w {chk : FS → Prop} {g : D → FS → Option FS} {b : SM} {ex : FS → FS} (I : Nat → FS → Prop) : ∀ (xs : List D) (n : Nat) (s : FS), I n s →
    (∀ i d s, xs[i]? = some d → I (n + i) s → chk s ∧ ∃ s1, g d s = some s1 ∧ wpS (b s1) (loopK I (n + i) ex Q)) →
    (∀ s, I (n + xs.length) s → chk s ∧ Q (.next (ex s))) → wpS ((forL chk g b xs s).map ex) Q
  | [], n, s, h, hs, he => by
    obtain ⟨h1, h2⟩ := he s h
    unfold forL; rw [if_pos h1]; exact h2
  | d :: ds, n, s, h, hs, he => by
    obtain ⟨h1, s1, e1, w⟩ := hs 0 d s rfl h
    unfold forL; rw [if_pos h1]; simp only [e1]
    have go : ∀ s2, I (n + 1) s2 → wpS ((forL chk g b ds s2).map ex) Q := fun s2 h2 => forL_w I ds (n + 1) s2 h2 (fun i d s hd hi => by
      have := hs (i + 1) d s hd (by rw [show n + (i + 1) = n + 1 + i by omega]; exact hi)
      rw [show n + (i + 1) = n + 1 + i by omega] at this; exact this) (fun s h => he s (by rw [List.length_cons, show n + (ds.length + 1) = n + 1 + ds.length by omega]; exact h))
    cases e : b s1 with
    | stuck => rw [e] at w; exact w.elim
    | next s2 => rw [e] at w; exact go s2 w
    | cont s2 => rw [e] at w; exact go s2 w
    | brk s2 => rw [e] at w; exact w
    | ret r s2 => rw [e] at w; exact w
    | exc ex s2 => rw [e] at w; exact w
/-- for: I i holds ahead of the i-th item -/
theorem v_for {f : M Lp} {g : D → FS → Option FS} {b : SM} (h : wp (f s) (fun lp s1 => ∃ I : Nat → FS → Prop, I 0 (lp.en s1) ∧
    (∀ i d s, lp.xs[i]? = some d → I i s → lp.chk s ∧ ∃ s1, g d s = some s1 ∧ wpS (b s1) (loopK I i lp.ex Q)) ∧
    (∀ s, I lp.xs.length s → lp.chk s ∧ Q (.next (lp.ex s)))) (fun e s => Q (.exc e s))) : wpS (sFor f g b s) Q := by
  unfold sFor
  refine w_bindS (wp_mono h fun lp s1 ⟨I, h0, hs, he⟩ => ?_)
  exact forL_w I lp.xs 0 (lp.en s1) h0 (fun i d s hd hi => by rw [Nat.zero_add] at hi ⊢; exact hs i d s hd hi) (fun s h => he s (by rw [Nat.zero_add] at h; exact h))
end
section
variable {Q : R → FS → Prop} {X : Ex → FS → Prop} {s : FS}
abbrev XN : Ex → FS → Prop := fun _ _ => False
theorem compL_w {chk : FS → Prop} {own : List Nat} {g : D → FS → Option FS} {t : M Bool} {e : M R} {Qc : List D → FS → Prop} {N : Nat} (I : Nat → List D → FS → Prop) : ∀ (xs : List D) (n : Nat) (acc : List D) (s : FS), I n acc s → acc.length ≤ n → n + xs.length ≤ sizeLine →
    (∀ i d acc s, xs[i]? = some d → I (n + i) acc s → (chk s ∧ ownOk own s = true) ∧ ∃ s1, g d (wipeE own s) = some s1 ∧ wp (t s1) (fun b s2 => (b = true → wp (e s2) (fun r s3 => ∃ dd s4, frzR r s3 = some (dd, s4) ∧ I (n + i + 1) (acc ++ [dd]) (restE own s s4)) XN) ∧ (b = false → I (n + i + 1) acc (restE own s s2))) XN) →
    (∀ acc s, I (n + xs.length) acc s → chk s ∧ Qc acc s) → wp (compL chk own g t e xs acc s) Qc XN
  | [], n, acc, s, h, hl, hn, hs, he => by
    obtain ⟨h1, h2⟩ := he acc s h
    unfold compL; rw [if_pos h1]; exact h2
  | d :: ds, n, acc, s, h, hl, hn, hs, he => by
    obtain ⟨h1, s1, e1, w⟩ := hs 0 d acc s rfl h
    rw [List.length_cons] at hn
    unfold compL; rw [if_pos h1]; simp only [e1]
    have go : ∀ acc2 s2, I (n + 1) acc2 s2 → acc2.length ≤ n + 1 → wp (compL chk own g t e ds acc2 s2) Qc XN := fun acc2 s2 h2 hl2 => compL_w (N := N) I ds (n + 1) acc2 s2 h2 hl2 (by omega) (fun i d acc s hd hi => by
      have := hs (i + 1) d acc s hd (by rw [show n + (i + 1) = n + 1 + i by omega]; exact hi)
      rw [show n + (i + 1) = n + 1 + i by omega] at this; exact this) (fun acc s h => he acc s (by rw [List.length_cons, show n + (ds.length + 1) = n + 1 + ds.length by omega]; exact h))
    cases et : t s1 with
    | stuck => rw [et] at w; exact w.elim
    | exc _ _ => rw [et] at w; exact w.elim
    | ok b s2 =>
      rw [et] at w
      cases b with
      | false => exact go acc _ (w.2 rfl) (by omega)
      | true =>
        have w2 := w.1 rfl
        simp only [if_true]
        cases ee : e s2 with
        | stuck => rw [ee] at w2; exact w2.elim
        | exc _ _ => rw [ee] at w2; exact w2.elim
        | ok r s3 =>
          rw [ee] at w2
          obtain ⟨dd, s4, e4, w4⟩ := w2
          simp only [e4]
          rw [if_pos (by omega)]
          exact go _ _ w4 (by rw [List.length_append, List.length_singleton]; omega)
/-- [e for ..]: I i acc holds ahead of the i-th item -/
theorem w_lc {f : M Lp} {own : List Nat} {g : D → FS → Option FS} {t : M Bool} {e : M R} (h : wp (f s) (fun lp s1 => lp.xs.length ≤ sizeLine ∧ ∃ I : Nat → List D → FS → Prop, I 0 [] (lp.en s1) ∧
    (∀ i d acc s, lp.xs[i]? = some d → I i acc s → (lp.chk s ∧ ownOk own s = true) ∧ ∃ s1, g d (wipeE own s) = some s1 ∧ wp (t s1) (fun b s2 => (b = true → wp (e s2) (fun r s3 => ∃ dd s4, frzR r s3 = some (dd, s4) ∧ I (i + 1) (acc ++ [dd]) (restE own s s4)) XN) ∧ (b = false → I (i + 1) acc (restE own s s2))) XN) ∧
    (∀ acc s, I lp.xs.length acc s → lp.chk s ∧ Q (.tmp (.lst acc)) (lp.ex s))) X) : wp (eLc f own g t e s) Q X := by
  unfold eLc
  refine w_bind (wp_mono h fun lp s1 ⟨hl, I, h0, hs, he⟩ => ?_)
  have w := compL_w (chk := lp.chk) (own := own) (g := g) (t := t) (e := e) (Qc := fun acc s => Q (.tmp (.lst acc)) (lp.ex s)) (N := 0) I lp.xs 0 [] (lp.en s1) h0 (Nat.le_refl _) (by omega) (fun i d acc s hd hi => by rw [Nat.zero_add] at hi ⊢; exact hs i d acc s hd hi) (fun acc s h => he acc s (by rw [Nat.zero_add] at h; exact h))
  cases ec : compL lp.chk own g t e lp.xs [] (lp.en s1) with
  | stuck => rw [ec] at w; exact w.elim
  | exc _ _ => rw [ec] at w; exact w.elim
  | ok acc s2 => rw [ec] at w; exact w
/-- [e for ..] that changes nothing: each item gives φ's -/
theorem w_lc_map {f : M Lp} {own : List Nat} {g : D → FS → Option FS} {t : M Bool} {e : M R} (φ : D → Option D) (h : wp (f s) (fun lp s1 => lp.xs.length ≤ sizeLine ∧ (lp.chk (lp.en s1) ∧ ownOk own (lp.en s1) = true) ∧
    (∀ d, d ∈ lp.xs → ∃ s2, g d (wipeE own (lp.en s1)) = some s2 ∧ wp (t s2) (fun b s3 => (b = true → wp (e s3) (fun r s4 => ∃ dd s5, frzR r s4 = some (dd, s5) ∧ φ d = some dd ∧ restE own (lp.en s1) s5 = lp.en s1) XN) ∧ (b = false → φ d = none ∧ restE own (lp.en s1) s3 = lp.en s1)) XN) ∧
    Q (.tmp (.lst (lp.xs.filterMap φ))) (lp.ex (lp.en s1))) X) : wp (eLc f own g t e s) Q X := by
  refine w_lc (wp_mono h fun lp s1 ⟨hl, hc, hs, he⟩ => ⟨hl, fun i acc s => s = lp.en s1 ∧ acc = (lp.xs.take i).filterMap φ, ⟨rfl, rfl⟩, fun i d acc s hd hi => ?_, fun acc s hi => ?_⟩)
  · obtain ⟨rfl, rfl⟩ := hi
    refine ⟨hc, ?_⟩
    obtain ⟨s2, e2, w⟩ := hs d (List.mem_of_getElem? hd)
    have ht : lp.xs.take (i + 1) = lp.xs.take i ++ [d] := by
      rw [List.take_add_one, hd]; rfl
    refine ⟨s2, e2, wp_mono w fun b s3 hb => ⟨fun z => wp_mono (hb.1 z) fun r s4 ⟨dd, s5, h1, h2, h3⟩ => ⟨dd, s5, h1, h3, ?_⟩, fun z => ⟨(hb.2 z).2, ?_⟩⟩⟩
    · rw [ht, List.filterMap_append]; simp [h2]
    · rw [ht, List.filterMap_append]; simp [(hb.2 z).1]
  · obtain ⟨rfl, rfl⟩ := hi
    rw [List.take_length]
    exact ⟨hc.1, he⟩
/-! ### sources -/
def anyQ (r : R) (s : FS) (Q : Lp → FS → Prop) : Prop := match r with
  | .val (.tup xs) => Q { xs := xs } s
  | .val (.frz xs) => Q { xs := xs } s
  | r => match seqL s r with
    | some xs => Q { xs := xs, chk := keepL r xs, en := lockV r, ex := unlockV r s } s
    | none => False
theorem w_any {f : M R} {Q : Lp → FS → Prop} (h : wp (f s) (fun r s1 => anyQ r s1 Q) X) : wp (iAny f s) Q X := by
  unfold iAny
  cases e : f s with
  | stuck => rw [e] at h; exact h.elim
  | exc ex s1 => rw [e] at h; unfold iL; rw [e]; exact h
  | ok r s1 =>
    rw [e] at h
    have h' : anyQ r s1 Q := h
    have gen : (∀ xs, r ≠ .val (.tup xs)) → (∀ xs, r ≠ .val (.frz xs)) → wp (iL f s) Q X := fun h1 h2 => by
      have h3 : (match seqL s1 r with | some xs => Q { xs := xs, chk := keepL r xs, en := lockV r, ex := unlockV r s1 } s1 | none => False) := by
        unfold anyQ at h'
        split at h'
        · exact absurd rfl (h1 _)
        · exact absurd rfl (h2 _)
        · exact h'
      unfold iL; rw [e]
      show wp (match seqL s1 r with | some xs => _ | none => _) Q X
      cases eq : seqL s1 r with
      | none => rw [eq] at h3; exact h3.elim
      | some xs => rw [eq] at h3; exact h3
    cases r with
    | val d =>
      cases d with
      | tup xs => show wp (iT f s) Q X; unfold iT; rw [e]; exact h'
      | frz xs => show wp (iZ f s) Q X; unfold iZ; rw [e]; exact h'
      | _ => exact gen (fun _ z => nomatch z) (fun _ z => nomatch z)
    | _ => exact gen (fun _ z => nomatch z) (fun _ z => nomatch z)
end
section
variable {X : Ex → FS → Prop} {s : FS} {Q : Lp → FS → Prop}
theorem w_r1 {f : M (List R)} (h : wp (f s) (fun rs s1 => ∃ j : Int, rs = [.val (.int j)] ∧ (-(2 ^ 62) ≤ j ∧ j < 2 ^ 62) ∧ Q { xs := rgD 0 j.toNat } s1) X) : wp (iR1 f s) Q X := by
  unfold iR1
  refine w_bind (wp_mono h fun rs s1 ⟨j, e, hj, q⟩ => ?_)
  subst e
  simp only [asI, if_pos hj]; exact q
theorem w_r2 {f : M (List R)} (h : wp (f s) (fun rs s1 => ∃ i j : Int, rs = [.val (.int i), .val (.int j)] ∧ (-(2 ^ 62) ≤ i ∧ i < 2 ^ 62 ∧ -(2 ^ 62) ≤ j ∧ j < 2 ^ 62) ∧ Q { xs := rgD i (j - i).toNat } s1) X) : wp (iR2 f s) Q X := by
  unfold iR2
  refine w_bind (wp_mono h fun rs s1 ⟨i, j, e, hj, q⟩ => ?_)
  subst e
  simp only [asI, if_pos hj]; exact q
theorem rgD_len {lo : Int} {n : Nat} : (rgD lo n).length = n := by unfold rgD; rw [List.length_map, List.length_range]
theorem rgD_get {lo : Int} {n i : Nat} {d : D} (h : (rgD lo n)[i]? = some d) : i < n ∧ d = .int (lo + i) := by
  have hi : i < n := by
    have := (List.getElem?_eq_some_iff.mp h).1
    rw [rgD_len] at this; exact this
  unfold rgD at h
  rw [List.getElem?_map, List.getElem?_range hi] at h
  cases h
  exact ⟨hi, rfl⟩
end
/-! ### what comes back -/
theorem x_frz {rs : List R} {s s2 : FS} {ds : List D} {P : List D → FS → Prop} (h1 : frzAll rs s = some (ds, s2)) (h2 : Nat.ble ds.length 64 = true) (q : P ds s2) : ∃ ds s2, frzAll rs s = some (ds, s2) ∧ ds.length ≤ sizeLine ∧ P ds s2 :=
  ⟨ds, s2, h1, Nat.le_trans (Nat.le_of_ble_eq_true h2) (by decide), q⟩
theorem x_call {og : List R} {cs : List C} {s s2 : FS} {r r' : R} {P : FS → R → Prop} (h1 : backW og cs s = some s2) (h2 : resR og cs r = some r') (q : P s2 r') : ∃ s2 r', backW og cs s = some s2 ∧ resR og cs r = some r' ∧ P s2 r' := ⟨s2, r', h1, h2, q⟩
theorem x_back {og : List R} {cs : List C} {s s2 : FS} {P : FS → Prop} (h1 : backW og cs s = some s2) (q : P s2) : ∃ s2, backW og cs s = some s2 ∧ P s2 := ⟨s2, h1, q⟩
theorem x_it {v o i : R} {s s4 s5 : FS} {d : D} {P : FS → Prop} (h1 : frzR v s = some (d, s4)) (h2 : setItem o i d s4 = some s5) (q : P s5) : ∃ d s4 s5, frzR v s = some (d, s4) ∧ setItem o i d s4 = some s5 ∧ P s5 := ⟨d, s4, s5, h1, h2, q⟩
theorem x_ty {s : FS} {r : R} {a : String} {P : String → Prop} (h : tyD s r = some a) (q : P a) : ∃ a, tyD s r = some a ∧ P a := ⟨a, h, q⟩
theorem x_frz1 {r : R} {s s4 : FS} {d : D} {P : D → FS → Prop} (h : frzR r s = some (d, s4)) (q : P d s4) : ∃ d s4, frzR r s = some (d, s4) ∧ P d s4 := ⟨d, s4, h, q⟩
theorem x_r1 {j : Int} {P : Int → Prop} (h : -(2 ^ 62) ≤ j ∧ j < 2 ^ 62) (q : P j) : ∃ i : Int, [R.val (.int j)] = [R.val (.int i)] ∧ (-(2 ^ 62) ≤ i ∧ i < 2 ^ 62) ∧ P i := ⟨j, rfl, h, q⟩
theorem x_r2 {i j : Int} {P : Int → Int → Prop} (h : -(2 ^ 62) ≤ i ∧ i < 2 ^ 62 ∧ -(2 ^ 62) ≤ j ∧ j < 2 ^ 62) (q : P i j) : ∃ i' j' : Int, [R.val (.int i), R.val (.int j)] = [R.val (.int i'), R.val (.int j')] ∧ (-(2 ^ 62) ≤ i' ∧ i' < 2 ^ 62 ∧ -(2 ^ 62) ≤ j' ∧ j' < 2 ^ 62) ∧ P i' j' := ⟨i, j, rfl, h, q⟩
end VL

set_option maxRecDepth 100000
set_option maxHeartbeats 4000000
namespace VL
open PySem PySem.Spec L2
open PyProof.Rows hiding St
theorem atI_nat' {α : Type} {xs : List α} {i : Int} (h : 0 ≤ i) (h2 : i < xs.length) : atI xs i = some (xs[i.toNat]'(by omega)) := by
  unfold atI ixN
  rw [if_pos h, if_pos h2]
  show xs[i.toNat]? = _
  exact List.getElem?_eq_getElem _
theorem atI_ints {xs : List Int} {i : Int} (h : 0 ≤ i) (h2 : i < xs.length) : atI (xs.map D.int) i = some (.int (xs[i.toNat]'(by omega))) := by
  rw [atI_nat' h (by rw [List.length_map]; exact h2)]
  simp
/-- the law's tape: cells, place, number, two counts -/
def TapeOk (c : C) : Prop := ∃ (ms : List Int) (p v k t : Int), c = .lst [.lst (ms.map D.int), .int p, .int v, .int k, .int t] ∧ 0 ≤ p ∧ p < ms.length
def mapI (φ : Int → Int) : D → Option D
  | .int i => some (.int (φ i))
  | _ => none
theorem mapI_ints {φ : Int → Int} {ns : List Int} : (ns.map D.int).filterMap (mapI φ) = (ns.map φ).map D.int := by
  induction ns with
  | nil => rfl
  | cons n ns ih => rw [List.map_cons, List.filterMap_cons]; simp only [mapI, List.map_cons]; rw [ih]
end VL

set_option maxRecDepth 100000
set_option maxHeartbeats 4000000
namespace VL
open PySem PySem.Spec L2
open PyProof.Rows hiding St
/-- a law at the head's heap -/
theorem lawAt {l : PySem.W.OpenLaw} {w : World} {K : PySem.W.Frag} {mg : Str → Option Value} {h : Heap} {fa : Addr} {k n : Nat} {d : Den} {x y : Str} (hfa : mg y = some (.ref fa))
    (O : ∀ base, ∃ fd, Okk l.prog w K mg base k y [x] d fd) (hd : ∀ ns : List Int, ns.length ≤ n → (∀ z ∈ ns, Builtin.Int.intBits z ≤ 1048576) → wpD (d [.val (.frz (ns.map D.int))] [] []) (fun r _ _ => r = .val (.bl true)) X0) : LamX.LawAtS l w K (L2.CX l.prog w) k n x mg fa h := by
  obtain ⟨fd, O1⟩ := O h
  have e : fa = He.ga K y := by have := hfa.symm.trans O1.m; cases this; rfl
  subst e
  refine ⟨fd, [], spOf K d, (fun p hp => nomatch hp), (fun p hp => nomatch hp), (fun p hp => nomatch hp), fun s u => O1.bt s [u] rfl, fun H a ns hl hbits _ hS => ?_, fun base _ _ _ => ?_⟩
  · have z := hd ns hl hbits
    cases e : d [.val (.frz (ns.map D.int))] [] [] with
    | stuck => rw [e] at z; exact z.elim
    | exc _ _ _ => rw [e] at z; exact z.elim
    | ok r cs g =>
      rw [e] at z
      have z' : r = .val (.bl true) := z
      subst z'
      exact spOf_law hS ⟨cs, g, e⟩
  · obtain ⟨fd', O2⟩ := O base
    obtain ⟨_, _, _, h1⟩ := O1.u
    obtain ⟨_, _, _, h2⟩ := O2.u
    have := h1.symm.trans h2
    cases this
    exact O2.F
end VL

set_option maxRecDepth 100000
set_option maxHeartbeats 4000000
namespace VL
open PySem PySem.Spec L2
open PyProof.Rows hiding St

/-! ### what is never reached -/
def eNever : M R := fun _ => .stuck
theorem se_never {X : Cx} {W : WX} {e : Expr} : PE X e (toE X.K W eNever) := ⟨fun pins s σ H Q I ⟨m, fs, x, p⟩ => p.elim⟩
def stuckDen : Den := fun _ _ _ => .stuck
theorem fnOk_stuck {P : Program} {w : World} {K : PySem.W.Frag} {mg : Str → Option Value} {base : Heap} {CX : CXT} {k : Nat} {f : Addr} {fd : FuncData} {ps : List Str} : FnOk P w K mg base CX k f fd ps (spOf K stuckDen) :=
  ⟨fun vs H Q E ⟨_, _, _, _, _, _, p⟩ => p.elim, fun A outer s H args us vs Q E _ _ _ _ ⟨_, _, _, _, _, _, p⟩ => p.elim⟩

/-! ### methods of built-in types -/
def hasT (T : String) (s : FS) (r : R) : Bool := if T = "list" then (seqL s r).isSome else if T = "dict" then (dctK s r).isSome else if T = "str" then (asS r).isSome else false
def eM (T : String) (k : List R → M R) (fo : M R) (fa : M (List R)) : M R := fun s => (fo s).bind fun o s1 => if hasT T s1 o = true then (fa s1).bind fun rs s2 => k (o :: rs) s2 else .stuck
def OpM (K : PySem.W.Frag) (r : V → List V → Hp → VK → Prop) (k : List R → M R) : Prop := ∀ (W : WX) (σ : St) (m : Mp) (s : FS) (H : Hp) (v : V) (vs : List V) (o : R) (rs : List R) (Q : VK), Rel K m σ H s → RepRs K σ H m (v :: vs) (o :: rs) → Post K W m σ (k (o :: rs) s) (RpE K σ) Q → r v vs H Q
theorem hasT_ok {K : PySem.W.Frag} {m : Mp} {σ : St} {H : Hp} {s : FS} {v : V} {r : R} {T : String} (x : Rel K m σ H s) (p : RepR K m σ H v r) (h : hasT T s r = true) : tyV K T v H := by
  unfold hasT at h
  split at h
  · rename_i e
    obtain ⟨xs, e1⟩ := Option.isSome_iff_exists.mp h
    obtain ⟨a, vs, rfl, ha, ra⟩ := seqL_ok x p e1
    exact .inl ⟨e, vs, SqL.of ha⟩
  · split at h
    · rename_i e
      obtain ⟨xs, e1⟩ := Option.isSome_iff_exists.mp h
      obtain ⟨a, vs, rfl, ha, ra⟩ := dctK_ok x p e1
      exact .inr (.inr (.inl ⟨e, .inl ⟨vs, ha⟩⟩))
    · split at h
      · rename_i e
        obtain ⟨xs, e1⟩ := Option.isSome_iff_exists.mp h
        rw [asS_ok p e1]
        exact e
      · cases h
section
variable {X : Cx} {W : WX} {o e : Expr} {es : List Expr} {fo : M R} {fa : M (List R)} {name : Str} {apos cpos : Pos} {T id : String} {r : V → List V → Hp → VK → Prop} {k : List R → M R}
theorem se_meth (pa : PlainAttrs T) (slot : Slot T name id) (hty : typeOf (.builtin id) = pure (.type "method_descriptor")) (hm : MtR X id r) (hk : OpM X.K r k) (ho : PE X o (toE X.K W fo)) (ha : PA X (e :: es) (toA X.K W fa))
    (hbase : attributeBase o name X.env (eval o X.env) = eval o X.env := by rfl)
    (hfew : ((backTo cpos (starEach (e :: es) X.env)).all (fun x => !x.1) && (backToKw cpos (keywordEach [] X.env)).all (fun x => x.1.isSome)
      && decide ((e :: es).length + ([] : List Keyword).length + (if ([] : List Keyword).isEmpty then 0 else 1) < 30)) = true := by rfl)
    (hline : (apos.endLine == cpos.line) = true := by rfl) (hs : starEach (e :: es) X.env = (false, eval e X.env) :: starEach es X.env := by rfl) (hplain : (backTo cpos (starEach es X.env)).any (·.1) = false := by rfl) :
    PE X (.Call (.Attribute o name apos) (e :: es) [] cpos) (toE X.K W (eM T k fo fa)) :=
  PE_imp (pe_bm pa slot hty hm ho ha hbase hfew hline hs hplain) fun σ H Q h => by
    show toE X.K W fo σ H fun x H1 => tyV X.K T x H1 ∧ toA X.K W fa σ H1 fun xs H2 => r x xs H2 Q
    refine one h fun m s H v ro x p q => ?_
    split at q
    · rename_i hh
      exact ⟨hasT_ok x p hh, thenA (k := fun rs s2 => k (ro :: rs) s2) (R' := fun xs H2 => r v xs H2 Q) x p q (fun _ _ _ _ => rfl) fun m s H vs rs x p q => hk W σ m s H v vs ro rs Q x p q⟩
    · exact q.elim
theorem se_meth0 (pa : PlainAttrs T) (slot : Slot T name id) (hty : typeOf (.builtin id) = pure (.type "method_descriptor")) (hm : MtR X id r) (hk : OpM X.K r k) (ho : PE X o (toE X.K W fo))
    (hbase : attributeBase o name X.env (eval o X.env) = eval o X.env := by rfl) (hline : (apos.endLine == cpos.line) = true := by rfl) :
    PE X (.Call (.Attribute o name apos) [] [] cpos) (toE X.K W (eM T k fo eNil)) :=
  PE_imp (pe_bm0 pa slot hty hm ho hbase hline) fun σ H Q h => by
    show toE X.K W fo σ H fun x H1 => tyV X.K T x H1 ∧ r x [] H1 Q
    refine one h fun m s H v ro x p q => ?_
    split at q
    · rename_i hh
      exact ⟨hasT_ok x p hh, hk W σ m s H v [] ro [] Q x ⟨p, trivial⟩ q⟩
    · exact q.elim
end
/-! lists -/
/-- o holds c now, and gives back r -/
def putOk (s : FS) (o : R) (c : C) (r : R) : Res R := match put s o c with
  | some s2 => .ok r s2
  | none => .stuck
def isTmp : R → Bool
  | .tmp _ => true
  | _ => false
def kApp : List R → M R := fun rs s => match rs with
  | [o, y] => match frzR y s with
    | some (d, s1) => match cont s1 o with
      | some (.lst xs) => if xs.length < sizeLine ∧ isTmp o = false then putOk s1 o (.lst (xs ++ [d])) (.val .non) else .stuck
      | _ => .stuck
    | none => .stuck
  | _ => .stuck
def kExt : List R → M R := fun rs s => match rs with
  | [o, y] => match cont s o, seqL s y with
    | some (.lst xs), some ys => if xs.length + ys.length ≤ sizeLine then putOk s o (.lst (xs ++ ys)) (.val .non) else .stuck
    | _, _ => .stuck
  | _ => .stuck
def kPop : List R → M R := fun rs s => match rs with
  | [o] => match cont s o with
    | some (.lst xs) => match xs[xs.length - 1]? with
      | some d => putOk s o (.lst xs.dropLast) (.val d)
      | none => .stuck
    | _ => .stuck
  | _ => .stuck
def kPopAt : List R → M R := fun rs s => match rs with
  | [o, i] => match cont s o, asI i with
    | some (.lst xs), some i => if xs.length ≤ sizeLine then (match ixN xs.length i with
      | some k => match xs[k]? with
        | some d => putOk s o (.lst (xs.eraseIdx k)) (.val d)
        | none => .stuck
      | none => .stuck) else .stuck
    | _, _ => .stuck
  | _ => .stuck
def kClr : List R → M R := fun rs s => match rs with
  | [o] => match cont s o with
    | some (.lst xs) => putOk s o (.lst []) (.val .non)
    | _ => .stuck
  | _ => .stuck
def kRev : List R → M R := fun rs s => match rs with
  | [o] => match cont s o with
    | some (.lst xs) => putOk s o (.lst xs.reverse) (.val .non)
    | _ => .stuck
  | _ => .stuck
section
variable {K : PySem.W.Frag} {W : WX} {m : Mp} {σ : St} {H : Hp} {s : FS} {Q : VK} {P : Hp} {io : Nat → Addr} {n : Nat}
theorem RepDs.dropLast : ∀ {vs : List V} {ds : List D}, RepDs K P io n vs ds → RepDs K P io n vs.dropLast ds.dropLast
  | _, _, .nil => .nil
  | _, _, .cons a .nil => .nil
  | _, _, .cons a (.cons b r) => .cons a (RepDs.dropLast (.cons b r))
theorem RepDs.erase : ∀ {vs : List V} {ds : List D} (i : Nat), RepDs K P io n vs ds → RepDs K P io n (vs.eraseIdx i) (ds.eraseIdx i)
  | _, _, _, .nil => .nil
  | _, _, 0, .cons a r => r
  | _, _, i + 1, .cons a r => .cons a (RepDs.erase i r)
theorem RepDs.rev : ∀ {vs : List V} {ds : List D}, RepDs K P io n vs ds → RepDs K P io n vs.reverse ds.reverse
  | _, _, .nil => .nil
  | _, _, .cons a r => by rw [List.reverse_cons, List.reverse_cons]; exact RepDs.append (RepDs.rev r) (.cons a .nil)
theorem cont_lst {v : V} {o : R} {xs : List D} (x : Rel K m σ H s) (p : RepR K m σ H v o) (e : cont s o = some (.lst xs)) : ∃ a vs, v = .ref a ∧ H a = some (.lst vs) ∧ RDs K m vs xs := seqL_ok x p (by unfold seqL; rw [e])
theorem putOk_ok {v : V} {o r : R} {c0 c : C} {u : HO} (x : Rel K m σ H s) (p : RepR K m σ H v o) (e0 : cont s o = some c0) (rc : RepC K m u c) (q : Post K W m σ (putOk s o c r) (RpE K σ) Q) : ∃ a, v = .ref a ∧ ∀ w, (∀ σ H, RepR K m σ H w r) → Q w (upd H a u) := by
  unfold putOk at q
  cases e : put s o c with
  | none => rw [e] at q; exact q.elim
  | some s2 =>
    rw [e] at q
    obtain ⟨a, rfl, x2⟩ := Rel.put x p e0 e rc
    exact ⟨a, rfl, fun w hw => post_val x2 q (hw _ _)⟩
theorem putOkL {us : List V} {ds : List D} {v : V} {o r : R} {c0 : C} (x : Rel K m σ H s) (p : RepR K m σ H v o) (e0 : cont s o = some c0) (rd : RDs K m us ds) (q : Post K W m σ (putOk s o (.lst ds) r) (RpE K σ) Q) : ∃ a, v = .ref a ∧ ∀ w, (∀ σ H, RepR K m σ H w r) → Q w (upd H a (.lst us)) :=
  putOk_ok (u := .lst us) (c := .lst ds) x p e0 ⟨_, rfl, rd⟩ q
theorem RepR_unlk {b v : V} {o r : R} (p : RepR K m σ H b o) (z : RepR K (lk m b o H) σ H v r) : RepR K m σ H v r := by
  cases r with
  | val d => exact RepD.mono (fun a o h => by rw [lk_P] at h; exact h) (Nat.le_of_eq lk_n) (fun k _ => by rw [lk_io]) z
  | tmp cc =>
    obtain ⟨a', e1, h1, h2, h3, o', h4, h5⟩ := z
    rw [lk_O] at h1
    rw [lk_P] at h2
    refine ⟨a', e1, h1, h2, ?_, o', h4, RepC.mono (m := lk m b o H) (m' := m) ⟨fun a o h => by rw [lk_P] at h; exact h, Nat.le_of_eq lk_n, fun k _ => by rw [lk_io]⟩ h5⟩
    cases o with
    | tmp c3 =>
      obtain ⟨b', e2, _⟩ := p
      subst e2
      have h3' : (if a' = b' then H b' else m.L a') = none := h3
      by_cases hab : a' = b'
      · rw [if_pos hab, ← hab, h4] at h3'; cases h3'
      · rw [if_neg hab] at h3'; exact h3'
    | _ => cases b <;> exact h3
  | var i => exact z
  | pc n => show _ = V.ref (m.al n); have z' : v = V.ref ((lk m b o H).al n) := z; rw [lk_al] at z'; exact z'
  | ic k j => obtain ⟨z1, z2, z3⟩ := z; rw [lk_ic] at z1; rw [lk_n] at z2; rw [lk_nc] at z3; exact ⟨z1, z2, z3⟩
theorem RepR_lk {b v : V} {o r : R} (p : RepR K m σ H b o) (z : RepR K m σ H v r) (hn : ∀ c, o = .tmp c → ∀ c', r ≠ .tmp c') : RepR K (lk m v r H) σ H b o := by
  cases o with
  | val d => exact RepD.mono (fun a o h => by rw [lk_P]; exact h) (Nat.le_of_eq lk_n.symm) (fun k _ => by rw [lk_io]) p
  | tmp c =>
    have : lk m v r H = m := by
      cases r with
      | tmp c' => exact absurd rfl (hn c rfl c')
      | _ => cases v <;> rfl
    rw [this]; exact p
  | var i => exact p
  | pc n => show _ = V.ref ((lk m v r H).al n); rw [lk_al]; exact p
  | ic k j => obtain ⟨z1, z2, z3⟩ := p; exact ⟨by rw [lk_ic]; exact z1, by rw [lk_n]; exact z2, by rw [lk_nc]; exact z3⟩
end
section
variable {K : PySem.W.Frag}
theorem n_app : OpM K rAppend kApp := by
  intro W σ m s H v vs o rs Q x p q
  match rs, vs, p, q with
  | [ry], [y], p, q =>
    simp only [kApp] at q
    cases e : frzR ry s with
    | none => rw [e] at q; exact q.elim
    | some z =>
      obtain ⟨d, s1⟩ := z
      rw [e] at q
      simp only [] at q
      cases e1 : cont s1 o with
      | none => rw [e1] at q; exact q.elim
      | some c =>
        rw [e1] at q
        cases c with
        | dct kvs => exact q.elim
        | lst xs =>
          simp only [] at q
          split at q
          · rename_i hl
            have py := RepR_unlk p.1 p.2.1
            obtain ⟨m1, l1, x1, r1, sm⟩ := py.frz x e
            have po : RepR K m1 σ H v o := (RepR_lk p.1 py fun c eo => by rw [eo] at hl; exact absurd hl.2 (by simp [isTmp])).sim sm
            obtain ⟨a, us, ea, ha, ra⟩ := cont_lst x1 po e1
            obtain ⟨b, eb, qq⟩ := putOkL x1 po e1 (RepDs.append ra (.cons r1 .nil)) (Post_mono l1 q)
            subst ea
            cases eb
            exact ⟨a, us, y, rfl, rfl, ha, by rw [ra.length]; exact hl.1, qq .non fun _ _ => .non⟩
          · exact q.elim
  | [], _, p, q => exact q.elim
  | _ :: _ :: _, _, p, q => exact q.elim
  | [_], [], p, q => exact p.2.elim
  | [_], _ :: _ :: _, p, q => exact p.2.2.elim
theorem n_ext : OpM K rExtend kExt := by
  intro W σ m s H v vs o rs Q x p q
  match rs, vs, p, q with
  | [ry], [y], p, q =>
    simp only [kExt] at q
    cases e1 : cont s o with
    | none => rw [e1] at q; exact q.elim
    | some c =>
      rw [e1] at q
      cases c with
      | dct kvs => exact q.elim
      | lst xs =>
        cases e2 : seqL s ry with
        | none => rw [e2] at q; exact q.elim
        | some ys =>
          rw [e2] at q
          simp only [] at q
          split at q
          · rename_i hl
            have py := RepR_unlk p.1 p.2.1
            obtain ⟨a, us, ea, ha, ra⟩ := cont_lst x p.1 e1
            obtain ⟨a2, us2, ea2, ha2, ra2⟩ := seqL_ok x py e2
            obtain ⟨b, eb, qq⟩ := putOkL x p.1 e1 (RepDs.append ra ra2) q
            subst ea ea2
            cases eb
            exact ⟨a, a2, us, us2, rfl, rfl, ha, ha2, by rw [ra.length, ra2.length]; exact hl, qq .non fun _ _ => .non⟩
          · exact q.elim
  | [], _, p, q => exact q.elim
  | _ :: _ :: _, _, p, q => exact q.elim
  | [_], [], p, q => exact p.2.elim
  | [_], _ :: _ :: _, p, q => exact p.2.2.elim
theorem n_pop : OpM K rPop kPop := by
  intro W σ m s H v vs o rs Q x p q
  match rs, vs, p, q with
  | [], [], p, q =>
    simp only [kPop] at q
    cases e1 : cont s o with
    | none => rw [e1] at q; exact q.elim
    | some c =>
      rw [e1] at q
      cases c with
      | dct kvs => exact q.elim
      | lst xs =>
        simp only [] at q
        cases e2 : xs[xs.length - 1]? with
        | none => rw [e2] at q; exact q.elim
        | some d =>
          rw [e2] at q
          obtain ⟨a, us, ea, ha, ra⟩ := cont_lst x p.1 e1
          obtain ⟨y, hy, ry⟩ := ra.get e2
          obtain ⟨b, eb, qq⟩ := putOkL x p.1 e1 (RepDs.dropLast ra) q
          subst ea
          cases eb
          exact ⟨a, us, y, rfl, rfl, ha, by rw [ra.length]; exact hy, qq y fun _ _ => ry⟩
  | _ :: _, _, p, q => exact q.elim
  | [], _ :: _, p, q => exact p.2.elim
theorem n_popAt : OpM K rPopAt kPopAt := by
  intro W σ m s H v vs o rs Q x p q
  match rs, vs, p, q with
  | [ry], [y], p, q =>
    simp only [kPopAt] at q
    cases e1 : cont s o with
    | none => rw [e1] at q; exact q.elim
    | some c =>
      rw [e1] at q
      cases c with
      | dct kvs => exact q.elim
      | lst xs =>
        cases e2 : asI ry with
        | none => rw [e2] at q; exact q.elim
        | some i =>
          rw [e2] at q
          simp only [] at q
          split at q
          · rename_i hl
            cases e3 : ixN xs.length i with
            | none => rw [e3] at q; exact q.elim
            | some k =>
              rw [e3] at q
              simp only [] at q
              cases e4 : xs[k]? with
              | none => rw [e4] at q; exact q.elim
              | some d =>
                rw [e4] at q
                have py := RepR_unlk p.1 p.2.1
                obtain ⟨a, us, ea, ha, ra⟩ := cont_lst x p.1 e1
                obtain ⟨y2, hy, ry2⟩ := ra.get e4
                obtain ⟨b, eb, qq⟩ := putOkL x p.1 e1 (RepDs.erase k ra) q
                have hi := ixN_seq e3
                have hz : sizeLine = 16777216 := rfl
                subst ea
                cases eb
                exact ⟨a, us, i, k, y2, rfl, by rw [asI_ok py e2], ha, by omega, by omega, by rw [ra.length]; exact hi.1, hy, qq y2 fun _ _ => ry2⟩
          · exact q.elim
  | [], _, p, q => exact q.elim
  | _ :: _ :: _, _, p, q => exact q.elim
  | [_], [], p, q => exact p.2.elim
  | [_], _ :: _ :: _, p, q => exact p.2.2.elim
theorem n_clr : OpM K rClear kClr := by
  intro W σ m s H v vs o rs Q x p q
  match rs, vs, p, q with
  | [], [], p, q =>
    simp only [kClr] at q
    cases e1 : cont s o with
    | none => rw [e1] at q; exact q.elim
    | some c =>
      rw [e1] at q
      cases c with
      | dct kvs => exact q.elim
      | lst xs =>
        obtain ⟨a, us, ea, ha, ra⟩ := cont_lst x p.1 e1
        obtain ⟨b, eb, qq⟩ := putOkL x p.1 e1 .nil q
        subst ea
        cases eb
        exact ⟨a, us, rfl, rfl, ha, qq .non fun _ _ => .non⟩
  | _ :: _, _, p, q => exact q.elim
  | [], _ :: _, p, q => exact p.2.elim
theorem n_rev : OpM K rReverse kRev := by
  intro W σ m s H v vs o rs Q x p q
  match rs, vs, p, q with
  | [], [], p, q =>
    simp only [kRev] at q
    cases e1 : cont s o with
    | none => rw [e1] at q; exact q.elim
    | some c =>
      rw [e1] at q
      cases c with
      | dct kvs => exact q.elim
      | lst xs =>
        obtain ⟨a, us, ea, ha, ra⟩ := cont_lst x p.1 e1
        obtain ⟨b, eb, qq⟩ := putOkL x p.1 e1 (RepDs.rev ra) q
        subst ea
        cases eb
        exact ⟨a, us, rfl, rfl, ha, qq .non fun _ _ => .non⟩
  | _ :: _, _, p, q => exact q.elim
  | [], _ :: _, p, q => exact p.2.elim
end
/-! plain rules -/
theorem x_has {T : String} {s : FS} {r : R} {P : Prop} (h : hasT T s r = true) (q : P) : hasT T s r = true ∧ P := ⟨h, q⟩
section
variable {Q : R → FS → Prop} {X : Ex → FS → Prop} {s : FS}
theorem w_m {T : String} {k : List R → M R} {fo : M R} {fa : M (List R)} (h : wp (fo s) (fun o s1 => hasT T s1 o = true ∧ wp (fa s1) (fun rs s2 => wp (k (o :: rs) s2) Q X) X) X) : wp (eM T k fo fa s) Q X := by
  unfold eM
  refine w_bind (wp_mono h fun o s1 ⟨h1, h2⟩ => ?_)
  rw [if_pos h1]
  exact w_bind h2
theorem w_app {o y : R} {d : D} {s1 s2 : FS} {xs : List D} (e : frzR y s = some (d, s1)) (e1 : cont s1 o = some (.lst xs)) (h : xs.length < sizeLine) (ht : isTmp o = false) (e2 : put s1 o (.lst (xs ++ [d])) = some s2) (q : Q (.val .non) s2) : wp (kApp [o, y] s) Q X := by
  simp only [kApp, e, e1, if_pos (show _ ∧ _ from ⟨h, ht⟩), putOk, e2]; exact q
theorem w_ext {o y : R} {s2 : FS} {xs ys : List D} (e1 : cont s o = some (.lst xs)) (e : seqL s y = some ys) (h : xs.length + ys.length ≤ sizeLine) (e2 : put s o (.lst (xs ++ ys)) = some s2) (q : Q (.val .non) s2) : wp (kExt [o, y] s) Q X := by
  simp only [kExt, e, e1, if_pos h, putOk, e2]; exact q
theorem w_popl {o : R} {s2 : FS} {xs : List D} {d : D} (e1 : cont s o = some (.lst xs)) (e : xs[xs.length - 1]? = some d) (e2 : put s o (.lst xs.dropLast) = some s2) (q : Q (.val d) s2) : wp (kPop [o] s) Q X := by
  simp only [kPop, e, e1, putOk, e2]; exact q
theorem w_popi {o : R} {s2 : FS} {xs : List D} {d : D} {i : Int} {k : Nat} (e1 : cont s o = some (.lst xs)) (hl : xs.length ≤ sizeLine) (ek : ixN xs.length i = some k) (e : xs[k]? = some d) (e2 : put s o (.lst (xs.eraseIdx k)) = some s2) (q : Q (.val d) s2) : wp (kPopAt [o, .val (.int i)] s) Q X := by
  simp only [kPopAt, asI, e, e1, if_pos hl, ek, putOk, e2]; exact q
theorem w_clr {o : R} {s2 : FS} {xs : List D} (e1 : cont s o = some (.lst xs)) (e2 : put s o (.lst []) = some s2) (q : Q (.val .non) s2) : wp (kClr [o] s) Q X := by
  simp only [kClr, e1, putOk, e2]; exact q
theorem w_rev {o : R} {s2 : FS} {xs : List D} (e1 : cont s o = some (.lst xs)) (e2 : put s o (.lst xs.reverse) = some s2) (q : Q (.val .non) s2) : wp (kRev [o] s) Q X := by
  simp only [kRev, e1, putOk, e2]; exact q
end
end VL

set_option maxRecDepth 100000
set_option maxHeartbeats 4000000
namespace VL
open PySem PySem.Spec L2
open PyProof.Rows hiding St
/-! ### _law_tape -/
noncomputable def b__law_tape : SM := (sSeq (sSet 1 (eLc (iAny (eVar 0)) [2] (gSet 2) mYes (eCB (k1 kAbs) (eCons (eCB (k1 kInt) (eCons (eVar 2) eNil)) eNil))))
  (sSeq (sIf (eT (eB (kEqN false) (eCB (k1 kLen) (eCons (eVar 1) eNil)) (eD (.int 0))))
  (sSet 1 (eLst (eCons (eD (.int 0)) eNil)))
  sNil)
  (sRet (eLst (eCons (eVar 1) (eCons (eD (.int 0)) (eCons (eB kIx (eVar 1) (eD (.int 0))) (eCons (eD (.int 0)) (eCons (eD (.int 0)) eNil)))))))))
noncomputable def d__law_tape : Den := mkDen 1 2 b__law_tape
/-! ### _law_pick -/
noncomputable def b__law_pick : SM := (sSeq (sSet 2 (eB kIx (eVar 0) (eD (.int 0))))
  (sSeq (sSet 3 (eB kIx (eVar 2) (eB kIx (eVar 0) (eD (.int 1)))))
  (sSeq (sSet 4 (eB kAdd (eB kIx (eVar 0) (eD (.int 3))) (eB kMul (eD (.int 61)) (eB kIx (eVar 0) (eD (.int 4))))))
  (sSeq (sIf (mAnd (eT (eB (kII pGe) (eVar 3) (eB (kII pPow) (eD (.int 10)) (eD (.int 18))))) (eT (eB (kEqN false) (eB kIx (eVar 0) (eD (.int 4))) (eD (.int 0)))))
  (sSeq (sSet 5 (eB (kII pMod) (eCB (k1 kInt) (eCons (eB kIx (eVar 0) (eD (.int 2))) eNil)) (eVar 1)))
  (sSeq (sSetIt (eVar 0) (eD (.int 2)) (eB (kII pDiv) (eB kIx (eVar 0) (eD (.int 2))) (eVar 1)))
  (sSet 6 (eB (kEqN false) (eB kIx (eVar 0) (eD (.int 2))) (eD (.int 0))))))
  (sSeq (sSet 7 (eB (kII pMod) (eCB (k1 kInt) (eCons (eB kAdd (eB kAdd (eVar 3) (eB kMul (eD (.int 7919)) (eVar 4))) (eD (.int 13))) eNil)) (eD (.int 2147483647))))
  (sSeq (sSet 7 (eB (kII pMod) (eCB (k1 kInt) (eCons (eB kMul (eVar 7) (eB kAdd (eVar 7) (eD (.int 48271)))) eNil)) (eD (.int 2147483629))))
  (sSeq (sSet 7 (eB (kII pMod) (eCB (k1 kInt) (eCons (eB kAdd (eB kMul (eVar 7) (eB kAdd (eVar 7) (eD (.int 69621)))) (eB kMul (eD (.int 31)) (eVar 4))) eNil)) (eD (.int 2147483647))))
  (sSeq (sSet 5 (eB (kII pMod) (eCB (k1 kInt) (eCons (eB (kII pDiv) (eVar 7) (eD (.int 9))) eNil)) (eVar 1)))
  (sSet 6 (eB (kEqN false) (eB (kII pMod) (eCB (k1 kInt) (eCons (eVar 4) eNil)) (eD (.int 12))) (eD (.int 11)))))))))
  (sSeq (sSetIt (eVar 0) (eD (.int 3)) (eB kAdd (eB kIx (eVar 0) (eD (.int 3))) (eD (.int 1))))
  (sSeq (sIf (eT (eVar 6))
  (sSeq (sSetIt (eVar 0) (eD (.int 3)) (eD (.int 0)))
  (sSeq (sSetIt (eVar 0) (eD (.int 1)) (eB kAdd (eB kIx (eVar 0) (eD (.int 1))) (eD (.int 1))))
  (sSeq (sIf (eT (eB (kEqN false) (eB kIx (eVar 0) (eD (.int 1))) (eCB (k1 kLen) (eCons (eVar 2) eNil))))
  (sSeq (sSetIt (eVar 0) (eD (.int 1)) (eD (.int 0)))
  (sSetIt (eVar 0) (eD (.int 4)) (eB kAdd (eB kIx (eVar 0) (eD (.int 4))) (eD (.int 1)))))
  sNil)
  (sSetIt (eVar 0) (eD (.int 2)) (eB kIx (eVar 2) (eB kIx (eVar 0) (eD (.int 1))))))))
  sNil)
  (sRet (eVar 5))))))))
noncomputable def d__law_pick : Den := mkDen 2 6 b__law_pick
/-! ### _law_size -/
noncomputable def b__law_size : SM := (sSeq (sSet 2 (eCall d__law_pick (eCons (eVar 0) (eCons (eD (.int 8)) eNil))))
  (sSeq (sSet 3 (eCB (k2 (kII pMax)) (eCons (eD (.int 1)) (eCons (eVar 1) eNil))))
  (sSeq (sIf (eT (eB (kEqN false) (eVar 2) (eD (.int 0))))
  (sRet (eVar 3))
  sNil)
  (sSeq (sIf (eT (eB (kEqN false) (eVar 2) (eD (.int 7))))
  (sRet (eB kAdd (eVar 3) (eCall d__law_pick (eCons (eVar 0) (eCons (eD (.int 999999900)) eNil)))))
  sNil)
  (sSeq (sIf (eT (eB (kEqN false) (eVar 2) (eD (.int 6))))
  (sRet (eB kAdd (eVar 3) (eCall d__law_pick (eCons (eVar 0) (eCons (eD (.int 300)) eNil)))))
  sNil)
  (sRet (eB kAdd (eB kAdd (eVar 3) (eD (.int 1))) (eCall d__law_pick (eCons (eVar 0) (eCons (eD (.int 14)) eNil))))))))))
noncomputable def d__law_size : Den := mkDen 2 2 b__law_size
/-! ### _law_wide -/
noncomputable def b__law_wide : SM := (sRet (eB (kII pMod) (eCB (k1 kInt) (eCons (eB kAdd (eB kMul (eCall d__law_pick (eCons (eVar 0) (eCons (eD (.int 32000)) eNil))) (eD (.int 32000))) (eCall d__law_pick (eCons (eVar 0) (eCons (eD (.int 32000)) eNil)))) eNil)) (eVar 1)))
noncomputable def d__law_wide : Den := mkDen 2 0 b__law_wide
/-! ### _law_circle -/
noncomputable def b__law_circle : SM := (sSeq (sSet 2 (eCB (k2 (kII pMax)) (eCons (eD (.int 1)) (eCons (eVar 1) eNil))))
  (sSeq (sSet 3 (eCall d__law_pick (eCons (eVar 0) (eCons (eD (.int 8)) eNil))))
  (sSeq (sIf (eT (eB (kEqN false) (eVar 3) (eD (.int 0))))
  (sRet (eB (kII pSub) (eD (.int 1000000000)) (eCall d__law_pick (eCons (eVar 0) (eCons (eD (.int 3)) eNil)))))
  sNil)
  (sSeq (sIf (eT (eB (kEqN false) (eVar 3) (eD (.int 1))))
  (sRet (eB kAdd (eVar 2) (eCall d__law_wide (eCons (eVar 0) (eCons (eB (kII pSub) (eD (.int 1000000001)) (eVar 2)) eNil)))))
  sNil)
  (sRet (eCall d__law_size (eCons (eVar 0) (eCons (eVar 1) eNil))))))))
noncomputable def d__law_circle : Den := mkDen 2 2 b__law_circle
/-! ### _law_place -/
noncomputable def b__law_place : SM := (sSeq (sSet 2 (eCall d__law_pick (eCons (eVar 0) (eCons (eD (.int 8)) eNil))))
  (sSeq (sIf (eT (eB (kEqN false) (eVar 2) (eD (.int 0))))
  (sRet (eD (.int 0)))
  sNil)
  (sSeq (sIf (eT (eB (kEqN false) (eVar 2) (eD (.int 1))))
  (sRet (eB (kII pSub) (eVar 1) (eD (.int 1))))
  sNil)
  (sRet (eCall d__law_wide (eCons (eVar 0) (eCons (eVar 1) eNil)))))))
noncomputable def d__law_place : Den := mkDen 2 1 b__law_place
/-! ### _law_near -/
noncomputable def b__law_near : SM := (sSeq (sSet 3 (eCall d__law_pick (eCons (eVar 0) (eCons (eD (.int 8)) eNil))))
  (sSeq (sIf (eT (eB (kII pLt) (eVar 3) (eD (.int 2))))
  (sRet (eVar 2))
  sNil)
  (sSeq (sIf (eT (eB (kEqN false) (eVar 3) (eD (.int 2))))
  (sRet (eB (kII pMod) (eCB (k1 kInt) (eCons (eB kAdd (eVar 2) (eD (.int 1))) eNil)) (eVar 1)))
  sNil)
  (sSeq (sIf (eT (eB (kEqN false) (eVar 3) (eD (.int 3))))
  (sRet (eB (kII pMod) (eCB (k1 kInt) (eCons (eB (kII pSub) (eB kAdd (eVar 2) (eVar 1)) (eD (.int 1))) eNil)) (eVar 1)))
  sNil)
  (sRet (eCall d__law_place (eCons (eVar 0) (eCons (eVar 1) eNil))))))))
noncomputable def d__law_near : Den := mkDen 3 1 b__law_near
/-! ### _law_same -/
noncomputable def b__law_same (drec : Den) : SM := (sSeq (sIf (eT (eB (kIsN false) (eVar 1) (eD .non)))
  (sRet (eB (kIsN false) (eVar 0) (eD .non)))
  sNil)
  (sSeq (sIf (eT (eB (kIsN false) (eVar 1) (eD (.bl true))))
  (sRet (eB (kIsN false) (eVar 0) (eD (.bl true))))
  sNil)
  (sSeq (sIf (eT (eB (kIsN false) (eVar 1) (eD (.bl false))))
  (sRet (eB (kIsN false) (eVar 0) (eD (.bl false))))
  sNil)
  (sSeq (sIf (eT (eIsT "int" (eVar 1)))
  (sRet (eAnd (eIsT "int" (eVar 0)) (eAnd (eNot (eIsT "bool" (eVar 0))) (eB (kEqN false) (eVar 0) (eVar 1)))))
  sNil)
  (sSeq (sIf (eT (eIsT "str" (eVar 1)))
  (sRet (eAnd (eIsT "str" (eVar 0)) (eB (kEqN false) (eVar 0) (eVar 1))))
  sNil)
  (sSeq (sIf (eT (eIsT "dict" (eVar 1)))
  sNever
  sNil)
  (sSeq (sIf (mAnd (eT (eIsT "tuple" (eVar 1))) (mNot (eT (eIsT "tuple" (eVar 0)))))
  (sRet (eD (.bl false)))
  sNil)
  (sSeq (sIf (mAnd (eT (eIsT "list" (eVar 1))) (mNot (eT (eIsT "list" (eVar 0)))))
  (sRet (eD (.bl false)))
  sNil)
  (sSeq (sIf (eT (eB (kEqN true) (eCB (k1 kLen) (eCons (eVar 0) eNil)) (eCB (k1 kLen) (eCons (eVar 1) eNil))))
  (sRet (eD (.bl false)))
  sNil)
  (sSeq (sFor (iR1 (eCons (eCB (k1 kLen) (eCons (eVar 1) eNil)) eNil)) (gSet 2)
  (sIf (mNot (eT (eCall drec (eCons (eB kIx (eVar 0) (eVar 2)) (eCons (eB kIx (eVar 1) (eVar 2)) eNil)))))
  (sRet (eD (.bl false)))
  sNil))
  (sRet (eD (.bl true)))))))))))))
noncomputable def dn__law_same : Nat → Den
  | 0 => stuckDen
  | k + 1 => mkDen 2 1 (b__law_same (dn__law_same k))
noncomputable def d__law_same : Den := dn__law_same 12
/-! ### far -/
noncomputable def b_far : SM := (sSeq (sSet 3 (eB (kII pMod) (eB (kII pSub) (eVar 2) (eVar 1)) (eVar 0)))
  (sSeq (sIf (eT (eB (kEqN false) (eVar 3) (eD (.int 0))))
  (sRet (eVar 0))
  sNil)
  (sRet (eVar 3))))
noncomputable def d_far : Den := mkDen 3 1 b_far
local macro_rules | `(tactic| wtm_at "vl") => `(tactic| first
  | with_reducible refine v_seq ?_
  | with_reducible refine v_k_next ?_
  | with_reducible refine v_k_ret ?_
  | with_reducible refine v_k_brk ?_
  | with_reducible refine v_k_cont ?_
  | with_reducible refine v_set ?_
  | with_reducible refine v_if ?_
  | with_reducible refine v_ret ?_
  | with_reducible refine v_retN ?_
  | with_reducible refine v_nil ?_
  | with_reducible refine v_brk ?_
  | with_reducible refine v_cont ?_
  | with_reducible refine v_e ?_
  | with_reducible refine v_it ?_
  | with_reducible refine v_aug ?_
  | (with_reducible refine v_sl_val ?_; try dsimp only [List.set, FS.setE, C.toD])
  | (with_reducible refine v_sl_tmp ?h ?q; (case h => with_unfolding_all exact Nat.le_of_ble_eq_true rfl); (case' q => try dsimp only [List.set, FS.setE, C.toD]))
  | (with_reducible refine v_sl_pc ?_; try dsimp only [List.set, FS.setE, C.toD])
  | (with_reducible refine v_sl_ic ?_; try dsimp only [List.set, FS.setE, C.toD])
  | (with_reducible refine' w_var_val ?h0 ?q; (case h0 => with_unfolding_all rfl))
  | (with_reducible refine' w_var_own ?h0 ?q; (case h0 => with_unfolding_all rfl))
  | (with_reducible refine' w_var_pc ?h0 ?q; (case h0 => with_unfolding_all rfl))
  | (with_reducible refine' w_var_lck ?h0 ?q; (case h0 => with_unfolding_all rfl))
  | (with_reducible refine' w_var_ic ?h0 ?q; (case h0 => with_unfolding_all rfl))
  | with_reducible refine w_d ?_
  | with_reducible refine w_bin ?_
  | with_reducible refine w_cons ?_
  | with_reducible refine w_nil ?_
  | with_reducible refine w_T ?_
  | with_reducible refine w_asB ?_
  | with_reducible refine w_add ?_
  | with_reducible refine w_sub ?_
  | with_reducible refine w_lt ?_
  | with_reducible refine w_le ?_
  | with_reducible refine w_gt ?_
  | with_reducible refine w_ge ?_
  | with_reducible refine w_eqi ?_
  | with_reducible refine w_nei ?_
  | with_reducible refine w_mod ?_ ?_
  | with_reducible refine w_div ?_ ?_ ?_
  | with_reducible refine w_pow (by decide) ?_
  | with_reducible refine w_mul ?_ ?_
  | with_reducible refine w_addI ?_
  | with_reducible refine w_max ?_
  | with_reducible refine w_min ?_
  | with_reducible refine w_un ?_
  | with_reducible refine w_neg ?_
  | (with_reducible refine' w_ixl ?h0 ?h1 ?q; (case h0 => with_unfolding_all rfl); (case h1 => with_unfolding_all rfl))
  | (with_reducible refine' w_ixl ?h ?h2 ?q; (case h => with_unfolding_all rfl); (case' h2 => with_reducible refine atI_ints ?_ ?_))
  | (with_reducible refine' w_ixt ?h0 ?q; (case h0 => with_unfolding_all rfl))
  | with_reducible refine w_mand ?_
  | with_reducible refine w_mor ?_
  | with_reducible refine w_mnot ?_
  | with_reducible refine w_yes ?_
  | with_reducible refine w_eand ?_
  | with_reducible refine w_eor ?_
  | with_reducible refine w_enot ?_
  | with_reducible refine w_eif ?_
  | with_reducible refine w_ch ?_
  | with_reducible refine w_lst ?_
  | with_reducible refine w_tup ?_
  | with_reducible refine w_dict0 ?_
  | with_reducible refine w_cb ?_
  | with_reducible refine w_k1 ?_
  | with_reducible refine w_k2 ?_
  | with_reducible refine w_abs ?_
  | with_reducible refine w_int ?_
  | with_reducible refine w_intb ?_
  | (with_reducible refine' w_lenl ?h0 ?q; (case h0 => with_unfolding_all rfl))
  | with_reducible refine w_lent ?_
  | with_reducible refine w_isT ?_
  | with_reducible refine w_eCall ?_
  | with_reducible refine w_eqb ?_
  | with_reducible refine w_eqs ?_
  | with_reducible refine i_true ?_
  | with_reducible refine i_false ?_
  | with_reducible refine i_not ?_
  | with_reducible refine i_dec (fun _ => ?_) (fun _ => ?_)
  | with_reducible refine f_next ?_
  | with_reducible refine f_val ?_
  | with_reducible refine f_tmp ?_
  | with_reducible refine f_pc ?_
  | (with_reducible refine' f_var ?h0 ?q; (case h0 => with_unfolding_all rfl))
  | (with_reducible refine' i_lt ?h0 ?q; (case h0 => with_unfolding_all rfl))
  | (with_reducible refine' i_lf ?h0 ?q; (case h0 => with_unfolding_all rfl))
  | (with_reducible refine' x_it ?h ?h2 ?q; (case h => with_unfolding_all rfl); (case h2 => (with_reducible refine' setItem_lst ?a ?b ?c; (case a => with_unfolding_all rfl); (case b => with_unfolding_all rfl); (case c => with_unfolding_all rfl))); (case' q => try dsimp only [List.set, FS.setE, C.toD, Int.reduceToNat]))
  | (with_reducible refine' x_frz ?h0 ?h1 ?q; (case h0 => with_unfolding_all rfl); (case h1 => with_unfolding_all rfl); (case' q => try dsimp only [List.set, FS.setE, C.toD]))
  | (with_reducible refine' x_call ?h0 ?h1 ?q; (case h0 => with_unfolding_all rfl); (case h1 => with_unfolding_all rfl); (case' q => try dsimp only [List.set, FS.setE, C.toD]))
  | (with_reducible refine' x_back ?h0 ?q; (case h0 => with_unfolding_all rfl); (case' q => try dsimp only [List.set, FS.setE, C.toD]))
  | (with_reducible refine' x_ty ?h0 ?q; (case h0 => with_unfolding_all rfl))
  | (with_reducible refine' x_frz1 ?h0 ?q; (case h0 => with_unfolding_all rfl); (case' q => try dsimp only [List.set, FS.setE, C.toD]))
  | with_reducible refine x_r1 ⟨?_, ?_⟩ ?_
  | with_reducible refine x_r2 ⟨?_, ?_, ?_, ?_⟩ ?_
  | with_reducible refine w_m ?_
  | (with_reducible refine' x_has ?h0 ?q; (case h0 => with_unfolding_all rfl))
  | (with_reducible refine' w_app ?h ?h1 ?h2 ?h3 ?h4 ?q; (case h => with_unfolding_all rfl); (case h1 => with_unfolding_all rfl); (case h3 => rfl); (case h4 => with_unfolding_all rfl); (case' q => try dsimp only [List.set, FS.setE, C.toD]))
  | with_reducible refine w_isT ?_
  | (with_reducible refine' w_is ?h0 ?q; (case h0 => with_unfolding_all rfl))
  | (with_reducible refine' w_call ?h0 ?q; (case h0 => with_unfolding_all rfl); (case' q => try dsimp only [List.nil_append, List.cons_append, List.length_nil, List.length_cons, Nat.reduceAdd]))
  | fail)
theorem tape_w {ns : List Int} {cs : List C} {g : List Inst} {Q X} (h : ns.length ≤ sizeLine) (q : ∀ c, TapeOk c → Q (.tmp c) cs g) : wpD (d__law_tape [.val (.frz (ns.map D.int))] cs g) Q X := by
  refine v_den rfl ?_
  unfold b__law_tape
  simp only [List.map, List.replicate, argS, List.cons_append, List.nil_append]
  wtm_at "vl"
  wtm_at "vl"
  with_reducible refine w_lc_map (mapI fun i => if i < 0 then -i else i) ?_
  with_reducible refine w_any ?_
  wtm_at "vl"
  dsimp only [anyQ, wipeE]
  refine ⟨by rw [List.length_map]; exact h, ⟨trivial, rfl⟩, fun d hd => ?_, ?_⟩
  · obtain ⟨i, _, rfl⟩ := List.mem_map.mp hd
    refine ⟨_, rfl, ?_⟩
    dsimp only [FS.setE, List.set]
    repeat' wtm_at "vl"
    exact ⟨rfl, rfl⟩
  · rw [mapI_ints]
    generalize ns.map (fun i : Int => if i < 0 then -i else i) = ms
    repeat' wtm_at "vl"
    all_goals first
      | omega
      | (simp only [List.length_map] at *; omega)
      | (refine q _ ⟨ms, _, _, _, _, rfl, ?_, ?_⟩ <;> (simp only [List.length_map] at *; omega))
      | exact q _ ⟨[0], 0, 0, 0, 0, rfl, by decide, by decide⟩
      | trace_state
theorem pick_w {c : C} {size : Int} {g : List Inst} {Q X} (hc : TapeOk c) (h1 : 0 < size) (h2 : size < 1073741824) (q : ∀ n c, 0 ≤ n → n < size → TapeOk c → Q (.val (.int n)) [c] g) : wpD (d__law_pick [.pc 0, .val (.int size)] [c] g) Q X := by
  obtain ⟨ms, p, v, k, t, rfl, hp, hp2⟩ := hc
  refine v_den rfl ?_
  unfold b__law_pick
  simp only [List.map_cons, List.map_nil, List.replicate, argS, List.cons_append, List.nil_append]
  repeat' wtm_at "vl"
  all_goals first
    | omega
    | (simp only [List.length_map] at *; omega)
    | (refine q _ _ (Int.emod_nonneg _ (by omega)) (Int.emod_lt_of_pos _ h1) ⟨ms, _, _, _, _, rfl, ?_, ?_⟩ <;> (try simp only [List.length_map] at *) <;> omega)
local macro_rules | `(tactic| wtm_at "vl") => `(tactic| first
  | with_reducible refine pick_w (by assumption) ?_ ?_ (fun _ _ _ _ _ => ?_))
theorem size_w {c : C} {count : Int} {g : List Inst} {Q X} (hc : TapeOk c) (h1 : count ≤ 100) (q : ∀ n c, 1 ≤ n → count ≤ n → n ≤ 1000000000 → TapeOk c → Q (.val (.int n)) [c] g) : wpD (d__law_size [.pc 0, .val (.int count)] [c] g) Q X := by
  refine v_den rfl ?_
  unfold b__law_size
  simp only [List.map_cons, List.map_nil, List.replicate, argS, List.cons_append, List.nil_append]
  repeat' wtm_at "vl"
  all_goals first
    | omega
    | (refine q _ _ ?_ ?_ ?_ (by assumption) <;> (repeat' split) <;> omega)
theorem wide_w {c : C} {size : Int} {g : List Inst} {Q X} (hc : TapeOk c) (h1 : 0 < size) (q : ∀ n c, 0 ≤ n → n < size → TapeOk c → Q (.val (.int n)) [c] g) : wpD (d__law_wide [.pc 0, .val (.int size)] [c] g) Q X := by
  refine v_den rfl ?_
  unfold b__law_wide
  simp only [List.map_cons, List.map_nil, List.replicate, argS, List.cons_append, List.nil_append]
  repeat' wtm_at "vl"
  all_goals first
    | omega
    | exact q _ _ (Int.emod_nonneg _ (by omega)) (Int.emod_lt_of_pos _ h1) (by assumption)
local macro_rules | `(tactic| wtm_at "vl") => `(tactic| first
  | with_reducible refine size_w (by assumption) ?_ (fun _ _ _ _ _ _ => ?_)
  | with_reducible refine wide_w (by assumption) ?_ (fun _ _ _ _ _ => ?_))
theorem circle_w {c : C} {count : Int} {g : List Inst} {Q X} (hc : TapeOk c) (h1 : count ≤ 100) (q : ∀ n c, 1 ≤ n → count ≤ n → n ≤ 1000000000 → TapeOk c → Q (.val (.int n)) [c] g) : wpD (d__law_circle [.pc 0, .val (.int count)] [c] g) Q X := by
  refine v_den rfl ?_
  unfold b__law_circle
  simp only [List.map_cons, List.map_nil, List.replicate, argS, List.cons_append, List.nil_append]
  repeat' wtm_at "vl"
  all_goals first
    | omega
    | (refine q _ _ ?_ ?_ ?_ (by assumption) <;> (repeat' split) <;> omega)
    | ((repeat' split at *) <;> first | omega | (refine q _ _ ?_ ?_ ?_ (by assumption) <;> omega))
theorem place_w {c : C} {size : Int} {g : List Inst} {Q X} (hc : TapeOk c) (h1 : 0 < size) (q : ∀ n c, 0 ≤ n → n < size → TapeOk c → Q (.val (.int n)) [c] g) : wpD (d__law_place [.pc 0, .val (.int size)] [c] g) Q X := by
  refine v_den rfl ?_
  unfold b__law_place
  simp only [List.map_cons, List.map_nil, List.replicate, argS, List.cons_append, List.nil_append]
  repeat' wtm_at "vl"
  all_goals first
    | omega
    | (refine q _ _ ?_ ?_ (by assumption) <;> omega)
local macro_rules | `(tactic| wtm_at "vl") => `(tactic| first
  | with_reducible refine place_w (by assumption) ?_ (fun _ _ _ _ _ => ?_))
theorem near_w {c : C} {size p : Int} {g : List Inst} {Q X} (hc : TapeOk c) (h1 : 0 < size) (h2 : 0 ≤ p) (h3 : p < size) (q : ∀ n c, 0 ≤ n → n < size → TapeOk c → Q (.val (.int n)) [c] g) : wpD (d__law_near [.pc 0, .val (.int size), .val (.int p)] [c] g) Q X := by
  refine v_den rfl ?_
  unfold b__law_near
  simp only [List.map_cons, List.map_nil, List.replicate, argS, List.cons_append, List.nil_append]
  repeat' wtm_at "vl"
  all_goals first
    | omega
    | (refine q _ _ ?_ ?_ (by assumption) <;> omega)
    | exact q _ _ (Int.emod_nonneg _ (by omega)) (Int.emod_lt_of_pos _ h1) (by assumption)
def farI (n s e : Int) : Int := if (e - s) % n = 0 then n else (e - s) % n
theorem far_w {n s e : Int} {cs : List C} {g : List Inst} {Q X} (h : 0 < n) (q : Q (.val (.int (farI n s e))) cs g) : wpD (d_far [.val (.int n), .val (.int s), .val (.int e)] cs g) Q X := by
  refine v_den rfl ?_
  unfold b_far
  simp only [List.map_cons, List.map_nil, List.replicate, argS, List.cons_append, List.nil_append]
  repeat' wtm_at "vl"
  all_goals first
    | omega
    | (unfold farI at q; simp only [*, if_true, if_false] at q; exact q)
end VL

set_option maxRecDepth 100000
set_option maxHeartbeats 4000000
namespace VL
open PySem PySem.Spec L2
open PyProof.Rows hiding St
local macro_rules | `(tactic| wtm_at "vl") => `(tactic| first
  | with_reducible refine v_seq ?_
  | with_reducible refine v_k_next ?_
  | with_reducible refine v_k_ret ?_
  | with_reducible refine v_k_brk ?_
  | with_reducible refine v_k_cont ?_
  | with_reducible refine v_set ?_
  | with_reducible refine v_if ?_
  | with_reducible refine v_ret ?_
  | with_reducible refine v_retN ?_
  | with_reducible refine v_nil ?_
  | with_reducible refine v_brk ?_
  | with_reducible refine v_cont ?_
  | with_reducible refine v_e ?_
  | with_reducible refine v_it ?_
  | with_reducible refine v_aug ?_
  | (with_reducible refine v_sl_val ?_; try dsimp only [List.set, FS.setE, C.toD])
  | (with_reducible refine v_sl_tmp ?h ?q; (case h => with_unfolding_all exact Nat.le_of_ble_eq_true rfl); (case' q => try dsimp only [List.set, FS.setE, C.toD]))
  | (with_reducible refine v_sl_pc ?_; try dsimp only [List.set, FS.setE, C.toD])
  | (with_reducible refine v_sl_ic ?_; try dsimp only [List.set, FS.setE, C.toD])
  | (with_reducible refine' w_var_val ?h0 ?q; (case h0 => with_unfolding_all rfl))
  | (with_reducible refine' w_var_own ?h0 ?q; (case h0 => with_unfolding_all rfl))
  | (with_reducible refine' w_var_pc ?h0 ?q; (case h0 => with_unfolding_all rfl))
  | (with_reducible refine' w_var_lck ?h0 ?q; (case h0 => with_unfolding_all rfl))
  | (with_reducible refine' w_var_ic ?h0 ?q; (case h0 => with_unfolding_all rfl))
  | with_reducible refine w_d ?_
  | with_reducible refine w_bin ?_
  | with_reducible refine w_cons ?_
  | with_reducible refine w_nil ?_
  | with_reducible refine w_T ?_
  | with_reducible refine w_asB ?_
  | with_reducible refine w_add ?_
  | with_reducible refine w_sub ?_
  | with_reducible refine w_lt ?_
  | with_reducible refine w_le ?_
  | with_reducible refine w_gt ?_
  | with_reducible refine w_ge ?_
  | with_reducible refine w_eqi ?_
  | with_reducible refine w_nei ?_
  | with_reducible refine w_mod ?_ ?_
  | with_reducible refine w_div ?_ ?_ ?_
  | with_reducible refine w_pow (by decide) ?_
  | with_reducible refine w_mul ?_ ?_
  | with_reducible refine w_addI ?_
  | with_reducible refine w_max ?_
  | with_reducible refine w_min ?_
  | with_reducible refine w_un ?_
  | with_reducible refine w_neg ?_
  | (with_reducible refine' w_ixl ?h0 ?h1 ?q; (case h0 => with_unfolding_all rfl); (case h1 => with_unfolding_all rfl))
  | (with_reducible refine' w_ixl ?h ?h2 ?q; (case h => with_unfolding_all rfl); (case' h2 => with_reducible refine atI_ints ?_ ?_))
  | (with_reducible refine' w_ixt ?h0 ?q; (case h0 => with_unfolding_all rfl))
  | with_reducible refine w_mand ?_
  | with_reducible refine w_mor ?_
  | with_reducible refine w_mnot ?_
  | with_reducible refine w_yes ?_
  | with_reducible refine w_eand ?_
  | with_reducible refine w_eor ?_
  | with_reducible refine w_enot ?_
  | with_reducible refine w_eif ?_
  | with_reducible refine w_ch ?_
  | with_reducible refine w_lst ?_
  | with_reducible refine w_tup ?_
  | with_reducible refine w_dict0 ?_
  | with_reducible refine w_cb ?_
  | with_reducible refine w_k1 ?_
  | with_reducible refine w_k2 ?_
  | with_reducible refine w_abs ?_
  | with_reducible refine w_int ?_
  | with_reducible refine w_intb ?_
  | (with_reducible refine' w_lenl ?h0 ?q; (case h0 => with_unfolding_all rfl))
  | with_reducible refine w_lent ?_
  | with_reducible refine w_isT ?_
  | with_reducible refine w_eCall ?_
  | with_reducible refine w_eqb ?_
  | with_reducible refine w_eqs ?_
  | with_reducible refine i_true ?_
  | with_reducible refine i_false ?_
  | with_reducible refine i_not ?_
  | with_reducible refine i_dec (fun _ => ?_) (fun _ => ?_)
  | with_reducible refine f_next ?_
  | with_reducible refine f_val ?_
  | with_reducible refine f_tmp ?_
  | with_reducible refine f_pc ?_
  | (with_reducible refine' f_var ?h0 ?q; (case h0 => with_unfolding_all rfl))
  | (with_reducible refine' i_lt ?h0 ?q; (case h0 => with_unfolding_all rfl))
  | (with_reducible refine' i_lf ?h0 ?q; (case h0 => with_unfolding_all rfl))
  | (with_reducible refine' x_it ?h ?h2 ?q; (case h => with_unfolding_all rfl); (case h2 => (with_reducible refine' setItem_lst ?a ?b ?c; (case a => with_unfolding_all rfl); (case b => with_unfolding_all rfl); (case c => with_unfolding_all rfl))); (case' q => try dsimp only [List.set, FS.setE, C.toD, Int.reduceToNat]))
  | (with_reducible refine' x_frz ?h0 ?h1 ?q; (case h0 => with_unfolding_all rfl); (case h1 => with_unfolding_all rfl); (case' q => try dsimp only [List.set, FS.setE, C.toD]))
  | (with_reducible refine' x_call ?h0 ?h1 ?q; (case h0 => with_unfolding_all rfl); (case h1 => with_unfolding_all rfl); (case' q => try dsimp only [List.set, FS.setE, C.toD]))
  | (with_reducible refine' x_back ?h0 ?q; (case h0 => with_unfolding_all rfl); (case' q => try dsimp only [List.set, FS.setE, C.toD]))
  | (with_reducible refine' x_ty ?h0 ?q; (case h0 => with_unfolding_all rfl))
  | (with_reducible refine' x_frz1 ?h0 ?q; (case h0 => with_unfolding_all rfl); (case' q => try dsimp only [List.set, FS.setE, C.toD]))
  | with_reducible refine x_r1 ⟨?_, ?_⟩ ?_
  | with_reducible refine x_r2 ⟨?_, ?_, ?_, ?_⟩ ?_
  | with_reducible refine w_m ?_
  | (with_reducible refine' x_has ?h0 ?q; (case h0 => with_unfolding_all rfl))
  | (with_reducible refine' w_app ?h ?h1 ?h2 ?h3 ?h4 ?q; (case h => with_unfolding_all rfl); (case h1 => with_unfolding_all rfl); (case h3 => rfl); (case h4 => with_unfolding_all rfl); (case' q => try dsimp only [List.set, FS.setE, C.toD]))
  | with_reducible refine w_isT ?_
  | (with_reducible refine' w_is ?h0 ?q; (case h0 => with_unfolding_all rfl))
  | (with_reducible refine' w_call ?h0 ?q; (case h0 => with_unfolding_all rfl); (case' q => try dsimp only [List.nil_append, List.cons_append, List.length_nil, List.length_cons, Nat.reduceAdd]))
  | fail)
def okD : Nat → D → Prop
  | 0, _ => False
  | _ + 1, .non => True
  | _ + 1, .bl _ => True
  | _ + 1, .int _ => True
  | _ + 1, .str _ => True
  | n + 1, .lst xs => xs.length ≤ sizeLine ∧ ∀ x, x ∈ xs → okD n x
  | n + 1, .tup xs => xs.length ≤ sizeLine ∧ ∀ x, x ∈ xs → okD n x
  | _, _ => False
def rdD (cs : List C) : R → Option D
  | .val d => some d
  | .pc i => match cs[i]? with
    | some c => some c.toD
    | none => none
  | _ => none
/-- a reads as the list xs -/
def LA (cs : List C) (xs : List D) (a : R) : Prop := a = .val (.lst xs) ∨ ∃ i, a = .pc i ∧ cs[i]? = some (.lst xs)
theorem LA.of {cs : List C} {xs : List D} {a : R} (h : rdD cs a = some (.lst xs)) : LA cs xs a := by
  unfold rdD at h
  split at h
  · cases h; exact .inl rfl
  · rename_i i
    split at h
    · rename_i c e
      cases c with
      | lst ys => cases h; exact .inr ⟨i, rfl, e⟩
      | dct kvs => cases h
    · cases h
  · cases h
section
variable {cs : List C} {xs : List D} {a : R} {Q : R → FS → Prop} {X : Ex → FS → Prop} {s : FS} {j : Nat}
theorem LA.var (h : LA cs xs a) (e : s.env[j]? = some (argS a)) (q : Q a s) : wp (eVar j s) Q X := by
  rcases h with rfl | ⟨i, rfl, _⟩
  · exact w_var_val e q
  · exact w_var_pc e q
theorem LA.seq (h : LA cs xs a) (e : s.pcs = cs) : seqL s a = some xs := by
  rcases h with rfl | ⟨i, rfl, h⟩
  · rfl
  · have z : cont s (.pc i) = s.pcs[i]? := rfl
    unfold seqL; rw [z, e, h]
theorem LA.ty (h : LA cs xs a) (e : s.pcs = cs) : tyD s a = some "list" := by
  rcases h with rfl | ⟨i, rfl, h⟩
  · rfl
  · have z : cont s (.pc i) = s.pcs[i]? := rfl
    unfold tyD; simp only [z, e, h]
theorem LA.isn (h : LA cs xs a) (q : Q (.val (.bl false)) s) : wp (kIsN false a (.val .non) s) Q X := by
  rcases h with rfl | ⟨i, rfl, h⟩
  · exact q
  · exact q
theorem LA.isb {b : Bool} (h : LA cs xs a) (q : Q (.val (.bl false)) s) : wp (kIsN false a (.val (.bl b)) s) Q X := by
  rcases h with rfl | ⟨i, rfl, h⟩
  · exact q
  · exact q
theorem LA.isT {T : String} {f : M R} (h : wp (f s) (fun r s1 => LA cs xs r ∧ s1.pcs = cs ∧ Q (.val (.bl (isTy "list" T))) s1) X) : wp (eIsT T f s) Q X :=
  w_isT (wp_mono h fun r s1 ⟨h1, h2, q⟩ => ⟨_, h1.ty h2, q⟩)
end
theorem same_lst {n : Nat} {xs : List D} {a b : R} {cs : List C} {g : List Inst} {Q : R → List C → List Inst → Prop} {X : Ex → List C → List Inst → Prop}
    (ih : ∀ {d : D} {Q : R → List C → List Inst → Prop} {X : Ex → List C → List Inst → Prop}, d ∈ xs → Q (.val (.bl true)) [] g → wpD (dn__law_same n [.val d, .val d] [] g) Q X) (hl : xs.length ≤ sizeLine)
    (ha : LA cs xs a) (hb : LA cs xs b) (q : Q (.val (.bl true)) cs g) : wpD (dn__law_same (n + 1) [a, b] cs g) Q X := by
  unfold dn__law_same
  refine v_den rfl ?_
  unfold b__law_same
  simp only [List.map_cons, List.map_nil, List.replicate, List.cons_append, List.nil_append]
  have hz : sizeLine = 16777216 := rfl
  repeat' first
    | (with_reducible refine ha.var ?_ ?_; (with_unfolding_all rfl))
    | (with_reducible refine hb.var ?_ ?_; (with_unfolding_all rfl))
    | with_reducible refine ha.isn ?_
    | with_reducible refine hb.isn ?_
    | with_reducible refine ha.isb ?_
    | with_reducible refine hb.isb ?_
    | (with_reducible refine w_lenl (ha.seq ?_) ?_; (with_unfolding_all rfl))
    | (with_reducible refine w_lenl (hb.seq ?_) ?_; (with_unfolding_all rfl))
    | (with_reducible refine LA.isT (cs := cs) (xs := xs) ?_)
    | exact absurd rfl (by assumption)
    | (refine ⟨ha, rfl, ?_⟩)
    | (refine ⟨hb, rfl, ?_⟩)
    | wtm_at "vl"
  with_reducible refine v_for ?_
  with_reducible refine w_r1 ?_
  repeat' first
    | (with_reducible refine ha.var ?_ ?_; (with_unfolding_all rfl))
    | (with_reducible refine hb.var ?_ ?_; (with_unfolding_all rfl))
    | (with_reducible refine w_lenl (ha.seq ?_) ?_; (with_unfolding_all rfl))
    | (with_reducible refine w_lenl (hb.seq ?_) ?_; (with_unfolding_all rfl))
    | omega
    | wtm_at "vl"
  refine ⟨fun i s => ∃ z, s = ⟨[argS a, argS b, z], cs, g⟩, ⟨_, rfl⟩, fun i d s hd ⟨z, e⟩ => ?_, fun s ⟨z, e⟩ => ?_⟩
  · subst e
    obtain ⟨hi, rfl⟩ := rgD_get hd
    refine ⟨trivial, _, rfl, ?_⟩
    dsimp only [FS.setE, List.set]
    have hi' : (i : Int) < xs.length := by have := Int.toNat_natCast xs.length; omega
    have hx : atI xs (0 + (i : Int)) = some (xs[i]'(by omega)) := by
      rw [Int.zero_add, atI_nat' (by omega) hi']; simp
    repeat' first
      | (with_reducible refine w_ixl (ha.seq ?_) hx ?_; (with_unfolding_all rfl))
      | (with_reducible refine w_ixl (hb.seq ?_) hx ?_; (with_unfolding_all rfl))
      | (with_reducible refine ih (List.getElem_mem _) ?_)
      | (with_reducible refine ha.var ?_ ?_; (with_unfolding_all rfl))
      | (with_reducible refine hb.var ?_ ?_; (with_unfolding_all rfl))
      | (with_reducible refine w_lenl (ha.seq ?_) ?_; (with_unfolding_all rfl))
      | (with_reducible refine w_lenl (hb.seq ?_) ?_; (with_unfolding_all rfl))
      | wtm_at "vl"
    exact ⟨_, rfl⟩
  · subst e
    refine ⟨trivial, ?_⟩
    repeat' wtm_at "vl"
    exact q
theorem same_tup {n : Nat} {xs : List D} {cs : List C} {g : List Inst} {Q : R → List C → List Inst → Prop} {X : Ex → List C → List Inst → Prop}
    (ih : ∀ {d : D} {Q : R → List C → List Inst → Prop} {X : Ex → List C → List Inst → Prop}, d ∈ xs → Q (.val (.bl true)) [] g → wpD (dn__law_same n [.val d, .val d] [] g) Q X) (hl : xs.length ≤ sizeLine)
    (q : Q (.val (.bl true)) cs g) : wpD (dn__law_same (n + 1) [.val (.tup xs), .val (.tup xs)] cs g) Q X := by
  unfold dn__law_same
  refine v_den rfl ?_
  unfold b__law_same
  simp only [List.map_cons, List.map_nil, List.replicate, argS, List.cons_append, List.nil_append]
  have hz : sizeLine = 16777216 := rfl
  repeat' first
    | wtm_at "vl"
  · rename_i h
    exact absurd rfl h
  with_reducible refine v_for ?_
  with_reducible refine w_r1 ?_
  repeat' first
    | omega
    | wtm_at "vl"
  refine ⟨fun i s => ∃ z, s = ⟨[.val (.tup xs), .val (.tup xs), z], cs, g⟩, ⟨_, rfl⟩, fun i d s hd ⟨z, e⟩ => ?_, fun s ⟨z, e⟩ => ?_⟩
  · subst e
    obtain ⟨hi, rfl⟩ := rgD_get hd
    refine ⟨trivial, _, rfl, ?_⟩
    dsimp only [FS.setE, List.set]
    have hi' : (i : Int) < xs.length := by have := Int.toNat_natCast xs.length; omega
    have hx : atI xs (0 + (i : Int)) = some (xs[i]'(by omega)) := by
      rw [Int.zero_add, atI_nat' (by omega) hi']; simp
    repeat' first
      | with_reducible refine w_ixt hx ?_
      | (with_reducible refine ih (List.getElem_mem _) ?_)
      | wtm_at "vl"
    exact ⟨_, rfl⟩
  · subst e
    refine ⟨trivial, ?_⟩
    repeat' wtm_at "vl"
    exact q
theorem same_w {a b : R} {cs : List C} {g : List Inst} {Q : R → List C → List Inst → Prop} {X : Ex → List C → List Inst → Prop} : ∀ {n : Nat} {d : D}, okD n d → rdD cs a = some d → rdD cs b = some d → Q (.val (.bl true)) cs g → wpD (dn__law_same n [a, b] cs g) Q X := by
  intro n
  induction n generalizing a b cs Q X with
  | zero => intro d h; cases d <;> exact h.elim
  | succ n ih =>
    intro d h h1 h2 q
    have plain : (∀ xs, d ≠ .lst xs) → (∀ kvs, d ≠ .dct kvs) → ∀ {r : R}, rdD cs r = some d → r = .val d := fun n1 n2 r h => by
      unfold rdD at h
      split at h
      · cases h; rfl
      · split at h
        · rename_i c _
          cases c with
          | lst xs => cases h; exact absurd rfl (n1 _)
          | dct xs => cases h; exact absurd rfl (n2 _)
        · cases h
      · cases h
    cases d with
    | lst xs => exact same_lst (fun {d Q X} hd q => ih (h.2 d hd) rfl rfl q) h.1 (LA.of h1) (LA.of h2) q
    | tup xs =>
      rw [plain (fun _ z => nomatch z) (fun _ z => nomatch z) h1, plain (fun _ z => nomatch z) (fun _ z => nomatch z) h2]
      exact same_tup (fun {d Q X} hd q => ih (h.2 d hd) rfl rfl q) h.1 q
    | dct xs => exact h.elim
    | frz xs => exact h.elim
    | ins k => exact h.elim
    | non =>
      rw [plain (fun _ z => nomatch z) (fun _ z => nomatch z) h1, plain (fun _ z => nomatch z) (fun _ z => nomatch z) h2]
      unfold dn__law_same
      refine v_den rfl ?_
      unfold b__law_same
      simp only [List.map_cons, List.map_nil, List.replicate, argS, List.cons_append, List.nil_append]
      repeat' first
        | wtm_at "vl"
      exact q
    | bl b =>
      rw [plain (fun _ z => nomatch z) (fun _ z => nomatch z) h1, plain (fun _ z => nomatch z) (fun _ z => nomatch z) h2]
      unfold dn__law_same
      refine v_den rfl ?_
      unfold b__law_same
      simp only [List.map_cons, List.map_nil, List.replicate, argS, List.cons_append, List.nil_append]
      cases b <;> (repeat' first
        | wtm_at "vl") <;> exact q
    | int i =>
      rw [plain (fun _ z => nomatch z) (fun _ z => nomatch z) h1, plain (fun _ z => nomatch z) (fun _ z => nomatch z) h2]
      unfold dn__law_same
      refine v_den rfl ?_
      unfold b__law_same
      simp only [List.map_cons, List.map_nil, List.replicate, argS, List.cons_append, List.nil_append]
      repeat' first
        | wtm_at "vl"
      rw [decide_eq_true rfl]
      exact q
    | str i =>
      rw [plain (fun _ z => nomatch z) (fun _ z => nomatch z) h1, plain (fun _ z => nomatch z) (fun _ z => nomatch z) h2]
      unfold dn__law_same
      refine v_den rfl ?_
      unfold b__law_same
      simp only [List.map_cons, List.map_nil, List.replicate, argS, List.cons_append, List.nil_append]
      repeat' first
        | wtm_at "vl"
      rw [decide_eq_true rfl]
      exact q
theorem same_d {a b : R} {d : D} {cs : List C} {g : List Inst} {Q : R → List C → List Inst → Prop} {X : Ex → List C → List Inst → Prop} (h : okD 12 d) (h1 : rdD cs a = some d) (h2 : rdD cs b = some d) (q : Q (.val (.bl true)) cs g) : wpD (d__law_same [a, b] cs g) Q X := same_w h h1 h2 q
end VL

set_option maxRecDepth 100000
set_option maxHeartbeats 8000000
namespace Lk05
open PySem PySem.Spec L2 VL
open PyProof.Rows hiding St
def fn : List He.DefD := [⟨("_law_tape", none), "_law_tape", "_law_tape", defArgs (PySem.Challenge.pw_ringlaps_k05_count_orders.main.body.getD 3 (.Pass ⟨0, 0, 0, 0⟩)), defBody (PySem.Challenge.pw_ringlaps_k05_count_orders.main.body.getD 3 (.Pass ⟨0, 0, 0, 0⟩)), defScope (PySem.Challenge.pw_ringlaps_k05_count_orders.main.body.getD 3 (.Pass ⟨0, 0, 0, 0⟩)), [], []⟩,
  ⟨("_law_pick", none), "_law_pick", "_law_pick", defArgs (PySem.Challenge.pw_ringlaps_k05_count_orders.main.body.getD 4 (.Pass ⟨0, 0, 0, 0⟩)), defBody (PySem.Challenge.pw_ringlaps_k05_count_orders.main.body.getD 4 (.Pass ⟨0, 0, 0, 0⟩)), defScope (PySem.Challenge.pw_ringlaps_k05_count_orders.main.body.getD 4 (.Pass ⟨0, 0, 0, 0⟩)), [], []⟩,
  ⟨("_law_same", none), "_law_same", "_law_same", defArgs (PySem.Challenge.pw_ringlaps_k05_count_orders.main.body.getD 5 (.Pass ⟨0, 0, 0, 0⟩)), defBody (PySem.Challenge.pw_ringlaps_k05_count_orders.main.body.getD 5 (.Pass ⟨0, 0, 0, 0⟩)), defScope (PySem.Challenge.pw_ringlaps_k05_count_orders.main.body.getD 5 (.Pass ⟨0, 0, 0, 0⟩)), [], []⟩,
  ⟨("count_orders", none), "count_orders", "count_orders", defArgs (PySem.Challenge.pw_ringlaps_k05_count_orders.main.body.getD 1 (.Pass ⟨0, 0, 0, 0⟩)), defBody (PySem.Challenge.pw_ringlaps_k05_count_orders.main.body.getD 1 (.Pass ⟨0, 0, 0, 0⟩)), defScope (PySem.Challenge.pw_ringlaps_k05_count_orders.main.body.getD 1 (.Pass ⟨0, 0, 0, 0⟩)), [], []⟩,
  ⟨("_law_product", none), "_law_product", "_law_product", defArgs (PySem.Challenge.pw_ringlaps_k05_count_orders.main.body.getD 9 (.Pass ⟨0, 0, 0, 0⟩)), defBody (PySem.Challenge.pw_ringlaps_k05_count_orders.main.body.getD 9 (.Pass ⟨0, 0, 0, 0⟩)), defScope (PySem.Challenge.pw_ringlaps_k05_count_orders.main.body.getD 9 (.Pass ⟨0, 0, 0, 0⟩)), [], []⟩,
  ⟨("_law_wide", none), "_law_wide", "_law_wide", defArgs (PySem.Challenge.pw_ringlaps_k05_count_orders.main.body.getD 6 (.Pass ⟨0, 0, 0, 0⟩)), defBody (PySem.Challenge.pw_ringlaps_k05_count_orders.main.body.getD 6 (.Pass ⟨0, 0, 0, 0⟩)), defScope (PySem.Challenge.pw_ringlaps_k05_count_orders.main.body.getD 6 (.Pass ⟨0, 0, 0, 0⟩)), [], []⟩,
  ⟨("_law_power", none), "_law_power", "_law_power", defArgs (PySem.Challenge.pw_ringlaps_k05_count_orders.main.body.getD 7 (.Pass ⟨0, 0, 0, 0⟩)), defBody (PySem.Challenge.pw_ringlaps_k05_count_orders.main.body.getD 7 (.Pass ⟨0, 0, 0, 0⟩)), defScope (PySem.Challenge.pw_ringlaps_k05_count_orders.main.body.getD 7 (.Pass ⟨0, 0, 0, 0⟩)), [], []⟩,
  ⟨("_law_count", none), "_law_count", "_law_count", defArgs (PySem.Challenge.pw_ringlaps_k05_count_orders.main.body.getD 8 (.Pass ⟨0, 0, 0, 0⟩)), defBody (PySem.Challenge.pw_ringlaps_k05_count_orders.main.body.getD 8 (.Pass ⟨0, 0, 0, 0⟩)), defScope (PySem.Challenge.pw_ringlaps_k05_count_orders.main.body.getD 8 (.Pass ⟨0, 0, 0, 0⟩)), [], []⟩,
  ⟨("law", none), "law", "law", defArgs (PySem.Challenge.pw_ringlaps_k05_count_orders.main.body.getD 10 (.Pass ⟨0, 0, 0, 0⟩)), defBody (PySem.Challenge.pw_ringlaps_k05_count_orders.main.body.getD 10 (.Pass ⟨0, 0, 0, 0⟩)), defScope (PySem.Challenge.pw_ringlaps_k05_count_orders.main.body.getD 10 (.Pass ⟨0, 0, 0, 0⟩)), [], []⟩]
def fa : List He.Fa := [.free "int", .free "abs", .free "len", .glo "_law_tape", .glo "_law_pick", .free "isinstance", .free "bool", .free "str", .free "dict", .free "tuple", .free "list", .free "range", .glo "_law_same", .glo "count_orders", .glo "_law_product", .glo "_law_wide", .glo "_law_power", .free "max", .glo "_law_count", .glo "law"]
section
variable {P : Program} {w : World} {K : PySem.W.Frag} {mg : Str → Option Value} {base : Heap}
/-! ### _law_tape -/
abbrev st__law_tape : Stmt := PySem.Challenge.pw_ringlaps_k05_count_orders.main.body.getD 3 (.Pass ⟨0, 0, 0, 0⟩)
theorem sc__law_tape : FnScope ["script", "cells", "cell"] ["script"] (defScope st__law_tape) := ⟨rfl, rfl, rfl, by decide +kernel, rfl, by decide +kernel, by decide +kernel⟩
theorem ok__law_tape (T : Tp fa fn K mg) : ∃ fd, Okk P w K mg base 1 "_law_tape" ["script"] d__law_tape fd := by
  obtain ⟨fd, (F : FunD K "_law_tape" "_law_tape" (defArgs st__law_tape) (defBody st__law_tape) (defScope st__law_tape) [] [] (He.ga K "_law_tape") fd)⟩ := T.c.def_ 0 rfl
  refine ⟨fd, ⟨fn_rule (b := b__law_tape) (n := 1) (l := 2) F sc__law_tape rfl rfl (fun cdv A outer s H E hr tk hp => ?_), F.bindsN (ps := ["script"]) (fun _ _ _ _ _ _ us hl => match us, hl with | [_], _ => rfl), T.glo "_law_tape" 3, F.kp, fun s us hl => F.bindsA (fun _ _ _ _ _ _ us hl => match us, hl with | [_], _ => rfl) s us hl, fun_at F⟩⟩
  exact (ss_cons (ss_setLc (i := 1) rfl sc__law_tape.nd rfl rfl (sw_true (by rfl) (by rfl) (by rfl) (by rfl)) (pi_any (se_var 0)) src_any (blkOk_by (own := [("cell", 2)]) (by show blkC ["script", "cells", "cell"] (defScope st__law_tape) _ _ = true; decide +kernel)) (fun _ _ _ _ _ => pg_name (i := 2) sc__law_tape.nd rfl (by first | exact Or.inl rfl | exact Or.inr rfl)) (tgc_name (i := 2) (by decide)) (fun _ _ _ _ _ => sts_nil) (fun _ _ _ _ _ => (se_callB call_abs n_abs (by rfl) (T.free "abs" 1) (by decide +kernel) (sa_cons (se_callTy call_int1 n_int (by rfl) (T.free "int" 0) (by decide +kernel) (sa_cons (se_var 2) sa_nil)) sa_nil))))
  (ss_cons (ss_if (st_cmp (op_eq3 hr.units) o2_eq (se_callB call_len4 n_len (by rfl) (T.free "len" 2) (by decide +kernel) (sa_cons (se_var 1) sa_nil)) se_int (nomark _))
  (ss_one (ss_set (i := 1) sc__law_tape.nd rfl (by first | exact Or.inl rfl | exact Or.inr rfl) (se_lst (sa_cons se_int sa_nil))))
  ss_nil)
  (ss_one (ss_ret (se_lst (sa_cons (se_var 1) (sa_cons se_int (sa_cons (se_ix ix_any o2_ix (se_var 1) se_int (fun _ _ => rfl)) (sa_cons se_int (sa_cons se_int sa_nil))))))))))
/-! ### _law_pick -/
abbrev st__law_pick : Stmt := PySem.Challenge.pw_ringlaps_k05_count_orders.main.body.getD 4 (.Pass ⟨0, 0, 0, 0⟩)
theorem sc__law_pick : FnScope ["tape", "size", "cells", "cell", "k", "number", "used", "mixed"] ["tape", "size"] (defScope st__law_pick) := ⟨rfl, rfl, rfl, by decide +kernel, rfl, by decide +kernel, by decide +kernel⟩
theorem ok__law_pick (T : Tp fa fn K mg) : ∃ fd, Okk P w K mg base 1 "_law_pick" ["tape", "size"] d__law_pick fd := by
  obtain ⟨fd, (F : FunD K "_law_pick" "_law_pick" (defArgs st__law_pick) (defBody st__law_pick) (defScope st__law_pick) [] [] (He.ga K "_law_pick") fd)⟩ := T.c.def_ 1 rfl
  refine ⟨fd, ⟨fn_rule (b := b__law_pick) (n := 2) (l := 6) F sc__law_pick rfl rfl (fun cdv A outer s H E hr tk hp => ?_), F.bindsN (ps := ["tape", "size"]) (fun _ _ _ _ _ _ us hl => match us, hl with | [_, _], _ => rfl), T.glo "_law_pick" 4, F.kp, fun s us hl => F.bindsA (fun _ _ _ _ _ _ us hl => match us, hl with | [_, _], _ => rfl) s us hl, fun_at F⟩⟩
  exact (ss_cons (ss_set (i := 2) sc__law_pick.nd rfl (by first | exact Or.inl rfl | exact Or.inr rfl) (se_ix ix_any o2_ix (se_var 0) se_int (fun _ _ => rfl)))
  (ss_cons (ss_set (i := 3) sc__law_pick.nd rfl (by first | exact Or.inl rfl | exact Or.inr rfl) (se_ix ix_any o2_ix (se_var 2) (se_ix ix_any o2_ix (se_var 0) se_int (fun _ _ => rfl)) (fun _ _ => rfl)))
  (ss_cons (ss_set (i := 4) sc__law_pick.nd rfl (by first | exact Or.inl rfl | exact Or.inr rfl) (se_bin op_add3 o2_add (se_ix ix_any o2_ix (se_var 0) se_int (fun _ _ => rfl)) (se_bin op_mul2 o2_mul se_int (se_ix ix_any o2_ix (se_var 0) se_int (fun _ _ => rfl)))))
  (ss_cons (ss_if (PW.pt (sw_and (st_cmp op_ge o2_ge (se_var 3) (se_bin op_pow o2_pow se_int se_int) (nomark _)) (sw_and1 (st_cmp (op_eq3 hr.units) o2_eq (se_ix ix_any o2_ix (se_var 0) se_int (fun _ _ => rfl)) se_int (nomark _)))))
  (ss_cons (ss_set (i := 5) sc__law_pick.nd rfl (by first | exact Or.inl rfl | exact Or.inr rfl) (se_bin op_mod o2_mod (se_callTy call_int1 n_int (by rfl) (T.free "int" 0) (by decide +kernel) (sa_cons (se_ix ix_any o2_ix (se_var 0) se_int (fun _ _ => rfl)) sa_nil)) (se_var 1)))
  (ss_cons (ss_setitem (hu_of hr) (se_var 0) se_int (se_bin op_fdiv o2_div (se_ix ix_any o2_ix (se_var 0) se_int (fun _ _ => rfl)) (se_var 1)))
  (ss_one (ss_set (i := 6) sc__law_pick.nd rfl (by first | exact Or.inl rfl | exact Or.inr rfl) (se_cmp (op_eq3 hr.units) o2_eq (se_ix ix_any o2_ix (se_var 0) se_int (fun _ _ => rfl)) se_int (nomark _))))))
  (ss_cons (ss_set (i := 7) sc__law_pick.nd rfl (by first | exact Or.inl rfl | exact Or.inr rfl) (se_bin op_mod o2_mod (se_callTy call_int1 n_int (by rfl) (T.free "int" 0) (by decide +kernel) (sa_cons (se_bin op_add3 o2_add (se_bin op_add3 o2_add (se_var 3) (se_bin op_mul2 o2_mul se_int (se_var 4))) se_int) sa_nil)) se_int))
  (ss_cons (ss_set (i := 7) sc__law_pick.nd rfl (by first | exact Or.inl rfl | exact Or.inr rfl) (se_bin op_mod o2_mod (se_callTy call_int1 n_int (by rfl) (T.free "int" 0) (by decide +kernel) (sa_cons (se_bin op_mul2 o2_mul (se_var 7) (se_bin op_add3 o2_add (se_var 7) se_int)) sa_nil)) se_int))
  (ss_cons (ss_set (i := 7) sc__law_pick.nd rfl (by first | exact Or.inl rfl | exact Or.inr rfl) (se_bin op_mod o2_mod (se_callTy call_int1 n_int (by rfl) (T.free "int" 0) (by decide +kernel) (sa_cons (se_bin op_add3 o2_add (se_bin op_mul2 o2_mul (se_var 7) (se_bin op_add3 o2_add (se_var 7) se_int)) (se_bin op_mul2 o2_mul se_int (se_var 4))) sa_nil)) se_int))
  (ss_cons (ss_set (i := 5) sc__law_pick.nd rfl (by first | exact Or.inl rfl | exact Or.inr rfl) (se_bin op_mod o2_mod (se_callTy call_int1 n_int (by rfl) (T.free "int" 0) (by decide +kernel) (sa_cons (se_bin op_fdiv o2_div (se_var 7) se_int) sa_nil)) (se_var 1)))
  (ss_one (ss_set (i := 6) sc__law_pick.nd rfl (by first | exact Or.inl rfl | exact Or.inr rfl) (se_cmp (op_eq3 hr.units) o2_eq (se_bin op_mod o2_mod (se_callTy call_int1 n_int (by rfl) (T.free "int" 0) (by decide +kernel) (sa_cons (se_var 4) sa_nil)) se_int) se_int (nomark _)))))))))
  (ss_cons (ss_setitem (hu_of hr) (se_var 0) se_int (se_bin op_add3 o2_add (se_ix ix_any o2_ix (se_var 0) se_int (fun _ _ => rfl)) se_int))
  (ss_cons (ss_if (st_val (se_var 6))
  (ss_cons (ss_setitem (hu_of hr) (se_var 0) se_int se_int)
  (ss_cons (ss_setitem (hu_of hr) (se_var 0) se_int (se_bin op_add3 o2_add (se_ix ix_any o2_ix (se_var 0) se_int (fun _ _ => rfl)) se_int))
  (ss_cons (ss_if (st_cmp (op_eq3 hr.units) o2_eq (se_ix ix_any o2_ix (se_var 0) se_int (fun _ _ => rfl)) (se_callB call_len4 n_len (by rfl) (T.free "len" 2) (by decide +kernel) (sa_cons (se_var 2) sa_nil)) (nomark _))
  (ss_cons (ss_setitem (hu_of hr) (se_var 0) se_int se_int)
  (ss_one (ss_setitem (hu_of hr) (se_var 0) se_int (se_bin op_add3 o2_add (se_ix ix_any o2_ix (se_var 0) se_int (fun _ _ => rfl)) se_int))))
  ss_nil)
  (ss_one (ss_setitem (hu_of hr) (se_var 0) se_int (se_ix ix_any o2_ix (se_var 2) (se_ix ix_any o2_ix (se_var 0) se_int (fun _ _ => rfl)) (fun _ _ => rfl)))))))
  ss_nil)
  (ss_one (ss_ret (se_var 5)))))))))
/-! ### _law_same -/
abbrev st__law_same : Stmt := PySem.Challenge.pw_ringlaps_k05_count_orders.main.body.getD 5 (.Pass ⟨0, 0, 0, 0⟩)
theorem sc__law_same : FnScope ["actual", "due", "k"] ["actual", "due"] (defScope st__law_same) := ⟨rfl, rfl, rfl, by decide +kernel, rfl, by decide +kernel, by decide +kernel⟩
theorem ok__law_same (T : Tp fa fn K mg) : ∃ fd, Okk P w K mg base 12 "_law_same" ["actual", "due"] d__law_same fd := by
  obtain ⟨fd, (F : FunD K "_law_same" "_law_same" (defArgs st__law_same) (defBody st__law_same) (defScope st__law_same) [] [] (He.ga K "_law_same") fd)⟩ := T.c.def_ 2 rfl
  have main : ∀ k, Okk P w K mg base k "_law_same" ["actual", "due"] (dn__law_same k) fd := by
    intro k
    induction k with
    | zero => exact ⟨fnOk_stuck, F.bindsN (ps := ["actual", "due"]) (fun _ _ _ _ _ _ us hl => match us, hl with | [_, _], _ => rfl), T.glo "_law_same" 12, F.kp, fun s us hl => F.bindsA (fun _ _ _ _ _ _ us hl => match us, hl with | [_, _], _ => rfl) s us hl, fun_at F⟩
    | succ k ih =>
      refine ⟨fn_rule (b := b__law_same (dn__law_same k)) (n := 2) (l := 1) F sc__law_same rfl rfl (fun cdv A outer s H E hr tk hp => ?_), F.bindsN (ps := ["actual", "due"]) (fun _ _ _ _ _ _ us hl => match us, hl with | [_, _], _ => rfl), T.glo "_law_same" 12, F.kp, fun s us hl => F.bindsA (fun _ _ _ _ _ _ us hl => match us, hl with | [_, _], _ => rfl) s us hl, fun_at F⟩
      exact (ss_cons (ss_if (st_cmp op_is3 o2_is (se_var 1) se_non (nomark _))
  (ss_one (ss_ret (se_cmp op_is3 o2_is (se_var 0) se_non (nomark _))))
  ss_nil)
  (ss_cons (ss_if (st_cmp op_is3 o2_is (se_var 1) se_bl (nomark _))
  (ss_one (ss_ret (se_cmp op_is3 o2_is (se_var 0) se_bl (nomark _))))
  ss_nil)
  (ss_cons (ss_if (st_cmp op_is3 o2_is (se_var 1) se_bl (nomark _))
  (ss_one (ss_ret (se_cmp op_is3 o2_is (se_var 0) se_bl (nomark _))))
  ss_nil)
  (ss_cons (ss_if (st_val (se_isT (T := "int") (by decide) (by rfl) (T.free "isinstance" 5) (by rfl) (T.free "int" 0) (by decide +kernel) (se_var 1)))
  (ss_one (ss_ret (se_and (se_isT (T := "int") (by decide) (by rfl) (T.free "isinstance" 5) (by rfl) (T.free "int" 0) (by decide +kernel) (se_var 0)) (se_and (se_not (se_isT (T := "bool") (by decide) (by rfl) (T.free "isinstance" 5) (by rfl) (T.free "bool" 6) (by decide +kernel) (se_var 0))) (se_one (se_cmp (op_eq3 hr.units) o2_eq (se_var 0) (se_var 1) (nomark _)))))))
  ss_nil)
  (ss_cons (ss_if (st_val (se_isT (T := "str") (by decide) (by rfl) (T.free "isinstance" 5) (by rfl) (T.free "str" 7) (by decide +kernel) (se_var 1)))
  (ss_one (ss_ret (se_and (se_isT (T := "str") (by decide) (by rfl) (T.free "isinstance" 5) (by rfl) (T.free "str" 7) (by decide +kernel) (se_var 0)) (se_one (se_cmp (op_eq3 hr.units) o2_eq (se_var 0) (se_var 1) (nomark _))))))
  ss_nil)
  (ss_cons (ss_if (st_val (se_isT (T := "dict") (by decide) (by rfl) (T.free "isinstance" 5) (by rfl) (T.free "dict" 8) (by decide +kernel) (se_var 1)))
  (ss_one ss_never)
  ss_nil)
  (ss_cons (ss_if (PW.pt (sw_and (st_val (se_isT (T := "tuple") (by decide) (by rfl) (T.free "isinstance" 5) (by rfl) (T.free "tuple" 9) (by decide +kernel) (se_var 1))) (sw_and1 (st_not (st_val (se_isT (T := "tuple") (by decide) (by rfl) (T.free "isinstance" 5) (by rfl) (T.free "tuple" 9) (by decide +kernel) (se_var 0)))))))
  (ss_one (ss_ret se_bl))
  ss_nil)
  (ss_cons (ss_if (PW.pt (sw_and (st_val (se_isT (T := "list") (by decide) (by rfl) (T.free "isinstance" 5) (by rfl) (T.free "list" 10) (by decide +kernel) (se_var 1))) (sw_and1 (st_not (st_val (se_isT (T := "list") (by decide) (by rfl) (T.free "isinstance" 5) (by rfl) (T.free "list" 10) (by decide +kernel) (se_var 0)))))))
  (ss_one (ss_ret se_bl))
  ss_nil)
  (ss_cons (ss_if (st_cmp (op_ne3 hr.units) o2_ne (se_callB call_len4 n_len (by rfl) (T.free "len" 2) (by decide +kernel) (sa_cons (se_var 0) sa_nil)) (se_callB call_len4 n_len (by rfl) (T.free "len" 2) (by decide +kernel) (sa_cons (se_var 1) sa_nil)) (nomark _))
  (ss_one (ss_ret se_bl))
  ss_nil)
  (ss_cons (ss_for hp rfl (pi_range1 (by rfl) (T.free "range" 11) (sa_cons (se_callB call_len4 n_len (by rfl) (T.free "len" 2) (by decide +kernel) (sa_cons (se_var 1) sa_nil)) sa_nil)) src_r1 (pg_name (i := 2) sc__law_same.nd rfl (by first | exact Or.inl rfl | exact Or.inr rfl)) tg_name
  (ss_one (ss_if (st_not (st_val (se_callO ih hr (by rfl) tk (sa_cons (se_ix ix_any o2_ix (se_var 0) (se_var 2) (fun _ _ => rfl)) (sa_cons (se_ix ix_any o2_ix (se_var 1) (se_var 2) (fun _ _ => rfl)) sa_nil)))))
  (ss_one (ss_ret se_bl))
  ss_nil)))
  (ss_one (ss_ret se_bl))))))))))))
  exact ⟨fd, main 12⟩
/-! ### count_orders -/
noncomputable def b_count_orders : SM := (sSeq (sIf (mOr (eT (eB (kII pLt) (eVar 0) (eD (.int 1)))) (mOr (eT (eB (kII pLt) (eVar 1) (eD (.int 1)))) (eT (eB (kII pGt) (eVar 1) (eVar 0)))))
  (sRet (eD (.int 0)))
  sNil)
  (sSeq (sSet 2 (eLst (eCons (eD (.int 0)) (eCons (eD (.int 1)) eNil))))
  (sSeq (sFor (iR2 (eCons (eD (.int 2)) (eCons (eB kAdd (eVar 0) (eD (.int 1))) eNil))) (gSet 3)
  (sSeq (sSet 4 (eLc (iR2 (eCons (eD (.int 1)) (eCons (eVar 3) eNil))) [5] (gSet 5) mYes (eB kAdd (eB kMul (eVar 5) (eB kIx (eVar 2) (eVar 5))) (eB kMul (eB (kII pSub) (eVar 3) (eVar 5)) (eB kIx (eVar 2) (eB (kII pSub) (eVar 5) (eD (.int 1))))))))
  (sSet 2 (eB kAdd (eB kAdd (eLst (eCons (eD (.int 0)) eNil)) (eVar 4)) (eLst (eCons (eD (.int 0)) eNil))))))
  (sRet (eB kIx (eVar 2) (eVar 1))))))
noncomputable def d_count_orders : Den := mkDen 2 4 b_count_orders
abbrev st_count_orders : Stmt := PySem.Challenge.pw_ringlaps_k05_count_orders.main.body.getD 1 (.Pass ⟨0, 0, 0, 0⟩)
theorem sc_count_orders : FnScope ["count", "turns", "counts", "many", "middle", "now"] ["count", "turns"] (defScope st_count_orders) := ⟨rfl, rfl, rfl, by decide +kernel, rfl, by decide +kernel, by decide +kernel⟩
theorem ok_count_orders (T : Tp fa fn K mg) : ∃ fd, Okk P w K mg base 1 "count_orders" ["count", "turns"] d_count_orders fd := by
  obtain ⟨fd, (F : FunD K "count_orders" "count_orders" (defArgs st_count_orders) (defBody st_count_orders) (defScope st_count_orders) [] [] (He.ga K "count_orders") fd)⟩ := T.c.def_ 3 rfl
  refine ⟨fd, ⟨fn_rule (b := b_count_orders) (n := 2) (l := 4) F sc_count_orders rfl rfl (fun cdv A outer s H E hr tk hp => ?_), F.bindsN (ps := ["count", "turns"]) (fun _ _ _ _ _ _ us hl => match us, hl with | [_, _], _ => rfl), T.glo "count_orders" 13, F.kp, fun s us hl => F.bindsA (fun _ _ _ _ _ _ us hl => match us, hl with | [_, _], _ => rfl) s us hl, fun_at F⟩⟩
  exact (ss_cons (ss_if (PW.pt (sw_or (st_cmp op_lt o2_lt (se_var 0) se_int (nomark _)) (sw_or (st_cmp op_lt o2_lt (se_var 1) se_int (nomark _)) (sw_or1 (st_cmp op_gt o2_gt (se_var 1) (se_var 0) (nomark _))))))
  (ss_one (ss_ret se_int))
  ss_nil)
  (ss_cons (ss_set (i := 2) sc_count_orders.nd rfl (by first | exact Or.inl rfl | exact Or.inr rfl) (se_lst (sa_cons se_int (sa_cons se_int sa_nil))))
  (ss_cons (ss_for hp rfl (pi_range2 (by rfl) (T.free "range" 11) (sa_cons se_int (sa_cons (se_bin op_add3 o2_add (se_var 0) se_int) sa_nil))) src_r2 (pg_name (i := 3) sc_count_orders.nd rfl (by first | exact Or.inl rfl | exact Or.inr rfl)) tg_name
  (ss_cons (ss_setLc (i := 4) rfl sc_count_orders.nd rfl rfl (sw_true (by rfl) (by rfl) (by rfl) (by rfl)) (pi_range2 (by rfl) (T.free "range" 11) (sa_cons se_int (sa_cons (se_var 3) sa_nil))) src_r2 (blkOk_by (own := [("now", 5)]) (by show blkC ["count", "turns", "counts", "many", "middle", "now"] (defScope st_count_orders) _ _ = true; decide +kernel)) (fun _ _ _ _ _ => pg_name (i := 5) sc_count_orders.nd rfl (by first | exact Or.inl rfl | exact Or.inr rfl)) (tgc_name (i := 5) (by decide)) (fun _ _ _ _ _ => sts_nil) (fun _ _ _ _ _ => (se_bin op_add3 o2_add (se_bin op_mul2 o2_mul (se_var 5) (se_ix ix_any o2_ix (se_var 2) (se_var 5) (fun _ _ => rfl))) (se_bin op_mul2 o2_mul (se_bin op_sub o2_sub (se_var 3) (se_var 5)) (se_ix ix_any o2_ix (se_var 2) (se_bin op_sub o2_sub (se_var 5) se_int) (fun _ _ => rfl))))))
  (ss_one (ss_set (i := 2) sc_count_orders.nd rfl (by first | exact Or.inl rfl | exact Or.inr rfl) (se_bin op_add3 o2_add (se_bin op_add3 o2_add (se_lst (sa_cons se_int sa_nil)) (se_var 4)) (se_lst (sa_cons se_int sa_nil)))))))
  (ss_one (ss_ret (se_ix ix_any o2_ix (se_var 2) (se_var 1) (fun _ _ => rfl)))))))
/-! ### _law_product -/
noncomputable def b__law_product : SM := (sSeq (sIf (eT (eB (kEqN false) (eVar 0) (eD (.int 0))))
  (sRet (eD (.int 0)))
  sNil)
  (sSeq (sSet 1 (eD (.int 1)))
  (sSeq (sFor (iR1 (eCons (eB (kII pSub) (eVar 0) (eD (.int 1))) eNil)) (gSet 2)
  (sSet 1 (eB kMul (eVar 1) (eB kAdd (eVar 2) (eD (.int 1))))))
  (sRet (eVar 1)))))
noncomputable def d__law_product : Den := mkDen 1 2 b__law_product
abbrev st__law_product : Stmt := PySem.Challenge.pw_ringlaps_k05_count_orders.main.body.getD 9 (.Pass ⟨0, 0, 0, 0⟩)
theorem sc__law_product : FnScope ["count", "product", "k"] ["count"] (defScope st__law_product) := ⟨rfl, rfl, rfl, by decide +kernel, rfl, by decide +kernel, by decide +kernel⟩
theorem ok__law_product (T : Tp fa fn K mg) : ∃ fd, Okk P w K mg base 1 "_law_product" ["count"] d__law_product fd := by
  obtain ⟨fd, (F : FunD K "_law_product" "_law_product" (defArgs st__law_product) (defBody st__law_product) (defScope st__law_product) [] [] (He.ga K "_law_product") fd)⟩ := T.c.def_ 4 rfl
  refine ⟨fd, ⟨fn_rule (b := b__law_product) (n := 1) (l := 2) F sc__law_product rfl rfl (fun cdv A outer s H E hr tk hp => ?_), F.bindsN (ps := ["count"]) (fun _ _ _ _ _ _ us hl => match us, hl with | [_], _ => rfl), T.glo "_law_product" 14, F.kp, fun s us hl => F.bindsA (fun _ _ _ _ _ _ us hl => match us, hl with | [_], _ => rfl) s us hl, fun_at F⟩⟩
  exact (ss_cons (ss_if (st_cmp (op_eq3 hr.units) o2_eq (se_var 0) se_int (nomark _))
  (ss_one (ss_ret se_int))
  ss_nil)
  (ss_cons (ss_set (i := 1) sc__law_product.nd rfl (by first | exact Or.inl rfl | exact Or.inr rfl) se_int)
  (ss_cons (ss_for hp rfl (pi_range1 (by rfl) (T.free "range" 11) (sa_cons (se_bin op_sub o2_sub (se_var 0) se_int) sa_nil)) src_r1 (pg_name (i := 2) sc__law_product.nd rfl (by first | exact Or.inl rfl | exact Or.inr rfl)) tg_name
  (ss_one (ss_set (i := 1) sc__law_product.nd rfl (by first | exact Or.inl rfl | exact Or.inr rfl) (se_bin op_mul2 o2_mul (se_var 1) (se_bin op_add3 o2_add (se_var 2) se_int)))))
  (ss_one (ss_ret (se_var 1))))))
/-! ### _law_wide -/
abbrev st__law_wide : Stmt := PySem.Challenge.pw_ringlaps_k05_count_orders.main.body.getD 6 (.Pass ⟨0, 0, 0, 0⟩)
theorem sc__law_wide : FnScope ["tape", "size"] ["tape", "size"] (defScope st__law_wide) := ⟨rfl, rfl, rfl, by decide +kernel, rfl, by decide +kernel, by decide +kernel⟩
theorem ok__law_wide (T : Tp fa fn K mg) : ∃ fd, Okk P w K mg base 2 "_law_wide" ["tape", "size"] d__law_wide fd := by
  obtain ⟨fd, (F : FunD K "_law_wide" "_law_wide" (defArgs st__law_wide) (defBody st__law_wide) (defScope st__law_wide) [] [] (He.ga K "_law_wide") fd)⟩ := T.c.def_ 5 rfl
  obtain ⟨fd__law_pick, O__law_pick⟩ := ok__law_pick (P := P) (w := w) (base := base) T
  refine ⟨fd, ⟨fn_rule (b := b__law_wide) (n := 2) (l := 0) F sc__law_wide rfl rfl (fun cdv A outer s H E hr tk hp => ?_), F.bindsN (ps := ["tape", "size"]) (fun _ _ _ _ _ _ us hl => match us, hl with | [_, _], _ => rfl), T.glo "_law_wide" 15, F.kp, fun s us hl => F.bindsA (fun _ _ _ _ _ _ us hl => match us, hl with | [_, _], _ => rfl) s us hl, fun_at F⟩⟩
  exact (ss_one (ss_ret (se_bin op_mod o2_mod (se_callTy call_int1 n_int (by rfl) (T.free "int" 0) (by decide +kernel) (sa_cons (se_bin op_add3 o2_add (se_bin op_mul2 o2_mul (se_callO O__law_pick (hr.mono (by decide)) (by rfl) tk (sa_cons (se_var 0) (sa_cons se_int sa_nil))) se_int) (se_callO O__law_pick (hr.mono (by decide)) (by rfl) tk (sa_cons (se_var 0) (sa_cons se_int sa_nil)))) sa_nil)) (se_var 1))))
/-! ### _law_power -/
noncomputable def b__law_power : SM := (sSeq (sSet 2 (eD (.int 1)))
  (sSeq (sFor (iR1 (eCons (eVar 1) eNil)) (gSet 3)
  (sSet 2 (eB kMul (eVar 2) (eVar 0))))
  (sRet (eVar 2))))
noncomputable def d__law_power : Den := mkDen 2 2 b__law_power
abbrev st__law_power : Stmt := PySem.Challenge.pw_ringlaps_k05_count_orders.main.body.getD 7 (.Pass ⟨0, 0, 0, 0⟩)
theorem sc__law_power : FnScope ["base", "times", "power", "k"] ["base", "times"] (defScope st__law_power) := ⟨rfl, rfl, rfl, by decide +kernel, rfl, by decide +kernel, by decide +kernel⟩
theorem ok__law_power (T : Tp fa fn K mg) : ∃ fd, Okk P w K mg base 1 "_law_power" ["base", "times"] d__law_power fd := by
  obtain ⟨fd, (F : FunD K "_law_power" "_law_power" (defArgs st__law_power) (defBody st__law_power) (defScope st__law_power) [] [] (He.ga K "_law_power") fd)⟩ := T.c.def_ 6 rfl
  refine ⟨fd, ⟨fn_rule (b := b__law_power) (n := 2) (l := 2) F sc__law_power rfl rfl (fun cdv A outer s H E hr tk hp => ?_), F.bindsN (ps := ["base", "times"]) (fun _ _ _ _ _ _ us hl => match us, hl with | [_, _], _ => rfl), T.glo "_law_power" 16, F.kp, fun s us hl => F.bindsA (fun _ _ _ _ _ _ us hl => match us, hl with | [_, _], _ => rfl) s us hl, fun_at F⟩⟩
  exact (ss_cons (ss_set (i := 2) sc__law_power.nd rfl (by first | exact Or.inl rfl | exact Or.inr rfl) se_int)
  (ss_cons (ss_for hp rfl (pi_range1 (by rfl) (T.free "range" 11) (sa_cons (se_var 1) sa_nil)) src_r1 (pg_name (i := 3) sc__law_power.nd rfl (by first | exact Or.inl rfl | exact Or.inr rfl)) tg_name
  (ss_one (ss_set (i := 2) sc__law_power.nd rfl (by first | exact Or.inl rfl | exact Or.inr rfl) (se_bin op_mul2 o2_mul (se_var 2) (se_var 0)))))
  (ss_one (ss_ret (se_var 2)))))
/-! ### _law_count -/
noncomputable def b__law_count : SM := (sSeq (sIf (mOr (eT (eB (kII pLt) (eVar 0) (eD (.int 1)))) (mOr (eT (eB (kII pLt) (eVar 1) (eD (.int 1)))) (eT (eB (kII pGt) (eVar 1) (eCB (k2 (kII pMax)) (eCons (eD (.int 1)) (eCons (eB (kII pSub) (eVar 0) (eD (.int 1))) eNil)))))))
  (sRet (eD (.int 0)))
  sNil)
  (sSeq (sSet 2 (eD (.int 0)))
  (sSeq (sSet 3 (eD (.int 1)))
  (sSeq (sFor (iR1 (eCons (eVar 1) eNil)) (gSet 4)
  (sSeq (sSet 2 (eB kAdd (eVar 2) (eB kMul (eB kMul (eB (kII pSub) (eD (.int 1)) (eB kMul (eD (.int 2)) (eB (kII pMod) (eCB (k1 kInt) (eCons (eVar 4) eNil)) (eD (.int 2))))) (eVar 3)) (eCall d__law_power (eCons (eB (kII pSub) (eVar 1) (eVar 4)) (eCons (eB (kII pSub) (eVar 0) (eD (.int 1))) eNil))))))
  (sSet 3 (eB (kII pDiv) (eB kMul (eVar 3) (eB (kII pSub) (eVar 0) (eVar 4))) (eB kAdd (eVar 4) (eD (.int 1)))))))
  (sRet (eVar 2))))))
noncomputable def d__law_count : Den := mkDen 2 3 b__law_count
abbrev st__law_count : Stmt := PySem.Challenge.pw_ringlaps_k05_count_orders.main.body.getD 8 (.Pass ⟨0, 0, 0, 0⟩)
theorem sc__law_count : FnScope ["count", "turns", "total", "choices", "k"] ["count", "turns"] (defScope st__law_count) := ⟨rfl, rfl, rfl, by decide +kernel, rfl, by decide +kernel, by decide +kernel⟩
theorem ok__law_count (T : Tp fa fn K mg) : ∃ fd, Okk P w K mg base 2 "_law_count" ["count", "turns"] d__law_count fd := by
  obtain ⟨fd, (F : FunD K "_law_count" "_law_count" (defArgs st__law_count) (defBody st__law_count) (defScope st__law_count) [] [] (He.ga K "_law_count") fd)⟩ := T.c.def_ 7 rfl
  obtain ⟨fd__law_power, O__law_power⟩ := ok__law_power (P := P) (w := w) (base := base) T
  refine ⟨fd, ⟨fn_rule (b := b__law_count) (n := 2) (l := 3) F sc__law_count rfl rfl (fun cdv A outer s H E hr tk hp => ?_), F.bindsN (ps := ["count", "turns"]) (fun _ _ _ _ _ _ us hl => match us, hl with | [_, _], _ => rfl), T.glo "_law_count" 18, F.kp, fun s us hl => F.bindsA (fun _ _ _ _ _ _ us hl => match us, hl with | [_, _], _ => rfl) s us hl, fun_at F⟩⟩
  exact (ss_cons (ss_if (PW.pt (sw_or (st_cmp op_lt o2_lt (se_var 0) se_int (nomark _)) (sw_or (st_cmp op_lt o2_lt (se_var 1) se_int (nomark _)) (sw_or1 (st_cmp op_gt o2_gt (se_var 1) (se_callB (call_max2 rfl) n_max2 (by rfl) (T.free "max" 17) (by decide +kernel) (sa_cons se_int (sa_cons (se_bin op_sub o2_sub (se_var 0) se_int) sa_nil))) (nomark _))))))
  (ss_one (ss_ret se_int))
  ss_nil)
  (ss_cons (ss_set (i := 2) sc__law_count.nd rfl (by first | exact Or.inl rfl | exact Or.inr rfl) se_int)
  (ss_cons (ss_set (i := 3) sc__law_count.nd rfl (by first | exact Or.inl rfl | exact Or.inr rfl) se_int)
  (ss_cons (ss_for hp rfl (pi_range1 (by rfl) (T.free "range" 11) (sa_cons (se_var 1) sa_nil)) src_r1 (pg_name (i := 4) sc__law_count.nd rfl (by first | exact Or.inl rfl | exact Or.inr rfl)) tg_name
  (ss_cons (ss_set (i := 2) sc__law_count.nd rfl (by first | exact Or.inl rfl | exact Or.inr rfl) (se_bin op_add3 o2_add (se_var 2) (se_bin op_mul2 o2_mul (se_bin op_mul2 o2_mul (se_bin op_sub o2_sub se_int (se_bin op_mul2 o2_mul se_int (se_bin op_mod o2_mod (se_callTy call_int1 n_int (by rfl) (T.free "int" 0) (by decide +kernel) (sa_cons (se_var 4) sa_nil)) se_int))) (se_var 3)) (se_callO O__law_power (hr.mono (by decide)) (by rfl) tk (sa_cons (se_bin op_sub o2_sub (se_var 1) (se_var 4)) (sa_cons (se_bin op_sub o2_sub (se_var 0) se_int) sa_nil))))))
  (ss_one (ss_set (i := 3) sc__law_count.nd rfl (by first | exact Or.inl rfl | exact Or.inr rfl) (se_bin op_fdiv o2_div (se_bin op_mul2 o2_mul (se_var 3) (se_bin op_sub o2_sub (se_var 0) (se_var 4))) (se_bin op_add3 o2_add (se_var 4) se_int))))))
  (ss_one (ss_ret (se_var 2)))))))
/-! ### law -/
noncomputable def b_law : SM := (sSeq (sSet 1 (eCall d__law_tape (eCons (eVar 0) eNil)))
  (sSeq (sSet 2 (eCall d__law_pick (eCons (eVar 1) (eCons (eD (.int 41)) eNil))))
  (sSeq (sSet 3 (eCall d__law_pick (eCons (eVar 1) (eCons (eD (.int 8)) eNil))))
  (sSeq (sIf (eT (eB (kEqN false) (eVar 3) (eD (.int 0))))
  (sSet 2 (eCall d__law_pick (eCons (eVar 1) (eCons (eD (.int 3)) eNil))))
  sNil)
  (sSeq (sIf (eT (eB (kEqN false) (eVar 3) (eD (.int 1))))
  (sSet 2 (eB (kII pSub) (eD (.int 40)) (eCall d__law_pick (eCons (eVar 1) (eCons (eD (.int 3)) eNil)))))
  sNil)
  (sSeq (sSet 4 (eB (kII pSub) (eCall d__law_pick (eCons (eVar 1) (eCons (eB kAdd (eVar 2) (eD (.int 4))) eNil))) (eD (.int 1))))
  (sSeq (sSet 5 (eCall d__law_pick (eCons (eVar 1) (eCons (eD (.int 8)) eNil))))
  (sSeq (sIf (eT (eB (kEqN false) (eVar 5) (eD (.int 0))))
  (sSet 4 (eB (kII pSub) (eVar 4) (eCall d__law_wide (eCons (eVar 1) (eCons (eD (.int 1000000000)) eNil)))))
  sNil)
  (sSeq (sIf (eT (eB (kEqN false) (eVar 5) (eD (.int 1))))
  (sSet 4 (eB kAdd (eVar 4) (eB kMul (eCall d__law_wide (eCons (eVar 1) (eCons (eD (.int 1000000000)) eNil))) (eB (kII pPow) (eD (.int 10)) (eD (.int 30))))))
  sNil)
  (sSeq (sIf (mNot (eT (eCall d__law_same (eCons (eCall d_count_orders (eCons (eVar 2) (eCons (eVar 4) eNil))) (eCons (eCall d__law_count (eCons (eVar 2) (eCons (eVar 4) eNil))) eNil)))))
  (sRet (eD (.bl false)))
  sNil)
  (sSeq (sSet 6 (eD (.int 0)))
  (sSeq (sFor (iR1 (eCons (eB kAdd (eVar 2) (eD (.int 2))) eNil)) (gSet 7)
  (sSeq (sSet 8 (eCall d_count_orders (eCons (eVar 2) (eCons (eVar 7) eNil))))
  (sSeq (sIf (mOr (mNot (eT (eIsT "int" (eVar 8)))) (mOr (eT (eIsT "bool" (eVar 8))) (eT (eB (kII pLt) (eVar 8) (eD (.int 0))))))
  (sRet (eD (.bl false)))
  sNil)
  (sSet 6 (eB kAdd (eVar 6) (eVar 8))))))
  (sRet (eB (kEqN false) (eVar 6) (eCall d__law_product (eCons (eVar 2) eNil))))))))))))))))
noncomputable def d_law : Den := mkDen 1 8 b_law
abbrev st_law : Stmt := PySem.Challenge.pw_ringlaps_k05_count_orders.main.body.getD 10 (.Pass ⟨0, 0, 0, 0⟩)
theorem sc_law : FnScope ["script", "tape", "count", "edge", "turns", "kind", "total", "many", "told"] ["script"] (defScope st_law) := ⟨rfl, rfl, rfl, by decide +kernel, rfl, by decide +kernel, by decide +kernel⟩
theorem ok_law (T : Tp fa fn K mg) : ∃ fd, Okk P w K mg base 13 "law" ["script"] d_law fd := by
  obtain ⟨fd, (F : FunD K "law" "law" (defArgs st_law) (defBody st_law) (defScope st_law) [] [] (He.ga K "law") fd)⟩ := T.c.def_ 8 rfl
  obtain ⟨fd__law_tape, O__law_tape⟩ := ok__law_tape (P := P) (w := w) (base := base) T
  obtain ⟨fd__law_pick, O__law_pick⟩ := ok__law_pick (P := P) (w := w) (base := base) T
  obtain ⟨fd__law_same, O__law_same⟩ := ok__law_same (P := P) (w := w) (base := base) T
  obtain ⟨fd_count_orders, O_count_orders⟩ := ok_count_orders (P := P) (w := w) (base := base) T
  obtain ⟨fd__law_product, O__law_product⟩ := ok__law_product (P := P) (w := w) (base := base) T
  obtain ⟨fd__law_wide, O__law_wide⟩ := ok__law_wide (P := P) (w := w) (base := base) T
  obtain ⟨fd__law_count, O__law_count⟩ := ok__law_count (P := P) (w := w) (base := base) T
  refine ⟨fd, ⟨fn_rule (b := b_law) (n := 1) (l := 8) F sc_law rfl rfl (fun cdv A outer s H E hr tk hp => ?_), F.bindsN (ps := ["script"]) (fun _ _ _ _ _ _ us hl => match us, hl with | [_], _ => rfl), T.glo "law" 19, F.kp, fun s us hl => F.bindsA (fun _ _ _ _ _ _ us hl => match us, hl with | [_], _ => rfl) s us hl, fun_at F⟩⟩
  exact (ss_cons (ss_set (i := 1) sc_law.nd rfl (by first | exact Or.inl rfl | exact Or.inr rfl) (se_callO O__law_tape (hr.mono (by decide)) (by rfl) tk (sa_cons (se_var 0) sa_nil)))
  (ss_cons (ss_set (i := 2) sc_law.nd rfl (by first | exact Or.inl rfl | exact Or.inr rfl) (se_callO O__law_pick (hr.mono (by decide)) (by rfl) tk (sa_cons (se_var 1) (sa_cons se_int sa_nil))))
  (ss_cons (ss_set (i := 3) sc_law.nd rfl (by first | exact Or.inl rfl | exact Or.inr rfl) (se_callO O__law_pick (hr.mono (by decide)) (by rfl) tk (sa_cons (se_var 1) (sa_cons se_int sa_nil))))
  (ss_cons (ss_if (st_cmp (op_eq3 hr.units) o2_eq (se_var 3) se_int (nomark _))
  (ss_one (ss_set (i := 2) sc_law.nd rfl (by first | exact Or.inl rfl | exact Or.inr rfl) (se_callO O__law_pick (hr.mono (by decide)) (by rfl) tk (sa_cons (se_var 1) (sa_cons se_int sa_nil)))))
  ss_nil)
  (ss_cons (ss_if (st_cmp (op_eq3 hr.units) o2_eq (se_var 3) se_int (nomark _))
  (ss_one (ss_set (i := 2) sc_law.nd rfl (by first | exact Or.inl rfl | exact Or.inr rfl) (se_bin op_sub o2_sub se_int (se_callO O__law_pick (hr.mono (by decide)) (by rfl) tk (sa_cons (se_var 1) (sa_cons se_int sa_nil))))))
  ss_nil)
  (ss_cons (ss_set (i := 4) sc_law.nd rfl (by first | exact Or.inl rfl | exact Or.inr rfl) (se_bin op_sub o2_sub (se_callO O__law_pick (hr.mono (by decide)) (by rfl) tk (sa_cons (se_var 1) (sa_cons (se_bin op_add3 o2_add (se_var 2) se_int) sa_nil))) se_int))
  (ss_cons (ss_set (i := 5) sc_law.nd rfl (by first | exact Or.inl rfl | exact Or.inr rfl) (se_callO O__law_pick (hr.mono (by decide)) (by rfl) tk (sa_cons (se_var 1) (sa_cons se_int sa_nil))))
  (ss_cons (ss_if (st_cmp (op_eq3 hr.units) o2_eq (se_var 5) se_int (nomark _))
  (ss_one (ss_set (i := 4) sc_law.nd rfl (by first | exact Or.inl rfl | exact Or.inr rfl) (se_bin op_sub o2_sub (se_var 4) (se_callO O__law_wide (hr.mono (by decide)) (by rfl) tk (sa_cons (se_var 1) (sa_cons se_int sa_nil))))))
  ss_nil)
  (ss_cons (ss_if (st_cmp (op_eq3 hr.units) o2_eq (se_var 5) se_int (nomark _))
  (ss_one (ss_set (i := 4) sc_law.nd rfl (by first | exact Or.inl rfl | exact Or.inr rfl) (se_bin op_add3 o2_add (se_var 4) (se_bin op_mul2 o2_mul (se_callO O__law_wide (hr.mono (by decide)) (by rfl) tk (sa_cons (se_var 1) (sa_cons se_int sa_nil))) (se_bin op_pow o2_pow se_int se_int)))))
  ss_nil)
  (ss_cons (ss_if (st_not (st_val (se_callO O__law_same (hr.mono (by decide)) (by rfl) tk (sa_cons (se_callO O_count_orders (hr.mono (by decide)) (by rfl) tk (sa_cons (se_var 2) (sa_cons (se_var 4) sa_nil))) (sa_cons (se_callO O__law_count (hr.mono (by decide)) (by rfl) tk (sa_cons (se_var 2) (sa_cons (se_var 4) sa_nil))) sa_nil)))))
  (ss_one (ss_ret se_bl))
  ss_nil)
  (ss_cons (ss_set (i := 6) sc_law.nd rfl (by first | exact Or.inl rfl | exact Or.inr rfl) se_int)
  (ss_cons (ss_for hp rfl (pi_range1 (by rfl) (T.free "range" 11) (sa_cons (se_bin op_add3 o2_add (se_var 2) se_int) sa_nil)) src_r1 (pg_name (i := 7) sc_law.nd rfl (by first | exact Or.inl rfl | exact Or.inr rfl)) tg_name
  (ss_cons (ss_set (i := 8) sc_law.nd rfl (by first | exact Or.inl rfl | exact Or.inr rfl) (se_callO O_count_orders (hr.mono (by decide)) (by rfl) tk (sa_cons (se_var 2) (sa_cons (se_var 7) sa_nil))))
  (ss_cons (ss_if (PW.pt (sw_or (st_not (st_val (se_isT (T := "int") (by decide) (by rfl) (T.free "isinstance" 5) (by rfl) (T.free "int" 0) (by decide +kernel) (se_var 8)))) (sw_or (st_val (se_isT (T := "bool") (by decide) (by rfl) (T.free "isinstance" 5) (by rfl) (T.free "bool" 6) (by decide +kernel) (se_var 8))) (sw_or1 (st_cmp op_lt o2_lt (se_var 8) se_int (nomark _))))))
  (ss_one (ss_ret se_bl))
  ss_nil)
  (ss_one (ss_set (i := 6) sc_law.nd rfl (by first | exact Or.inl rfl | exact Or.inr rfl) (se_bin op_add3 o2_add (se_var 6) (se_var 8)))))))
  (ss_one (ss_ret (se_cmp (op_eq3 hr.units) o2_eq (se_var 6) (se_callO O__law_product (hr.mono (by decide)) (by rfl) tk (sa_cons (se_var 2) sa_nil)) (nomark _))))))))))))))))
/-! ### the head -/
abbrev Rw : PySem.W.OpenRow := PySem.W.OpenLaw.row PySem.Challenge.rw_ringlaps_k05_count_orders
abbrev hk : PySem.W.Hook := He.hookD 6 fa fn
def ob (s : PySem.W.SharedT) : He.AlD := He.obsDG 6 fa fn (HandSHeadRun.getT s)
theorem ob_eq (s : PySem.W.SharedT) : ob s = hk.obs s.abs := He.obsDG_eq (HandSHeadRun.getT_eq s)
theorem run (w : World) : HandSHeadRun.RunEq Rw (PySem.W.view Rw.prog [10]) hk ob 4000 ["count_orders", "_law_tape", "_law_pick", "_law_same", "_law_wide", "_law_power", "_law_count", "_law_product"] w := by
  intro os
  kernel_rfl
end
end Lk05

set_option maxRecDepth 100000
set_option maxHeartbeats 4000000
namespace Lk05
open PySem PySem.Spec L2 VL
open PyProof.Rows hiding St
local macro_rules | `(tactic| wtm_at "vl") => `(tactic| first
  | with_reducible refine v_seq ?_
  | with_reducible refine v_k_next ?_
  | with_reducible refine v_k_ret ?_
  | with_reducible refine v_k_brk ?_
  | with_reducible refine v_k_cont ?_
  | with_reducible refine v_set ?_
  | with_reducible refine v_if ?_
  | with_reducible refine v_ret ?_
  | with_reducible refine v_retN ?_
  | with_reducible refine v_nil ?_
  | with_reducible refine v_brk ?_
  | with_reducible refine v_cont ?_
  | with_reducible refine v_e ?_
  | with_reducible refine v_it ?_
  | with_reducible refine v_aug ?_
  | (with_reducible refine v_sl_val ?_; try dsimp only [List.set, FS.setE, C.toD])
  | (with_reducible refine v_sl_tmp ?h ?q; (case h => with_unfolding_all exact Nat.le_of_ble_eq_true rfl); (case' q => try dsimp only [List.set, FS.setE, C.toD]))
  | (with_reducible refine v_sl_pc ?_; try dsimp only [List.set, FS.setE, C.toD])
  | (with_reducible refine v_sl_ic ?_; try dsimp only [List.set, FS.setE, C.toD])
  | (with_reducible refine' w_var_val ?h0 ?q; (case h0 => with_unfolding_all rfl))
  | (with_reducible refine' w_var_own ?h0 ?q; (case h0 => with_unfolding_all rfl))
  | (with_reducible refine' w_var_pc ?h0 ?q; (case h0 => with_unfolding_all rfl))
  | (with_reducible refine' w_var_lck ?h0 ?q; (case h0 => with_unfolding_all rfl))
  | (with_reducible refine' w_var_ic ?h0 ?q; (case h0 => with_unfolding_all rfl))
  | with_reducible refine w_d ?_
  | with_reducible refine w_bin ?_
  | with_reducible refine w_cons ?_
  | with_reducible refine w_nil ?_
  | with_reducible refine w_T ?_
  | with_reducible refine w_asB ?_
  | with_reducible refine w_add ?_
  | with_reducible refine w_sub ?_
  | with_reducible refine w_lt ?_
  | with_reducible refine w_le ?_
  | with_reducible refine w_gt ?_
  | with_reducible refine w_ge ?_
  | with_reducible refine w_eqi ?_
  | with_reducible refine w_nei ?_
  | with_reducible refine w_mod ?_ ?_
  | with_reducible refine w_div ?_ ?_ ?_
  | with_reducible refine w_pow (by decide) ?_
  | with_reducible refine w_mul ?_ ?_
  | with_reducible refine w_addI ?_
  | with_reducible refine w_max ?_
  | with_reducible refine w_min ?_
  | with_reducible refine w_un ?_
  | with_reducible refine w_neg ?_
  | (with_reducible refine' w_ixl ?h0 ?h1 ?q; (case h0 => with_unfolding_all rfl); (case h1 => with_unfolding_all rfl))
  | (with_reducible refine' w_ixl ?h ?h2 ?q; (case h => with_unfolding_all rfl); (case' h2 => with_reducible refine atI_ints ?_ ?_))
  | (with_reducible refine' w_ixt ?h0 ?q; (case h0 => with_unfolding_all rfl))
  | with_reducible refine w_mand ?_
  | with_reducible refine w_mor ?_
  | with_reducible refine w_mnot ?_
  | with_reducible refine w_yes ?_
  | with_reducible refine w_eand ?_
  | with_reducible refine w_eor ?_
  | with_reducible refine w_enot ?_
  | with_reducible refine w_eif ?_
  | with_reducible refine w_ch ?_
  | with_reducible refine w_lst ?_
  | with_reducible refine w_tup ?_
  | with_reducible refine w_dict0 ?_
  | with_reducible refine w_cb ?_
  | with_reducible refine w_k1 ?_
  | with_reducible refine w_k2 ?_
  | with_reducible refine w_abs ?_
  | with_reducible refine w_int ?_
  | with_reducible refine w_intb ?_
  | (with_reducible refine' w_lenl ?h0 ?q; (case h0 => with_unfolding_all rfl))
  | with_reducible refine w_lent ?_
  | with_reducible refine w_isT ?_
  | with_reducible refine w_eCall ?_
  | with_reducible refine w_eqb ?_
  | with_reducible refine w_eqs ?_
  | with_reducible refine i_true ?_
  | with_reducible refine i_false ?_
  | with_reducible refine i_not ?_
  | with_reducible refine i_dec (fun _ => ?_) (fun _ => ?_)
  | with_reducible refine f_next ?_
  | with_reducible refine f_val ?_
  | with_reducible refine f_tmp ?_
  | with_reducible refine f_pc ?_
  | (with_reducible refine' f_var ?h0 ?q; (case h0 => with_unfolding_all rfl))
  | (with_reducible refine' i_lt ?h0 ?q; (case h0 => with_unfolding_all rfl))
  | (with_reducible refine' i_lf ?h0 ?q; (case h0 => with_unfolding_all rfl))
  | (with_reducible refine' x_it ?h ?h2 ?q; (case h => with_unfolding_all rfl); (case h2 => (with_reducible refine' setItem_lst ?a ?b ?c; (case a => with_unfolding_all rfl); (case b => with_unfolding_all rfl); (case c => with_unfolding_all rfl))); (case' q => try dsimp only [List.set, FS.setE, C.toD, Int.reduceToNat]))
  | (with_reducible refine' x_frz ?h0 ?h1 ?q; (case h0 => with_unfolding_all rfl); (case h1 => with_unfolding_all rfl); (case' q => try dsimp only [List.set, FS.setE, C.toD]))
  | (with_reducible refine' x_call ?h0 ?h1 ?q; (case h0 => with_unfolding_all rfl); (case h1 => with_unfolding_all rfl); (case' q => try dsimp only [List.set, FS.setE, C.toD]))
  | (with_reducible refine' x_back ?h0 ?q; (case h0 => with_unfolding_all rfl); (case' q => try dsimp only [List.set, FS.setE, C.toD]))
  | (with_reducible refine' x_ty ?h0 ?q; (case h0 => with_unfolding_all rfl))
  | (with_reducible refine' x_frz1 ?h0 ?q; (case h0 => with_unfolding_all rfl); (case' q => try dsimp only [List.set, FS.setE, C.toD]))
  | with_reducible refine x_r1 ⟨?_, ?_⟩ ?_
  | with_reducible refine x_r2 ⟨?_, ?_, ?_, ?_⟩ ?_
  | with_reducible refine w_m ?_
  | (with_reducible refine' x_has ?h0 ?q; (case h0 => with_unfolding_all rfl))
  | (with_reducible refine' w_app ?h ?h1 ?h2 ?h3 ?h4 ?q; (case h => with_unfolding_all rfl); (case h1 => with_unfolding_all rfl); (case h3 => rfl); (case h4 => with_unfolding_all rfl); (case' q => try dsimp only [List.set, FS.setE, C.toD]))
  | with_reducible refine w_isT ?_
  | (with_reducible refine' w_is ?h0 ?q; (case h0 => with_unfolding_all rfl))
  | (with_reducible refine' w_call ?h0 ?q; (case h0 => with_unfolding_all rfl); (case' q => try dsimp only [List.nil_append, List.cons_append, List.length_nil, List.length_cons, Nat.reduceAdd]))
  | (with_reducible show @LE.le Int _ _ _; omega)
  | (with_reducible show @LT.lt Int _ _ _; omega)
  | fail)
local macro_rules | `(tactic| wtm_at "vl") => `(tactic| first
  | with_reducible refine pick_w (by assumption) ?_ ?_ (fun _ _ _ _ _ => ?_)
  | with_reducible refine size_w (by assumption) ?_ (fun _ _ _ _ _ _ => ?_)
  | with_reducible refine wide_w (by assumption) ?_ (fun _ _ _ _ _ => ?_)
  | with_reducible refine place_w (by assumption) ?_ (fun _ _ _ _ _ => ?_)
  | with_reducible refine near_w (by assumption) ?_ ?_ ?_ (fun _ _ _ _ _ => ?_)
  | with_reducible refine circle_w (by assumption) ?_ (fun _ _ _ _ _ _ => ?_)
  | with_reducible refine tape_w (by assumption) (fun _ _ => ?_)
  | with_reducible refine far_w ?_ ?_)
/-! the table of the orders -/
def tabE : List (List Int) := [[0, 1],
  [0, 1, 0],
  [0, 1, 1, 0],
  [0, 1, 4, 1, 0],
  [0, 1, 11, 11, 1, 0],
  [0, 1, 26, 66, 26, 1, 0],
  [0, 1, 57, 302, 302, 57, 1, 0],
  [0, 1, 120, 1191, 2416, 1191, 120, 1, 0],
  [0, 1, 247, 4293, 15619, 15619, 4293, 247, 1, 0],
  [0, 1, 502, 14608, 88234, 156190, 88234, 14608, 502, 1, 0],
  [0, 1, 1013, 47840, 455192, 1310354, 1310354, 455192, 47840, 1013, 1, 0],
  [0, 1, 2036, 152637, 2203488, 9738114, 15724248, 9738114, 2203488, 152637, 2036, 1, 0],
  [0, 1, 4083, 478271, 10187685, 66318474, 162512286, 162512286, 66318474, 10187685, 478271, 4083, 1, 0],
  [0, 1, 8178, 1479726, 45533450, 423281535, 1505621508, 2275172004, 1505621508, 423281535, 45533450, 1479726, 8178, 1, 0],
  [0, 1, 16369, 4537314, 198410786, 2571742175, 12843262863, 27971176092, 27971176092, 12843262863, 2571742175, 198410786, 4537314, 16369, 1, 0],
  [0, 1, 32752, 13824739, 848090912, 15041229521, 102776998928, 311387598411, 447538817472, 311387598411, 102776998928, 15041229521, 848090912, 13824739, 32752, 1, 0],
  [0, 1, 65519, 41932745, 3572085255, 85383238549, 782115518299, 3207483178157, 6382798925475, 6382798925475, 3207483178157, 782115518299, 85383238549, 3572085255, 41932745, 65519, 1, 0],
  [0, 1, 131054, 126781020, 14875399450, 473353301060, 5717291972382, 31055652948388, 83137223185370, 114890380658550, 83137223185370, 31055652948388, 5717291972382, 473353301060, 14875399450, 126781020, 131054, 1, 0],
  [0, 1, 262125, 382439924, 61403313100, 2575022097600, 40457344748072, 285997074307300, 1006709967915228, 1865385657780650, 1865385657780650, 1006709967915228, 285997074307300, 40457344748072, 2575022097600, 61403313100, 382439924, 262125, 1, 0],
  [0, 1, 524268, 1151775897, 251732291184, 13796160184500, 278794377854832, 2527925001876036, 11485644635009424, 27862280567093358, 37307713155613000, 27862280567093358, 11485644635009424, 2527925001876036, 278794377854832, 13796160184500, 251732291184, 1151775897, 524268, 1, 0],
  [0, 1, 1048555, 3464764515, 1026509354985, 73008517581444, 1879708669896492, 21598596303099900, 124748182104463860, 388588260723953310, 679562217794156938, 679562217794156938, 388588260723953310, 124748182104463860, 21598596303099900, 1879708669896492, 73008517581444, 1026509354985, 3464764515, 1048555, 1, 0],
  [0, 1, 2097130, 10414216090, 4168403181210, 382493246941965, 12446388300682056, 179385804170146680, 1300365805079109480, 5119020713873609970, 11458681306629009100, 14950368791471452636, 11458681306629009100, 5119020713873609970, 1300365805079109480, 179385804170146680, 12446388300682056, 382493246941965, 4168403181210, 10414216090, 2097130, 1, 0],
  [0, 1, 4194281, 31284590870, 16871482830550, 1987497491971605, 81180715002105741, 1454842842001939656, 13093713503185076040, 64276307695970022450, 181134082346647020610, 301958232385734088196, 301958232385734088196, 181134082346647020610, 64276307695970022450, 13093713503185076040, 1454842842001939656, 81180715002105741, 1987497491971605, 16871482830550, 31284590870, 4194281, 1, 0],
  [0, 1, 8388584, 93941852511, 68111623139600, 10258045633638475, 522859244868123336, 11563972049049375189, 128027193497511642816, 774892471811506342650, 2711209131210050520400, 5676283626749486238086, 7246997577257618116704, 5676283626749486238086, 2711209131210050520400, 774892471811506342650, 128027193497511642816, 11563972049049375189, 522859244868123336, 10258045633638475, 68111623139600, 93941852511, 8388584, 1, 0],
  [0, 1, 16777191, 282010106381, 274419271461131, 52652460630984375, 3332058336247871041, 90359270750971846371, 1220805072813932520741, 9022467342263743368906, 38735478389273100343750, 100396047731185055904546, 160755658074834738495566, 160755658074834738495566, 100396047731185055904546, 38735478389273100343750, 9022467342263743368906, 1220805072813932520741, 90359270750971846371, 3332058336247871041, 52652460630984375, 274419271461131, 282010106381, 16777191, 1, 0],
  [0, 1, 33554406, 846416194536, 1103881308184906, 269025107855605626, 21045399230106913746, 695824003645512474376, 11392907456028953400606, 101955892318210543172751, 531714261368950897339996, 1685388700882132120106256, 3334612565134607644610436, 4179647109945703200884716, 3334612565134607644610436, 1685388700882132120106256, 531714261368950897339996, 101955892318210543172751, 11392907456028953400606, 695824003645512474376, 21045399230106913746, 269025107855605626, 1103881308184906, 846416194536, 33554406, 1, 0],
  [0, 1, 67108837, 2540053889352, 4434992805213952, 1369410928058096062, 131921922645609200622, 5291676010120725595552, 104363915717496364217992, 1122675365072416049765667, 7050392783099088207336727, 27046703891606667678608752, 65296181294847273536919072, 101019988341178648636047412, 101019988341178648636047412, 65296181294847273536919072, 27046703891606667678608752, 7050392783099088207336727, 1122675365072416049765667, 104363915717496364217992, 5291676010120725595552, 131921922645609200622, 1369410928058096062, 4434992805213952, 2540053889352, 67108837, 1, 0],
  [0, 1, 134217700, 7621839388981, 17800932514200256, 6949059474810401206, 821658576290933317096, 39812092446402872381926, 940744845942385425654976, 12086992684284175368032851, 90712084402294370969149276, 417370420120357843989420631, 1216301437803873965300768896, 2292702567858031535322402436, 2828559673553002161809327536, 2292702567858031535322402436, 1216301437803873965300768896, 417370420120357843989420631, 90712084402294370969149276, 12086992684284175368032851, 940744845942385425654976, 39812092446402872381926, 821658576290933317096, 6949059474810401206, 17800932514200256, 7621839388981, 134217700, 1, 0],
  [0, 1, 268435427, 22869007827143, 71394276041525549, 35172519754392812174, 5089779825666239130314, 296761135803220639649594, 8362012708913543725260254, 127597831077405286825395179, 1136773705024343041684116929, 6223892140565234961328313909, 21690914395692570931429377479, 49265956387016393404003534004, 73990373947612503295166622044, 73990373947612503295166622044, 49265956387016393404003534004, 21690914395692570931429377479, 6223892140565234961328313909, 1136773705024343041684116929, 127597831077405286825395179, 8362012708913543725260254, 296761135803220639649594, 5089779825666239130314, 35172519754392812174, 71394276041525549, 22869007827143, 268435427, 1, 0],
  [0, 1, 536870882, 68614271237958, 286171698369607914, 177647455673002199595, 31382819428102862274060, 2194392886612867977544380, 73424846658979203874373100, 1323982746583831999659021945, 13919693671791536153349072870, 90061513941680102366609674650, 372321031278485080481062180110, 1009202977757986820086345359195, 1824120537458837340596389252680, 2219711218428375098854998661320, 1824120537458837340596389252680, 1009202977757986820086345359195, 372321031278485080481062180110, 90061513941680102366609674650, 13919693671791536153349072870, 1323982746583831999659021945, 73424846658979203874373100, 2194392886612867977544380, 31382819428102862274060, 177647455673002199595, 286171698369607914, 68614271237958, 536870882, 1, 0],
  [0, 1, 1073741793, 205857846098570, 1146539378801856522, 895677742522620803739, 192738102960442228634235, 16113937872564544537388100, 637869809663929594478505540, 13531191345752030482167405705, 167000574396175833526330189545, 1269070526794311849099687878550, 6179021140233742910738329979670, 19821417273866560109781608911515, 42694138146309498709817320643835, 62481596875767023932367207962680, 62481596875767023932367207962680, 42694138146309498709817320643835, 19821417273866560109781608911515, 6179021140233742910738329979670, 1269070526794311849099687878550, 167000574396175833526330189545, 13531191345752030482167405705, 637869809663929594478505540, 16113937872564544537388100, 192738102960442228634235, 895677742522620803739, 1146539378801856522, 205857846098570, 1073741793, 1, 0],
  [0, 1, 2147483616, 617604676807707, 4591921534898186048, 4509345275840754144789, 1179716239068241512702624, 117616017681962867477572575, 5489692986252985824725358720, 136451727734038655012512278765, 1967691953568303005870984820960, 17466787857057122844149500644495, 99529664218691151910853717327040, 375079826224706396731189185463425, 954503444977931063913511449420960, 1663024301623766837052402570385395, 1999411100024544765835750654805760, 1663024301623766837052402570385395, 954503444977931063913511449420960, 375079826224706396731189185463425, 99529664218691151910853717327040, 17466787857057122844149500644495, 1967691953568303005870984820960, 136451727734038655012512278765, 5489692986252985824725358720, 117616017681962867477572575, 1179716239068241512702624, 4509345275840754144789, 4591921534898186048, 617604676807707, 2147483616, 1, 0],
  [0, 1, 4294967263, 1852878454931601, 18385596675220167695, 22675300182180919933289, 7200049756857149438125047, 853984745989514351673276249, 46857944332072958284742184135, 1359818181276419554906019118165, 22815309273565919123997630621195, 235423889406131017414806173150565, 1561158515622493402657384121458875, 6866631025295006195722533757565325, 20489564927960456432681754815698515, 42126426533959261706229244645358205, 60261990727996752483262854173443875, 60261990727996752483262854173443875, 42126426533959261706229244645358205, 20489564927960456432681754815698515, 6866631025295006195722533757565325, 1561158515622493402657384121458875, 235423889406131017414806173150565, 22815309273565919123997630621195, 1359818181276419554906019118165, 46857944332072958284742184135, 853984745989514351673276249, 7200049756857149438125047, 22675300182180919933289, 18385596675220167695, 1852878454931601, 4294967263, 1, 0],
  [0, 1, 8589934558, 5558768508779956, 73597973054528618810, 113909683214485984529600, 43835206946243962386882374, 6172294565361743496542310012, 397067158052311039421442655554, 13409812239789599951272726666860, 260788729086293260557720765047910, 3114414896759457331414813408943700, 23913227754404803215014345266818930, 122050532156907442000198005398985600, 424186529497346513971995242571085710, 1021198131640637597814392011178644860, 1722467529259214750444332070391549690, 2048907684751889584430937041897091750, 1722467529259214750444332070391549690, 1021198131640637597814392011178644860, 424186529497346513971995242571085710, 122050532156907442000198005398985600, 23913227754404803215014345266818930, 3114414896759457331414813408943700, 260788729086293260557720765047910, 13409812239789599951272726666860, 397067158052311039421442655554, 6172294565361743496542310012, 43835206946243962386882374, 113909683214485984529600, 73597973054528618810, 5558768508779956, 8589934558, 1, 0],
  [0, 1, 17179869149, 16676580404245724, 294564214041886653876, 571756355264065781212300, 266314622490683867872652644, 44433447752027035422628876556, 3343189217683255389778183614756, 131012056267466486586412049046144, 2943132596857672604359025817150600, 40517493362425068898948245859530540, 358590275678325157202712851607532260, 2112747928636702416732889666056829260, 8501672588257907477612091509373897540, 23801702564556494246655785019101387100, 46962244969319550365582761338659047380, 65835846167447988443323906979298454170, 65835846167447988443323906979298454170, 46962244969319550365582761338659047380, 23801702564556494246655785019101387100, 8501672588257907477612091509373897540, 2112747928636702416732889666056829260, 358590275678325157202712851607532260, 40517493362425068898948245859530540, 2943132596857672604359025817150600, 131012056267466486586412049046144, 3343189217683255389778183614756, 44433447752027035422628876556, 266314622490683867872652644, 571756355264065781212300, 294564214041886653876, 16676580404245724, 17179869149, 1, 0],
  [0, 1, 34359738332, 50030308148419089, 1178790506740482478672, 2867913266955627392331656, 1615040425602025180672284864, 318757258316419080126709062568, 27989650278522800110059077461616, 1269374615284646274801719399013708, 32837639431530854694836971446705744, 519270741908117572997406349883600940, 5275503148838103540007312119919120080, 35713299412878610033189961245712022360, 165503870665618157854692853784484809280, 535560662821763470729690696983372654840, 1227429970800242690782439881800572500080, 2011492039263687260482578884082595621110, 2370090462028127583959660651254744350120, 2011492039263687260482578884082595621110, 1227429970800242690782439881800572500080, 535560662821763470729690696983372654840, 165503870665618157854692853784484809280, 35713299412878610033189961245712022360, 5275503148838103540007312119919120080, 519270741908117572997406349883600940, 32837639431530854694836971446705744, 1269374615284646274801719399013708, 27989650278522800110059077461616, 318757258316419080126709062568, 1615040425602025180672284864, 2867913266955627392331656, 1178790506740482478672, 50030308148419089, 34359738332, 1, 0],
  [0, 1, 68719476699, 150092092676360555, 4716813027130827744625, 14377287630993832400975784, 9779147864887775533195990520, 2279752020982994316307131983896, 233161162719358554204147182507400, 12208081745360454876297128760048620, 362649508927993996368016138240427556, 6565756786209095525037231106333959684, 76287806333760181805022904186119464460, 590884967939536415391644987072315172600, 3138460075814862240729069061634163844200, 11674495096970051533748603238009255626760, 30885653452060915937842542745459985752920, 58743964083487537243852638665415575560470, 80879977062516354460442890520154715103250, 80879977062516354460442890520154715103250, 58743964083487537243852638665415575560470, 30885653452060915937842542745459985752920, 11674495096970051533748603238009255626760, 3138460075814862240729069061634163844200, 590884967939536415391644987072315172600, 76287806333760181805022904186119464460, 6565756786209095525037231106333959684, 362649508927993996368016138240427556, 12208081745360454876297128760048620, 233161162719358554204147182507400, 2279752020982994316307131983896, 9779147864887775533195990520, 14377287630993832400975784, 4716813027130827744625, 150092092676360555, 68719476699, 1, 0],
  [0, 1, 137438953434, 450278683210766130, 18872355239674307237370, 72042092984864479320451545, 59134960393518455836007168208, 16261417730692481255678999593392, 1933681862384358263122391419576080, 116634409427105491958594427133152180, 3968321378150032700216480987685636920, 82014861389355888677345977902165100536, 1086163352446558665311242858998116525304, 9588699741557977945216957436593083855300, 58119680291956945339606446552613857961200, 247302008198292604542997636987724602818000, 751009347366315788747949955163563395835440, 1647246111912567367840188254966724485339310, 2630718868795045125165024802671096383067900, 3073439128375621469496829839765879173923500, 2630718868795045125165024802671096383067900, 1647246111912567367840188254966724485339310, 751009347366315788747949955163563395835440, 247302008198292604542997636987724602818000, 58119680291956945339606446552613857961200, 9588699741557977945216957436593083855300, 1086163352446558665311242858998116525304, 82014861389355888677345977902165100536, 3968321378150032700216480987685636920, 116634409427105491958594427133152180, 1933681862384358263122391419576080, 16261417730692481255678999593392, 59134960393518455836007168208, 72042092984864479320451545, 18872355239674307237370, 450278683210766130, 137438953434, 1, 0],
  [0, 1, 274877906905, 1350840997434622014, 75505180712609605764030, 360852125002471323048328305, 357187151429611262833617910233, 115722242847439959376505226536400, 15973558848726333023905180344003792, 1107720140715480175521021586785652020, 43065611654886386268964048263717782420, 1013276473871115691056867224579013939656, 15248361486871312978023255711335856018120, 152893343803864238585912761009661119776804, 1053393017626346683384914187651421107839300, 5104402449981355756295519272078601633338800, 17704095746421782524456144933334680198181040, 44525389544572592605738099348032710959147950, 81945107988474726977614399802380949087347710, 111009720815037710423740263008973631965904500, 111009720815037710423740263008973631965904500, 81945107988474726977614399802380949087347710, 44525389544572592605738099348032710959147950, 17704095746421782524456144933334680198181040, 5104402449981355756295519272078601633338800, 1053393017626346683384914187651421107839300, 152893343803864238585912761009661119776804, 15248361486871312978023255711335856018120, 1013276473871115691056867224579013939656, 43065611654886386268964048263717782420, 1107720140715480175521021586785652020, 15973558848726333023905180344003792, 115722242847439959376505226536400, 357187151429611262833617910233, 360852125002471323048328305, 75505180712609605764030, 1350840997434622014, 274877906905, 1, 0],
  [0, 1, 549755813848, 4052533162786421527, 302069353126346069448624, 1806903306337297951443382575, 2155391880827751601985350623768, 821842875929256887309045976792489, 131491582560928742891289610001195136, 10464661590749837903430254871734985732, 463887720770328267955271130240747384800, 12394943950573977803425496870016969026396, 211352079110846995085871350824242662527808, 2399319229595760552023493797331662669587692, 18722729185669323770622530413371084623947104, 102900862190379003429055643772464552196064500, 405771190742301058542390781463241322371027840, 1164125824425435072360039022383253730863679070, 2454570513773142122923297382099576724673513680, 3830031963243685764580967393020498938186487410, 4440388832601508416949610520358945278636180000, 3830031963243685764580967393020498938186487410, 2454570513773142122923297382099576724673513680, 1164125824425435072360039022383253730863679070, 405771190742301058542390781463241322371027840, 102900862190379003429055643772464552196064500, 18722729185669323770622530413371084623947104, 2399319229595760552023493797331662669587692, 211352079110846995085871350824242662527808, 12394943950573977803425496870016969026396, 463887720770328267955271130240747384800, 10464661590749837903430254871734985732, 131491582560928742891289610001195136, 821842875929256887309045976792489, 2155391880827751601985350623768, 1806903306337297951443382575, 302069353126346069448624, 4052533162786421527, 549755813848, 1, 0]]
def T (k : Nat) : List Int := tabE.getD k []
def stepI (k : Nat) (r : List Int) : List Int := 0 :: ((List.range (k + 1)).map (fun j : Nat => (1 + (j : Int)) * r.getD (1 + j) 0 + (2 + (k : Int) - (1 + (j : Int))) * r.getD j 0) ++ [0])
theorem step_T : ∀ k : Fin 39, stepI k.val (T k.val) = T (k.val + 1) := by decide +kernel
theorem len_T : ∀ k : Fin 40, (T k.val).length = k.val + 2 := by decide +kernel
def chI (c : Int) : Nat → Int
  | 0 => 1
  | k + 1 => chI c k * (c - k) / (k + 1)
def sumI (c t : Int) : Nat → Int
  | 0 => 0
  | k + 1 => sumI c t k + (1 - 2 * ((k : Int) % 2)) * chI c k * (t - k) ^ (c - 1).toNat
theorem ch_small : ∀ c : Fin 41, ∀ k : Fin 41, -(2 ^ 64) < chI (c.val : Int) k.val ∧ chI (c.val : Int) k.val < 2 ^ 64 := by decide +kernel
theorem sum_T : ∀ c : Fin 40, ∀ t : Fin 41, 1 ≤ t.val → t.val ≤ c.val + 1 → (T c.val).getD t.val 0 = if (t.val : Int) > max 1 (c.val : Int) then 0 else sumI ((c.val : Int) + 1) (t.val : Int) t.val := by decide +kernel
def coI (c t : Int) : Int := if c < 1 ∨ t < 1 ∨ t > c then 0 else (T (c - 1).toNat).getD t.toNat 0
def accI (c : Int) : Nat → Int
  | 0 => 0
  | k + 1 => accI c k + coI c k
def prI : Nat → Int
  | 0 => 1
  | k + 1 => prI k * (k + 1)
theorem acc_T : ∀ c : Fin 41, accI (c.val : Int) (c.val + 2) = if (c.val : Int) = 0 then 0 else prI (c.val - 1) := by decide +kernel
theorem co_nn : ∀ c : Fin 41, ∀ t : Fin 43, 0 ≤ coI (c.val : Int) (t.val : Int) := by decide +kernel
theorem power_w {b t : Int} {cs : List C} {g : List Inst} {Q X} (h : -1000 ≤ b ∧ b ≤ 1000) (h2 : 0 ≤ t ∧ t ≤ 1000) (q : Q (.val (.int (b ^ t.toNat))) cs g) : wpD (d__law_power [.val (.int b), .val (.int t)] cs g) Q X := by
  refine v_den rfl ?_
  unfold b__law_power
  simp only [List.map_cons, List.map_nil, List.replicate, argS, List.cons_append, List.nil_append]
  repeat' wtm_at "vl"
  with_reducible refine v_for ?_
  with_reducible refine w_r1 ?_
  repeat' wtm_at "vl"
  refine ⟨fun i s => ∃ z, s = ⟨[.val (.int b), .val (.int t), .val (.int (b ^ i)), z], cs, g⟩, ⟨.no, by rw [Int.pow_zero]⟩, ?_, ?_⟩
  · intro i d s hd ⟨z, e⟩
    subst e
    obtain ⟨hi, rfl⟩ := rgD_get hd
    refine ⟨trivial, _, rfl, ?_⟩
    dsimp only [FS.setE, List.set]
    repeat' wtm_at "vl"
    · right; omega
    · exact ⟨_, by rw [Int.pow_succ]⟩
  · intro s ⟨z, e⟩
    subst e
    refine ⟨trivial, ?_⟩
    repeat' wtm_at "vl"
    dsimp only
    rw [rgD_len]
    exact q
theorem product_w {c : Nat} {cs : List C} {g : List Inst} {Q X} (h : c ≤ 40) (q : Q (.val (.int (if (c : Int) = 0 then 0 else prI (c - 1)))) cs g) : wpD (d__law_product [.val (.int c)] cs g) Q X := by
  refine v_den rfl ?_
  unfold b__law_product
  simp only [List.map_cons, List.map_nil, List.replicate, argS, List.cons_append, List.nil_append]
  repeat' wtm_at "vl"
  · rename_i h0
    rw [if_pos h0] at q
    exact q
  rename_i h0
  rw [if_neg h0] at q
  with_reducible refine v_for ?_
  with_reducible refine w_r1 ?_
  repeat' wtm_at "vl"
  refine ⟨fun i s => ∃ z, s = ⟨[.val (.int c), .val (.int (prI i)), z], cs, g⟩, ⟨_, rfl⟩, ?_, ?_⟩
  · intro i d s hd ⟨z, e⟩
    subst e
    obtain ⟨hi, rfl⟩ := rgD_get hd
    refine ⟨trivial, _, rfl, ?_⟩
    dsimp only [FS.setE, List.set]
    repeat' wtm_at "vl"
    · right; omega
    · exact ⟨_, by rw [Int.zero_add]; rfl⟩
  · intro s ⟨z, e⟩
    subst e
    refine ⟨trivial, ?_⟩
    repeat' wtm_at "vl"
    dsimp only
    rw [rgD_len, show ((c : Int) - 1).toNat = c - 1 by omega]
    exact q
theorem count_w {c : Nat} {t : Int} {cs : List C} {g : List Inst} {Q X} (h : c ≤ 40) (q : Q (.val (.int (coI c t))) cs g) : wpD (d__law_count [.val (.int c), .val (.int t)] cs g) Q X := by
  refine v_den rfl ?_
  unfold b__law_count
  simp only [List.map_cons, List.map_nil, List.replicate, argS, List.cons_append, List.nil_append]
  have z1 : ((c : Int) < 1 ∨ t < 1 ∨ t > (if (c : Int) - 1 > 1 then (c : Int) - 1 else 1)) → coI c t = 0 := fun h0 => by
    unfold coI
    split
    · rfl
    · rename_i hn
      have hc : 1 ≤ c := by omega
      have ht : 1 ≤ t := by omega
      have := sum_T ⟨c - 1, by omega⟩ ⟨t.toNat, by omega⟩ (show 1 ≤ t.toNat by omega) (show t.toNat ≤ c - 1 + 1 by omega)
      simp only [] at this
      rw [show ((c : Int) - 1).toNat = c - 1 by omega, this, if_pos (by split at h0 <;> omega)]
  have z2 : ¬ (c : Int) < 1 → ¬ t < 1 → ¬ (if (c : Int) - 1 > 1 then (c : Int) - 1 else 1) < t → coI c t = sumI c t t.toNat := fun h1 h2 h3 => by
    unfold coI
    have hc : 1 ≤ c := by omega
    have ht : 1 ≤ t := by omega
    have ht2 : t ≤ c := by split at h3 <;> omega
    rw [if_neg (by omega)]
    have := sum_T ⟨c - 1, by omega⟩ ⟨t.toNat, by omega⟩ (show 1 ≤ t.toNat by omega) (show t.toNat ≤ c - 1 + 1 by omega)
    simp only [] at this
    rw [show ((c : Int) - 1).toNat = c - 1 by omega, this, if_neg (by split at h3 <;> omega)]
    rw [show ((c - 1 : Nat) : Int) + 1 = c by omega, show ((t.toNat : Nat) : Int) = t by omega]
  repeat' wtm_at "vl"
  · rw [z1 (by omega)] at q; exact q
  · rw [z1 (by omega)] at q; exact q
  · rename_i h1
    rw [z1 (.inr (.inr h1))] at q; exact q
  rename_i h1 h2 h3
  rw [z2 h1 h2 h3] at q
  have ht2 : t ≤ 40 := by split at h3 <;> omega
  clear z1 z2
  with_reducible refine v_for ?_
  with_reducible refine w_r1 ?_
  repeat' wtm_at "vl"
  refine ⟨fun i s => ∃ z, s = ⟨[.val (.int c), .val (.int t), .val (.int (sumI c t i)), .val (.int (chI c i)), z], cs, g⟩, ⟨_, rfl⟩, ?_, ?_⟩
  · intro i d s hd ⟨z, e⟩
    subst e
    obtain ⟨hi, rfl⟩ := rgD_get hd
    refine ⟨trivial, _, rfl, ?_⟩
    dsimp only [FS.setE, List.set]
    have hs := ch_small ⟨c, by omega⟩ ⟨i, by omega⟩
    simp only [] at hs
    repeat' first
      | wtm_at "vl"
      | with_reducible refine power_w ?_ ?_ ?_
    all_goals first
      | exact ⟨_, by rw [Int.zero_add]; rfl⟩
      | (left; omega)
      | (right; omega)
      | (left; rcases (show (0 + (i : Int)) % 2 = 0 ∨ (0 + (i : Int)) % 2 = 1 by omega) with hp | hp <;> rw [hp] <;> omega)
      | omega
  · intro s ⟨z, e⟩
    subst e
    refine ⟨trivial, ?_⟩
    repeat' wtm_at "vl"
    dsimp only
    rw [rgD_len]
    exact q
theorem atI_T {r : List Int} {i : Int} {j : Nat} (h : i = (j : Int)) (h2 : j < r.length) : atI (r.map D.int) i = some (.int (r.getD j 0)) := by
  subst h
  rw [atI_ints (by omega) (by omega)]
  simp [List.getD_eq_getElem?_getD, List.getElem?_eq_getElem h2]
def rowF (i : Nat) (r : List Int) (x : Int) : Int := x * r.getD x.toNat 0 + (2 + (i : Int) - x) * r.getD (x - 1).toNat 0
theorem row_eq (i : Nat) (r : List Int) : [D.int 0] ++ (rgD 1 (2 + (i : Int) - 1).toNat).filterMap (mapI (rowF i r)) ++ [D.int 0] = (stepI i r).map D.int := by
  have e : rgD 1 (2 + (i : Int) - 1).toNat = ((List.range (i + 1)).map fun j : Nat => (1 + (j : Int))).map D.int := by
    unfold rgD
    rw [show (2 + (i : Int) - 1).toNat = i + 1 by omega, List.map_map]
    rfl
  rw [e, mapI_ints]
  unfold stepI
  rw [List.map_cons, List.map_append, List.map_map, List.map_map]
  have e2 : (List.range (i + 1)).map (D.int ∘ rowF i r ∘ fun j : Nat => (1 + (j : Int))) = ((List.range (i + 1)).map (fun j : Nat => (1 + (j : Int)) * r.getD (1 + j) 0 + (2 + (i : Int) - (1 + (j : Int))) * r.getD j 0)).map D.int := by
    rw [List.map_map]
    refine List.map_congr_left fun j _ => ?_
    simp only [Function.comp, rowF]
    rw [show (1 + (j : Int)).toNat = 1 + j by omega, show (1 + (j : Int) - 1).toNat = j by omega]
  rw [List.map_map] at e2 ⊢
  show D.int 0 :: ((List.range (i + 1)).map (D.int ∘ rowF i r ∘ fun j : Nat => (1 + (j : Int))) ++ [D.int 0]) = _
  rw [e2]
  rfl
theorem orders_w {c : Nat} {t : Int} {cs : List C} {g : List Inst} {Q X} (h : c ≤ 40) (q : Q (.val (.int (coI c t))) cs g) : wpD (d_count_orders [.val (.int c), .val (.int t)] cs g) Q X := by
  refine v_den rfl ?_
  unfold b_count_orders
  simp only [List.map_cons, List.map_nil, List.replicate, argS, List.cons_append, List.nil_append]
  have z1 : ((c : Int) < 1 ∨ t < 1 ∨ t > c) → coI c t = 0 := fun h0 => if_pos h0
  have z2 : ¬ (c : Int) < 1 → ¬ t < 1 → ¬ (c : Int) < t → coI c t = (T (c - 1)).getD t.toNat 0 := fun h1 h2 h3 => by
    unfold coI
    rw [if_neg (by omega), show ((c : Int) - 1).toNat = c - 1 by omega]
  repeat' wtm_at "vl"
  · rw [z1 (by omega)] at q; exact q
  · rw [z1 (by omega)] at q; exact q
  · rw [z1 (by omega)] at q; exact q
  rename_i h1 h2 h3
  rw [z2 h1 h2 h3] at q
  clear z1 z2
  with_reducible refine v_for ?_
  with_reducible refine w_r2 ?_
  repeat' wtm_at "vl"
  refine ⟨fun i s => ∃ a b, s = ⟨[.val (.int c), .val (.int t), .own (.lst ((T i).map D.int)), a, b, .no], cs, g⟩, ⟨_, _, rfl⟩, ?_, ?_⟩
  · intro i d s hd ⟨a, b, e⟩
    subst e
    obtain ⟨hi, rfl⟩ := rgD_get hd
    refine ⟨trivial, _, rfl, ?_⟩
    dsimp only [FS.setE, List.set]
    have hl := len_T ⟨i, by omega⟩
    have hst := step_T ⟨i, by omega⟩
    simp only [] at hl hst
    wtm_at "vl"
    wtm_at "vl"
    with_reducible refine w_lc_map (mapI (rowF i (T i))) ?_
    with_reducible refine w_r2 ?_
    repeat' wtm_at "vl"
    refine ⟨by rw [rgD_len]; have : sizeLine = 16777216 := rfl; omega, ⟨trivial, rfl⟩, ?_, ?_⟩
    · intro d hd
      obtain ⟨j, hj⟩ := List.getElem?_of_mem hd
      obtain ⟨hj2, rfl⟩ := rgD_get hj
      refine ⟨_, rfl, ?_⟩
      dsimp only [FS.setE, List.set, wipeE]
      have x1 : atI ((T i).map D.int) (1 + (j : Int)) = some (.int ((T i).getD (1 + (j : Int)).toNat 0)) := atI_T (by omega) (by omega)
      have x2 : atI ((T i).map D.int) (1 + (j : Int) - 1) = some (.int ((T i).getD (1 + (j : Int) - 1).toNat 0)) := atI_T (by omega) (by omega)
      repeat' first
        | (with_reducible refine w_ixl ?_ x1 ?_; (with_unfolding_all rfl))
        | (with_reducible refine w_ixl ?_ x2 ?_; (with_unfolding_all rfl))
        | wtm_at "vl"
      all_goals first
        | exact ⟨rfl, rfl⟩
        | (left; omega)
    · dsimp only
      repeat' wtm_at "vl"
      have hfl := List.length_filterMap_le (mapI (rowF i (T i))) (rgD 1 (2 + (i : Int) - 1).toNat)
      rw [rgD_len] at hfl
      have hz : sizeLine = 16777216 := rfl
      refine w_addl rfl rfl ?_ ?_
      · rw [List.length_singleton]; omega
      repeat' wtm_at "vl"
      refine w_addl rfl rfl ?_ ?_
      · rw [List.length_append, List.length_singleton]; omega
      repeat' wtm_at "vl"
      exact ⟨_, _, by rw [row_eq, hst]⟩
  · intro s ⟨a, b, e⟩
    subst e
    refine ⟨trivial, ?_⟩
    have hl := len_T ⟨c - 1, by omega⟩
    simp only [] at hl
    dsimp only
    rw [rgD_len, show ((c : Int) + 1 - 2).toNat = c - 1 by omega]
    have hx : atI ((T (c - 1)).map D.int) t = some (.int ((T (c - 1)).getD t.toNat 0)) := atI_T (by omega) (by omega)
    repeat' first
      | (with_reducible refine w_ixl ?_ hx ?_; (with_unfolding_all rfl))
      | wtm_at "vl"
    exact q
theorem orders_wI {x t : Int} {cs : List C} {g : List Inst} {Q X} (h0 : 0 ≤ x) (h : x ≤ 40) (q : Q (.val (.int (coI x t))) cs g) : wpD (d_count_orders [.val (.int x), .val (.int t)] cs g) Q X := by
  obtain ⟨c, rfl⟩ := Int.eq_ofNat_of_zero_le h0
  exact orders_w (by omega) q
theorem count_wI {x t : Int} {cs : List C} {g : List Inst} {Q X} (h0 : 0 ≤ x) (h : x ≤ 40) (q : Q (.val (.int (coI x t))) cs g) : wpD (d__law_count [.val (.int x), .val (.int t)] cs g) Q X := by
  obtain ⟨c, rfl⟩ := Int.eq_ofNat_of_zero_le h0
  exact count_w (by omega) q
theorem product_wI {x : Int} {cs : List C} {g : List Inst} {Q X} (h0 : 0 ≤ x) (h : x ≤ 40) (q : Q (.val (.int (accI x (x + 2).toNat))) cs g) : wpD (d__law_product [.val (.int x)] cs g) Q X := by
  obtain ⟨c, rfl⟩ := Int.eq_ofNat_of_zero_le h0
  refine product_w (by omega) ?_
  have := acc_T ⟨c, by omega⟩
  simp only [] at this
  rw [show ((c : Int) + 2).toNat = c + 2 by omega, this] at q
  exact q
theorem same_int {i : Int} {cs : List C} {g : List Inst} {Q : R → List C → List Inst → Prop} {X : Ex → List C → List Inst → Prop} (q : Q (.val (.bl true)) cs g) : wpD (d__law_same [.val (.int i), .val (.int i)] cs g) Q X :=
  same_d (d := .int i) trivial rfl rfl q
local macro_rules | `(tactic| wtm_at "vl") => `(tactic| first
  | with_reducible refine orders_wI ?_ ?_ ?_
  | with_reducible refine count_wI ?_ ?_ ?_
  | with_reducible refine product_wI ?_ ?_ ?_
  | with_reducible refine same_int ?_)
theorem loop_w {x : Int} {e0 e1 e3 e4 e5 : S} {cs : List C} {g : List Inst} {Q : SRes → Prop} (h0 : 0 ≤ x) (h : x ≤ 40) (q : ∀ a b, Q (.next ⟨[e0, e1, .val (.int x), e3, e4, e5, .val (.int (accI x (x + 2).toNat)), a, b], cs, g⟩)) :
    wpS (sFor (iR1 (eCons (eB kAdd (eVar 2) (eD (.int 2))) eNil)) (gSet 7)
  (sSeq (sSet 8 (eCall d_count_orders (eCons (eVar 2) (eCons (eVar 7) eNil))))
  (sSeq (sIf (mOr (mNot (eT (eIsT "int" (eVar 8)))) (mOr (eT (eIsT "bool" (eVar 8))) (eT (eB (kII pLt) (eVar 8) (eD (.int 0))))))
  (sRet (eD (.bl false)))
  sNil)
  (sSet 6 (eB kAdd (eVar 6) (eVar 8))))) ⟨[e0, e1, .val (.int x), e3, e4, e5, .val (.int 0), .no, .no], cs, g⟩) Q := by
  with_reducible refine v_for ?_
  with_reducible refine w_r1 ?_
  repeat' wtm_at "vl"
  refine ⟨fun i s => ∃ a b, s = ⟨[e0, e1, .val (.int x), e3, e4, e5, .val (.int (accI x i)), a, b], cs, g⟩, ⟨_, _, rfl⟩, ?_, ?_⟩
  · intro i d s hd ⟨a, b, e⟩
    subst e
    obtain ⟨hi, rfl⟩ := rgD_get hd
    refine ⟨trivial, _, rfl, ?_⟩
    dsimp only [FS.setE, List.set]
    have hn : 0 ≤ coI x (0 + (i : Int)) := by
      rw [Int.zero_add]
      obtain ⟨c, rfl⟩ := Int.eq_ofNat_of_zero_le h0
      exact co_nn ⟨c, by omega⟩ ⟨i, by omega⟩
    repeat' wtm_at "vl"
    · rename_i hneg
      omega
    · exact ⟨_, _, by rw [Int.zero_add]; rfl⟩
  · intro s ⟨a, b, e⟩
    subst e
    refine ⟨trivial, ?_⟩
    dsimp only
    rw [rgD_len]
    exact q a b
theorem law_w {ns : List Int} (h : ns.length ≤ sizeLine) : wpD (d_law [.val (.frz (ns.map D.int))] [] []) (fun r _ _ => r = .val (.bl true)) X0 := by
  refine v_den rfl ?_
  unfold b_law
  simp only [List.map_cons, List.map_nil, List.replicate, argS, List.cons_append, List.nil_append]
  repeat' first
    | wtm_at "vl"
    | with_reducible refine loop_w ?_ ?_ (fun _ _ => ?_)
  all_goals first
    | rfl
    | (rw [decide_eq_true rfl])
    | (left; omega)
    | trace_state
end Lk05
open PySem PySem.W PySem.Calls PyProof.Rows
theorem PySem.Challenge.cw_ringlaps_k05_count_orders_holds : PySem.Challenge.rw_ringlaps_k05_count_orders.Holds := by
  w_on; o_law
  refine HandSHeadRun.head_any (r := OpenLaw.row PySem.Challenge.rw_ringlaps_k05_count_orders) (q := view (OpenLaw.row PySem.Challenge.rw_ringlaps_k05_count_orders).prog [10]) (H := Lk05.hk) (ob := Lk05.ob) (M := 4000) (loose := ["count_orders", "_law_tape", "_law_pick", "_law_same", "_law_wide", "_law_power", "_law_count", "_law_product"]) (d := HandSHeadRun.topDef (OpenLaw.row PySem.Challenge.rw_ringlaps_k05_count_orders).prog 10) (kwd := []) Lk05.ob_eq
    (by kernel_rfl) (fun s => by kernel_rfl) Lk05.run (by kernel_rfl) (by kernel_rfl) (by kernel_rfl) (by rfl) (by first | assumption | decide +kernel) (by decide +kernel) ⟨rfl, rfl, rfl, rfl, rfl, by decide +kernel⟩ ?hw ?hc
  case hw => w_witness2
  case hc =>
    refine LamX.walk_ofTsE (l := PySem.Challenge.rw_ringlaps_k05_count_orders) (n := 63) (k := 13) (x := "script") (CX := fun w => L2.CX PySem.Challenge.rw_ringlaps_k05_count_orders.prog w) rfl (by decide) (by kernel_rfl) ⟨rfl, by decide, by decide⟩ ?F (fun w => VL.cx_false)
    intro w mg fa h Y G hmg0
    obtain ⟨K, KX, c⟩ := Y
    have hmg : mg ("law" : PySem.Str) = some (.ref fa) := by
      have e : (HandSHeadRun.topDef (OpenLaw.row PySem.Challenge.rw_ringlaps_k05_count_orders).prog 10).name = ("law" : PySem.Str) := by kernel_rfl
      rw [← e]
      exact hmg0
    exact ⟨K, KX, VL.lawAt hmg (fun base => Lk05.ok_law ⟨⟨h, KX, G⟩, c⟩) fun ns hl hb => Lk05.law_w (Nat.le_trans hl (by decide))⟩

