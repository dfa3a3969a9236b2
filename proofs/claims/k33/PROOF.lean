import PyProof.Rows.All
import HandS.ForMost
import HandS.ForExc
import HandS.Defaults
import HandS.HeadHook1
import HandS.HeadHook2
import HandS.Lambda
import HandS.TupAny
import HandS.Flow
import HandS.IsInst
import HandS.Zip
import HandS.Rev
import HandS.StrMore
import HandS.CallSlots
import HandS.Deep
import HandS.More
import HandS.Strs
import PyProof.StrLawsChain
import PyProof.StrLawsTight
import HandS.ReplaceLit
import HandS.HeadEnd
import Wide.All
import OpenK.AllK
import Wide.FinOn
import KE.KStateDown
import HandS.Head0
import HandS.Head1
import HandS.Head2
import PySem.Challenge.RW_mastershow_k33_whole_rows_lose_no_word
import HandS.ReplaceList
set_option Elab.async false
set_option linter.all false
set_option maxRecDepth 100000
set_option maxHeartbeats 0
/-! F1 -/
namespace MS
open PySem PySem.Spec PyProof.Rows L2

/-! values as trees -/
inductive D where
  | non | bl (b : Bool) | int (i : Int) | str (s : Str)
  | tup (xs : List D) | lst (xs : List D) | dct (kvs : List (Key × D))
  | fn (x : Str) | exc (c : Str) | pen

structure Pen where
  cells : List Int
  at_ : Int
  rest : Int
abbrev PS := Option Pen
inductive R (α : Type) where
  | ok (a : α) (p : PS)
  | exc (c : Str) (p : PS)
  | stuck
def M (α : Type) := PS → R α
namespace M
def pure {α} (a : α) : M α := fun p => .ok a p
def bind {α β} (m : M α) (f : α → M β) : M β := fun p => match m p with
  | .ok a p' => f a p'
  | .exc c p' => .exc c p'
  | .stuck => .stuck
def throw {α} (c : Str) : M α := fun p => .exc c p
def stuck {α} : M α := fun _ => .stuck
end M
instance : Monad M where
  pure := M.pure
  bind := M.bind

/- the tree d is told by the value v at the heap H; lists and dicts lie where S lets them -/
mutual
def Rep (K : PySem.W.Frag) (po : Option Addr) (S : Addr → Prop) (H : Hp) : D → V → Prop
  | .non, v => v = .non
  | .bl b, v => v = .bl b
  | .int i, v => v = .int i
  | .str s, v => v = .str s ∧ s.length ≤ sizeLine ∧ PyData.strOk s = true
  | .tup ds, v => ∃ a vs, v = .ref a ∧ SqT K H a vs ∧ ds.length ≤ sizeLine ∧ Reps K po S H ds vs
  | .lst ds, v => ∃ a vs, v = .ref a ∧ S a ∧ H a = some (.lst vs) ∧ ds.length ≤ sizeLine ∧ Reps K po S H ds vs
  | .dct kvs, v => ∃ a vs, v = .ref a ∧ S a ∧ H a = some (.dK vs) ∧ kvs.length ≤ sizeLine ∧ RepKs K po S H kvs vs
  | .fn x, v => v = .ref (He.ga K x)
  | .exc c, v => ∃ a, v = .ref a ∧ False
  | .pen, v => ∃ a, v = .ref a ∧ po = some a
def Reps (K : PySem.W.Frag) (po : Option Addr) (S : Addr → Prop) (H : Hp) : List D → List V → Prop
  | [], vs => vs = []
  | d :: ds, vs => ∃ v r, vs = v :: r ∧ Rep K po S H d v ∧ Reps K po S H ds r
def RepKs (K : PySem.W.Frag) (po : Option Addr) (S : Addr → Prop) (H : Hp) : List (Key × D) → List (Key × V) → Prop
  | [], vs => vs = []
  | (k, d) :: ds, vs => ∃ v r, vs = (k, v) :: r ∧ Rep K po S H d v ∧ RepKs K po S H ds r
end

/-- what stays: all but the tables; lists and dicts only where S says so -/
def keptO (S : Addr → Prop) (a : Addr) : HO → Prop
  | .tbl _ => False
  | .lst _ => S a
  | .dK _ => S a
  | _ => True
structure Keep (S : Addr → Prop) (H H' : Hp) : Prop where
  kept : ∀ a o, H a = some o → keptO S a o → H' a = some o
  there : ∀ a, H' a = none → H a = none
theorem Keep.refl {S} (H : Hp) : Keep S H H := ⟨fun _ _ h _ => h, fun _ h => h⟩
theorem Keep.trans {S} {H H1 H2 : Hp} (a : Keep S H H1) (b : Keep S H1 H2) : Keep S H H2 := ⟨fun x o h k => b.kept x o (a.kept x o h k) k, fun x h => a.there x (b.there x h)⟩
theorem keptO_mono {S S' : Addr → Prop} {a : Addr} {o : HO} (h : S a → S' a) (k : keptO S a o) : keptO S' a o := by
  cases o <;> first | exact h k | exact k
theorem Keep.mono {S S' : Addr → Prop} {H H' : Hp} (h : Keep S H H') (i : ∀ a, S' a → S a) : Keep S' H H' := ⟨fun a o e k => h.kept a o e (keptO_mono (i a) k), h.there⟩
theorem upd_none' {H : Hp} {a b : Addr} {o : HO} (e : upd H a o b = none) : H b = none := by
  unfold upd at e
  split at e
  · cases e
  · exact e
theorem Keep.new {S} {H : Hp} {p : Addr} {o : HO} (h : H p = none) : Keep S H (upd H p o) := ⟨fun a u e _ => by
  rw [upd_ne (ne_of_none e h)]
  exact e, fun a e => upd_none' e⟩
theorem Keep.write {S} {H : Hp} {p : Addr} {xs : List V} {o : HO} (h : H p = some (.lst xs)) (n : ¬ S p) : Keep S H (upd H p o) := ⟨fun a u e k => by
  rw [upd_ne]
  · exact e
  · rintro rfl
    rw [h] at e
    cases e
    exact n k, fun a e => upd_none' e⟩
theorem keep_rd {S} {H H' : Hp} {a : Addr} {u : HO} (e : Keep S H H') (k : keptO S a u) (h : Rd H a u) : Rd H' a u := by
  rcases h with h | ⟨o, h⟩
  · exact .inl (e.kept a _ h k)
  · exact .inr ⟨o, e.kept a _ h trivial⟩
theorem keep_l {S} {K : PySem.W.Frag} {H H' : Hp} {a : Addr} {xs : List V} (e : Keep S H H') (k : S a) (h : SqL K H a xs) : SqL K H' a xs := by
  rcases h with h | h
  · exact .inl (keep_rd e k h)
  · exact .inr h
theorem keep_t {S} {K : PySem.W.Frag} {H H' : Hp} {a : Addr} {xs : List V} (e : Keep S H H') (h : SqT K H a xs) : SqT K H' a xs := by
  rcases h with h | h
  · exact .inl (keep_rd e trivial h)
  · exact .inr h

mutual
theorem Rep.monoH {K : PySem.W.Frag} {po : Option Addr} {S S' : Addr → Prop} {H H' : Hp} (i : ∀ a o, H a = some o → S a → S' a) (e : Keep S H H') : ∀ {d : D} {v : V}, Rep K po S H d v → Rep K po S' H' d v
  | .non, v, h => by unfold Rep at h ⊢; exact h
  | .bl b, v, h => by unfold Rep at h ⊢; exact h
  | .int j, v, h => by unfold Rep at h ⊢; exact h
  | .str s, v, h => by unfold Rep at h ⊢; exact h
  | .tup ds, v, h => by
    unfold Rep at h ⊢
    obtain ⟨a, vs, e1, e2, z, e3⟩ := h
    exact ⟨a, vs, e1, keep_t e e2, z, Reps.monoH i e e3⟩
  | .lst ds, v, h => by
    unfold Rep at h ⊢
    obtain ⟨a, vs, e1, e0, e2, z, e3⟩ := h
    exact ⟨a, vs, e1, i a _ e2 e0, e.kept a _ e2 e0, z, Reps.monoH i e e3⟩
  | .dct kvs, v, h => by
    unfold Rep at h ⊢
    obtain ⟨a, vs, e1, e0, e2, z, e3⟩ := h
    exact ⟨a, vs, e1, i a _ e2 e0, e.kept a _ e2 e0, z, RepKs.monoH i e e3⟩
  | .fn x, v, h => by unfold Rep at h ⊢; exact h
  | .exc c, v, h => by unfold Rep at h ⊢; exact h
  | .pen, v, h => by unfold Rep at h ⊢; exact h
theorem Reps.monoH {K : PySem.W.Frag} {po : Option Addr} {S S' : Addr → Prop} {H H' : Hp} (i : ∀ a o, H a = some o → S a → S' a) (e : Keep S H H') : ∀ {ds : List D} {vs : List V}, Reps K po S H ds vs → Reps K po S' H' ds vs
  | [], vs, h => by unfold Reps at h ⊢; exact h
  | d :: ds, vs, h => by
    unfold Reps at h ⊢
    obtain ⟨v, r, e1, e2, e3⟩ := h
    exact ⟨v, r, e1, Rep.monoH i e e2, Reps.monoH i e e3⟩
theorem RepKs.monoH {K : PySem.W.Frag} {po : Option Addr} {S S' : Addr → Prop} {H H' : Hp} (i : ∀ a o, H a = some o → S a → S' a) (e : Keep S H H') : ∀ {ds : List (Key × D)} {vs : List (Key × V)}, RepKs K po S H ds vs → RepKs K po S' H' ds vs
  | [], vs, h => by unfold RepKs at h ⊢; exact h
  | (k, d) :: ds, vs, h => by
    unfold RepKs at h ⊢
    obtain ⟨v, r, e1, e2, e3⟩ := h
    exact ⟨v, r, e1, Rep.monoH i e e2, RepKs.monoH i e e3⟩
end
section
variable {K : PySem.W.Frag} {po : Option Addr} {S S' : Addr → Prop} {H H' : Hp}
theorem Rep.mono (i : ∀ a, S a → S' a) (e : Keep S H H') {d : D} {v : V} (h : Rep K po S H d v) : Rep K po S' H' d v := Rep.monoH (fun a _ _ => i a) e h
theorem Reps.mono (i : ∀ a, S a → S' a) (e : Keep S H H') {d : List D} {v : List V} (h : Reps K po S H d v) : Reps K po S' H' d v := Reps.monoH (fun a _ _ => i a) e h
theorem RepKs.mono (i : ∀ a, S a → S' a) (e : Keep S H H') {d : List (Key × D)} {v : List (Key × V)} (h : RepKs K po S H d v) : RepKs K po S' H' d v := RepKs.monoH (fun a _ _ => i a) e h
end
section
variable {K : PySem.W.Frag} {po : Option Addr} {S : Addr → Prop} {H : Hp}
theorem Reps.nil_iff {vs : List V} : Reps K po S H [] vs ↔ vs = [] := by unfold Reps; exact Iff.rfl
theorem Reps.cons_iff {d : D} {ds : List D} {vs : List V} : Reps K po S H (d :: ds) vs ↔ ∃ v r, vs = v :: r ∧ Rep K po S H d v ∧ Reps K po S H ds r := by
  constructor
  · intro h; unfold Reps at h; exact h
  · intro h; unfold Reps; exact h
theorem Reps.nil : Reps K po S H [] [] := Reps.nil_iff.mpr rfl
theorem Reps.cons {d : D} {v : V} {ds : List D} {vs : List V} (h : Rep K po S H d v) (t : Reps K po S H ds vs) : Reps K po S H (d :: ds) (v :: vs) := Reps.cons_iff.mpr ⟨v, vs, rfl, h, t⟩
theorem Reps.length : ∀ {ds : List D} {vs : List V}, Reps K po S H ds vs → ds.length = vs.length
  | [], vs, h => by rw [Reps.nil_iff] at h; subst h; rfl
  | d :: ds, vs, h => by
    obtain ⟨v, r, rfl, _, t⟩ := Reps.cons_iff.mp h
    simp only [List.length_cons, Reps.length t]
theorem Reps.get : ∀ {ds : List D} {vs : List V} {i : Nat} {v : V}, Reps K po S H ds vs → vs[i]? = some v → ∃ d, ds[i]? = some d ∧ Rep K po S H d v
  | [], vs, i, v, h, e => by rw [Reps.nil_iff] at h; subst h; simp at e
  | d :: ds, vs, 0, v, h, e => by
    obtain ⟨w, r, rfl, q, _⟩ := Reps.cons_iff.mp h
    simp at e; subst e
    exact ⟨d, rfl, q⟩
  | d :: ds, vs, i + 1, v, h, e => by
    obtain ⟨w, r, rfl, _, t⟩ := Reps.cons_iff.mp h
    obtain ⟨d', e1, e2⟩ := Reps.get (i := i) t (by simpa using e)
    exact ⟨d', by simpa using e1, e2⟩
theorem Reps.getD : ∀ {ds : List D} {vs : List V} {i : Nat} {d : D}, Reps K po S H ds vs → ds[i]? = some d → ∃ v, vs[i]? = some v ∧ Rep K po S H d v
  | [], vs, i, d, h, e => by simp at e
  | c :: ds, vs, 0, d, h, e => by
    obtain ⟨w, r, rfl, q, _⟩ := Reps.cons_iff.mp h
    simp at e; subst e
    exact ⟨w, rfl, q⟩
  | c :: ds, vs, i + 1, d, h, e => by
    obtain ⟨w, r, rfl, _, t⟩ := Reps.cons_iff.mp h
    obtain ⟨v, e1, e2⟩ := Reps.getD (i := i) t (by simpa using e)
    exact ⟨v, by simpa using e1, e2⟩
theorem Reps.append : ∀ {ds es : List D} {vs ws : List V}, Reps K po S H ds vs → Reps K po S H es ws → Reps K po S H (ds ++ es) (vs ++ ws)
  | [], es, vs, ws, h, t => by rw [Reps.nil_iff] at h; subst h; exact t
  | d :: ds, es, vs, ws, h, t => by
    obtain ⟨w, r, rfl, q, h2⟩ := Reps.cons_iff.mp h
    exact .cons q (Reps.append h2 t)
theorem Reps.take (n : Nat) : ∀ {ds : List D} {vs : List V}, Reps K po S H ds vs → Reps K po S H (ds.take n) (vs.take n) := by
  induction n with
  | zero => intro ds vs _; simp; exact .nil
  | succ n ih =>
    intro ds vs h
    cases ds with
    | nil => rw [Reps.nil_iff] at h; subst h; simp; exact .nil
    | cons d ds =>
      obtain ⟨w, r, rfl, q, h2⟩ := Reps.cons_iff.mp h
      exact .cons q (ih h2)
theorem Reps.drop (n : Nat) : ∀ {ds : List D} {vs : List V}, Reps K po S H ds vs → Reps K po S H (ds.drop n) (vs.drop n) := by
  induction n with
  | zero => intro ds vs h; simpa using h
  | succ n ih =>
    intro ds vs h
    cases ds with
    | nil => rw [Reps.nil_iff] at h; subst h; simp; exact .nil
    | cons d ds =>
      obtain ⟨w, r, rfl, q, h2⟩ := Reps.cons_iff.mp h
      simpa using ih h2
theorem Reps.set {d : D} {v : V} (q : Rep K po S H d v) : ∀ {ds : List D} {vs : List V} (i : Nat), Reps K po S H ds vs → Reps K po S H (ds.set i d) (vs.set i v)
  | [], vs, i, h => by rw [Reps.nil_iff] at h; subst h; simp; exact .nil
  | c :: ds, vs, 0, h => by
    obtain ⟨w, r, rfl, _, h2⟩ := Reps.cons_iff.mp h
    exact .cons q h2
  | c :: ds, vs, i + 1, h => by
    obtain ⟨w, r, rfl, q2, h2⟩ := Reps.cons_iff.mp h
    exact .cons q2 (Reps.set q i h2)
end
end MS
/-! F2 -/
namespace MS
open PySem PySem.Spec PyProof.Rows L2

section
variable {α β : Type} {m : M α} {f : α → M β} {a : α} {p p1 : PS} {c : Str}
theorem bind_ok (e : m p = .ok a p1) : M.bind m f p = f a p1 := by unfold M.bind; simp only [e]
theorem bind_exc (e : m p = .exc c p1) : M.bind m f p = .exc c p1 := by unfold M.bind; simp only [e]
theorem bind_inv {b : β} {p' : PS} (e : M.bind m f p = .ok b p') : ∃ a p1, m p = .ok a p1 ∧ f a p1 = .ok b p' := by
  unfold M.bind at e
  cases q : m p with
  | ok a p1 => rw [q] at e; exact ⟨a, p1, rfl, e⟩
  | exc c p1 => rw [q] at e; cases e
  | stuck => rw [q] at e; cases e
theorem bind_stuck (e : m p = .stuck) : M.bind m f p = .stuck := by unfold M.bind; simp only [e]
end
inductive Cel where
  | un | val (d : D) | own (d : D)
abbrev Rho := List Cel

/-- what is fixed for a body's run: the pen's and its cells' addresses, the heap at the entry, where the arguments' lists lie -/
structure Ctx where
  pp : Option (Addr × Addr)
  H0 : Hp
  Sa : Addr → Prop
  ex : List Addr := []
def Ctx.po (C : Ctx) : Option Addr := C.pp.map (·.1)
abbrev Ctx.kp (C : Ctx) : Addr → Prop := fun a => C.po ≠ some a

/-- the code's own facts -/
structure G where
  P : Program
  w : World
  K : PySem.W.Frag
  mg : Str → Option Value
  base : Heap
  N : List Str
  sc : Scope
  k : Nat
  T : List (Addr × Str)
  W : WX
  fk : Str → Bool := fun _ => true

structure G.Ok (g : G) (X : Cx) : Prop where
  prog : X.prog = g.P
  w : X.w = g.w
  K : X.K = g.K
  mg : X.mg = g.mg
  base : X.base = g.base
  N : X.N = g.N
  sc : X.env.scope = g.sc
  calm : X.calm = true
  room : Room g.k X.A
  tk : Takes X g.W
  po : PassesOwn (model X.prog X.w) X.A X.env X.xe
  fn : ∀ x, g.fk x = true → X.fn x = true

def PenOk (pp : Option (Addr × Addr)) (p : PS) (H : Hp) : Prop := match pp, p with
  | some (pa, ca), some pn => ca ≠ pa ∧ H pa = some (.lst [.ref ca, .int pn.at_, .int pn.rest]) ∧ H ca = some (.lst (pn.cells.map V.int)) ∧ pn.cells.length ≤ sizeLine
  | none, none => True
  | _, _ => False

def Own (ρ : Rho) (σ : L2.St) (a : Addr) : Prop := ∃ (i : Nat) (d : D), ρ[i]? = some (.own d) ∧ σ[i]? = some (some (.ref a))
def Sv (C : Ctx) (ρ : Rho) (σ : L2.St) (a : Addr) : Prop := ¬ Own ρ σ a ∧ C.po ≠ some a ∧ (C.H0 a = none ∨ C.Sa a) ∧ a ∉ C.ex
/-- a list or dict with everything but itself in S -/
def OwnRep (K : PySem.W.Frag) (po : Option Addr) (S : Addr → Prop) (H : Hp) (d : D) (a : Addr) : Prop := match d with
  | .lst ds => ∃ vs, H a = some (.lst vs) ∧ ds.length ≤ sizeLine ∧ Reps K po S H ds vs
  | .dct kvs => ∃ vs, H a = some (.dK vs) ∧ kvs.length ≤ sizeLine ∧ RepKs K po S H kvs vs
  | _ => False

structure Rel (g : G) (C : Ctx) (ρ : Rho) (p : PS) (σ : L2.St) (H : Hp) : Prop where
  len : σ.length = ρ.length
  ext : Keep C.kp C.H0 H
  pen : PenOk C.pp p H
  pen0 : ∀ pa ca, C.pp = some (pa, ca) → (∃ xs, C.H0 pa = some (.lst xs)) ∧ (∃ xs, C.H0 ca = some (.lst xs)) ∧ ca ≠ pa
  tab : LamX.Tabs g.T H
  val : ∀ (i : Nat) (d : D), ρ[i]? = some (.val d) → ∃ v, σ[i]? = some (some v) ∧ Rep g.K C.po (Sv C ρ σ) H d v
  own : ∀ (i : Nat) (d : D), ρ[i]? = some (.own d) → ∃ a, σ[i]? = some (some (.ref a)) ∧ C.H0 a = none ∧ OwnRep g.K C.po (Sv C ρ σ) H d a
  exs : ∀ a ∈ C.ex, C.H0 a = none ∧ ¬ Own ρ σ a ∧ ∃ xs, H a = some (.lst xs)
  inj : ∀ (i j : Nat) (d d' : D) (a : Addr), ρ[i]? = some (.own d) → ρ[j]? = some (.own d') → σ[i]? = some (some (.ref a)) → σ[j]? = some (some (.ref a)) → i = j

theorem OwnRep.mono {K : PySem.W.Frag} {po : Option Addr} {S S' : Addr → Prop} {H H' : Hp} {d : D} {a : Addr} (i : ∀ b, S b → S' b) (e : Keep S H H') (h : OwnRep K po S H d a) (ha : ∀ o, H a = some o → (∃ xs, o = .lst xs) ∨ (∃ kvs, o = .dK kvs) → H' a = some o) : OwnRep K po S' H' d a := by
  unfold OwnRep at h ⊢
  cases d with
  | lst ds =>
    obtain ⟨vs, h1, h2, h3⟩ := h
    exact ⟨vs, ha _ h1 (.inl ⟨_, rfl⟩), h2, h3.mono i e⟩
  | dct kvs =>
    obtain ⟨vs, h1, h2, h3⟩ := h
    exact ⟨vs, ha _ h1 (.inr ⟨_, rfl⟩), h2, h3.mono i e⟩
  | _ => exact h

section
variable {g : G} {C : Ctx} {ρ : Rho} {p p' : PS} {σ : L2.St} {H H' : Hp}
theorem Rel.po_ne_own (R : Rel g C ρ p σ H) {a : Addr} (h : Own ρ σ a) : C.po ≠ some a := by
  obtain ⟨i, d, e1, e2⟩ := h
  obtain ⟨b, e3, e4, _⟩ := R.own i d e1
  rw [e2] at e3; cases e3
  intro z
  unfold Ctx.po at z
  cases q : C.pp with
  | none => rw [q] at z; cases z
  | some x =>
    rw [q] at z
    obtain ⟨pa, ca⟩ := x
    obtain rfl : pa = a := Option.some.inj z
    obtain ⟨⟨xs, h1⟩, _⟩ := R.pen0 _ _ q
    rw [h1] at e4; cases e4
theorem Rel.new_ne (R : Rel g C ρ p σ H) {a : Addr} (h : C.H0 a = none) : C.po ≠ some a := by
  intro z
  unfold Ctx.po at z
  cases q : C.pp with
  | none => rw [q] at z; cases z
  | some x =>
    rw [q] at z
    obtain ⟨pa, ca⟩ := x
    obtain rfl : pa = a := Option.some.inj z
    obtain ⟨⟨xs, h1⟩, _⟩ := R.pen0 _ _ q
    rw [h1] at h; cases h
theorem Rel.ex_ne (R : Rel g C ρ p σ H) {a : Addr} (h : a ∈ C.ex) : C.po ≠ some a := R.new_ne (R.exs a h).1
theorem Rel.own_new (R : Rel g C ρ p σ H) {a : Addr} (h : Own ρ σ a) : C.H0 a = none := by
  obtain ⟨i, d, e1, e2⟩ := h
  obtain ⟨b, e3, e4, _⟩ := R.own i d e1
  rw [e2] at e3; cases e3
  exact e4
theorem Rel.own_there (R : Rel g C ρ p σ H) {a : Addr} (h : Own ρ σ a) : ∃ o, H a = some o ∧ ((∃ xs, o = .lst xs) ∨ ∃ kvs, o = .dK kvs) := by
  obtain ⟨i, d, e1, e2⟩ := h
  obtain ⟨b, e3, e4, e5⟩ := R.own i d e1
  rw [e2] at e3; cases e3
  unfold OwnRep at e5
  cases d with
  | lst ds => obtain ⟨vs, h1, _⟩ := e5; exact ⟨_, h1, .inl ⟨_, rfl⟩⟩
  | dct ds => obtain ⟨vs, h1, _⟩ := e5; exact ⟨_, h1, .inr ⟨_, rfl⟩⟩
  | _ => exact e5.elim
/-- an expression has run: everything but the pen and the tables stays -/
theorem Rel.go (R : Rel g C ρ p σ H) (k : Keep C.kp H H') (hp : PenOk C.pp p' H') (ht : LamX.Tabs g.T H') : Rel g C ρ p' σ H' where
  len := R.len
  ext := R.ext.trans k
  pen := hp
  pen0 := R.pen0
  tab := ht
  val := fun i d e => by
    obtain ⟨v, e1, e2⟩ := R.val i d e
    exact ⟨v, e1, e2.mono (fun _ z => z) (k.mono fun a z => z.2.1)⟩
  own := fun i d e => by
    obtain ⟨a, e1, e2, e3⟩ := R.own i d e
    refine ⟨a, e1, e2, e3.mono (fun _ z => z) (k.mono fun a z => z.2.1) fun o h1 h2 => k.kept a o h1 ?_⟩
    have ne := R.po_ne_own ⟨i, d, e, e1⟩
    rcases h2 with ⟨xs, rfl⟩ | ⟨kvs, rfl⟩ <;> exact ne
  exs := fun a ha => by
    obtain ⟨h1, h2, xs, h3⟩ := R.exs a ha
    exact ⟨h1, h2, xs, k.kept a _ h3 (R.ex_ne ha)⟩
  inj := R.inj
theorem PenOk.keepNew {pp : Option (Addr × Addr)} {q : Addr} {o : HO} (h : PenOk pp p H) (n : H q = none) : PenOk pp p (upd H q o) := by
  unfold PenOk at h ⊢
  cases pp with
  | none => cases p <;> exact h
  | some x =>
    obtain ⟨pa, ca⟩ := x
    cases p with
    | none => exact h
    | some pn =>
      obtain ⟨h1, h2, h3, h4⟩ := h
      exact ⟨h1, by rw [upd_ne (ne_of_none h2 n)]; exact h2, by rw [upd_ne (ne_of_none h3 n)]; exact h3, h4⟩
theorem tabs_new {T : List (Addr × Str)} {q : Addr} {o : HO} (h : LamX.Tabs T H) (n : H q = none) : LamX.Tabs T (upd H q o) := h.ext fun b u e => by rw [upd_ne (ne_of_none e n)]; exact e
/-- a new object laid -/
theorem Rel.new (R : Rel g C ρ p σ H) {q : Addr} {o : HO} (n : H q = none) : Rel g C ρ p σ (upd H q o) := R.go (Keep.new n) (R.pen.keepNew n) (tabs_new R.tab n)
/-- a new address may be told of -/
theorem Rel.fresh_Sv (R : Rel g C ρ p σ H) {q : Addr} (n : H q = none) : Sv C ρ σ q := by
  refine ⟨fun h => ?_, fun z => ?_, .inl (R.ext.there q n), fun h => ?_⟩
  · obtain ⟨o, h1, _⟩ := R.own_there h
    rw [n] at h1; cases h1
  · unfold Ctx.po at z
    have hp := R.pen
    cases q' : C.pp with
    | none => rw [q'] at z; cases z
    | some x =>
      rw [q'] at z hp
      obtain ⟨pa, ca⟩ := x
      obtain rfl : pa = q := Option.some.inj z
      cases p with
      | none => exact hp.elim
      | some pn =>
        obtain ⟨_, h2, _⟩ := hp
        rw [n] at h2; cases h2
  · obtain ⟨_, _, xs, h3⟩ := R.exs q h
    rw [n] at h3; cases h3
end

/-- a list or a dict -/
def D.ld : D → Bool
  | .lst _ => true
  | .dct _ => true
  | _ => false
/-! ### judgements -/
inductive Kd | fr | sh | tp
def RepT (K : PySem.W.Frag) (po : Option Addr) (S : Addr → Prop) (H : Hp) (d : D) (v : V) : Prop := Rep K po S H d v ∨ ∃ a, v = .ref a ∧ po ≠ some a ∧ OwnRep K po S H d a
/-- what is told of an expression's value: fr: a new list (or a plain thing), sh: a thing that may be shared, tp: the list itself may be an own one -/
def RPK (κ : Kd) (g : G) (C : Ctx) (ρ : Rho) (σ : L2.St) (H0 H : Hp) (d : D) (v : V) : Prop := match κ with
  | .fr => Rep g.K C.po (Sv C ρ σ) H d v ∧ ∀ a, v = .ref a → d.ld = true → H0 a = none ∧ C.po ≠ some a ∧ OwnRep g.K C.po (fun b => Sv C ρ σ b ∧ b ≠ a) H d a
  | .sh => Rep g.K C.po (Sv C ρ σ) H d v
  | .tp => RepT g.K C.po (Sv C ρ σ) H d v
def Post (κ : Kd) (g : G) (C : Ctx) (ρ : Rho) (σ : L2.St) (H : Hp) (r : R D) (Q : VK) : Prop := match r with
  | .ok d p' => ∀ v H', Rel g C ρ p' σ H' → Keep C.kp H H' → RPK κ g C ρ σ H H' d v → Q v H'
  | .exc c p' => ∀ H', Rel g C ρ p' σ H' → Keep C.kp H H' → g.W (.ref (He.ga g.K c)) none σ H'
  | .stuck => False
def PostA (g : G) (C : Ctx) (ρ : Rho) (σ : L2.St) (H : Hp) (κ : Kd) (r : R (List D)) (Q : List V → Hp → Prop) : Prop := match r with
  | .ok ds p' => ∀ vs H', Rel g C ρ p' σ H' → Keep C.kp H H' → ds.length = vs.length → (∀ (i : Nat) (d : D) (v : V), ds[i]? = some d → vs[i]? = some v → RPK κ g C ρ σ H H' d v) → Q vs H'
  | .exc c p' => ∀ H', Rel g C ρ p' σ H' → Keep C.kp H H' → g.W (.ref (He.ga g.K c)) none σ H'
  | .stuck => False
def PostB (g : G) (C : Ctx) (ρ : Rho) (σ : L2.St) (H : Hp) (r : R Bool) (Q : Bool → Hp → Prop) : Prop := match r with
  | .ok b p' => ∀ H', Rel g C ρ p' σ H' → Keep C.kp H H' → Q b H'
  | .exc c p' => ∀ H', Rel g C ρ p' σ H' → Keep C.kp H H' → g.W (.ref (He.ga g.K c)) none σ H'
  | .stuck => False
def TR (κ : Kd) (g : G) (t : TE) (m : Rho → M D) : Prop := ∀ C ρ p σ H Q, Rel g C ρ p σ H → Post κ g C ρ σ H (m ρ p) Q → t σ H Q
def TRB (g : G) (t : TT) (m : Rho → M Bool) : Prop := ∀ C ρ p σ H Q, Rel g C ρ p σ H → PostB g C ρ σ H (m ρ p) Q → t σ H Q
def TRA (κ : Kd) (g : G) (t : TA) (m : Rho → M (List D)) : Prop := ∀ C ρ p σ H Q, Rel g C ρ p σ H → PostA g C ρ σ H κ (m ρ p) Q → t σ H Q
structure JE (κ : Kd) (g : G) (e : Expr) (m : Rho → M D) : Prop where
  ex : ∃ t, (∀ X, g.Ok X → PE X e t) ∧ TR κ g t m
structure JB (g : G) (e : Expr) (m : Rho → M Bool) : Prop where
  ex : ∃ t, (∀ X, g.Ok X → PT X e t) ∧ TRB g t m
structure JA (κ : Kd) (g : G) (es : List Expr) (m : Rho → M (List D)) : Prop where
  ex : ∃ t, (∀ X, g.Ok X → PA X es t) ∧ TRA κ g t m

section
variable {g : G} {C : Ctx} {ρ : Rho} {p : PS} {σ : L2.St} {H H1 H' : Hp} {d : D} {v : V} {κ : Kd}
theorem RPK.tp (h : RPK κ g C ρ σ H H' d v) : RepT g.K C.po (Sv C ρ σ) H' d v := by
  cases κ with
  | fr => exact .inl h.1
  | sh => exact .inl h
  | tp => exact h
theorem RPK.of_fr (h : RPK .fr g C ρ σ H H' d v) : RPK κ g C ρ σ H H' d v := by
  cases κ with
  | fr => exact h
  | sh => exact h.1
  | tp => exact .inl h.1
theorem RPK.of_sh (hκ : κ ≠ .fr) (h : RPK .sh g C ρ σ H H' d v) : RPK κ g C ρ σ H H' d v := by
  cases κ with
  | fr => exact absurd rfl hκ
  | sh => exact h
  | tp => exact .inl h
theorem RepT.keep (h : RepT g.K C.po (Sv C ρ σ) H d v) (k : Keep C.kp H H') : RepT g.K C.po (Sv C ρ σ) H' d v := by
  rcases h with h | ⟨a, e1, e2, e3⟩
  · exact .inl (h.mono (fun _ z => z) (k.mono fun a z => z.2.1))
  · refine .inr ⟨a, e1, e2, e3.mono (fun _ z => z) (k.mono fun a z => z.2.1) fun o h1 h2 => k.kept a o h1 ?_⟩
    rcases h2 with ⟨xs, rfl⟩ | ⟨kvs, rfl⟩ <;> exact e2
theorem Rep.keep (h : Rep g.K C.po (Sv C ρ σ) H d v) (k : Keep C.kp H H') : Rep g.K C.po (Sv C ρ σ) H' d v := h.mono (fun _ z => z) (k.mono fun a z => z.2.1)
theorem Reps.keep {ds : List D} {vs : List V} (h : Reps g.K C.po (Sv C ρ σ) H ds vs) (k : Keep C.kp H H') : Reps g.K C.po (Sv C ρ σ) H' ds vs := h.mono (fun _ z => z) (k.mono fun a z => z.2.1)
theorem RPK.keep {H0 : Hp} (h : RPK κ g C ρ σ H0 H d v) (k : Keep C.kp H H') : RPK κ g C ρ σ H0 H' d v := by
  cases κ with
  | fr =>
    refine ⟨Rep.keep h.1 k, fun a e q => ?_⟩
    obtain ⟨h1, h2, h3⟩ := h.2 a e q
    refine ⟨h1, h2, h3.mono (fun _ z => z) (k.mono fun b z => z.1.2.1) fun o e1 e2 => k.kept a o e1 ?_⟩
    rcases e2 with ⟨xs, rfl⟩ | ⟨kvs, rfl⟩ <;> exact h2
  | sh => exact Rep.keep h k
  | tp => exact RepT.keep h k
theorem RPK.from (k : Keep C.kp H H1) (h : RPK κ g C ρ σ H1 H' d v) : RPK κ g C ρ σ H H' d v := by
  cases κ with
  | fr => exact ⟨h.1, fun a e q => ⟨k.there a (h.2 a e q).1, (h.2 a e q).2⟩⟩
  | sh => exact h
  | tp => exact h
theorem Post.from {r : R D} {Q : VK} (k : Keep C.kp H H1) (h : Post κ g C ρ σ H r Q) : Post κ g C ρ σ H1 r Q := by
  cases r with
  | ok d p' => exact fun v H' R k' z => h v H' R (k.trans k') (z.from k)
  | exc c p' => exact fun H' R k' => h H' R (k.trans k')
  | stuck => exact h
theorem PostB.from {r : R Bool} {Q : Bool → Hp → Prop} (k : Keep C.kp H H1) (h : PostB g C ρ σ H r Q) : PostB g C ρ σ H1 r Q := by
  cases r with
  | ok d p' => exact fun H' R k' => h H' R (k.trans k')
  | exc c p' => exact fun H' R k' => h H' R (k.trans k')
  | stuck => exact h
theorem PostA.from {r : R (List D)} {Q : List V → Hp → Prop} (k : Keep C.kp H H1) (h : PostA g C ρ σ H κ r Q) : PostA g C ρ σ H1 κ r Q := by
  cases r with
  | ok d p' => exact fun v H' R k' l z => h v H' R (k.trans k') l fun i d v e1 e2 => (z i d v e1 e2).from k
  | exc c p' => exact fun H' R k' => h H' R (k.trans k')
  | stuck => exact h
theorem TR.weaken {t : TE} {m : Rho → M D} (h : TR .fr g t m) : TR κ g t m := fun C ρ p σ H Q R q => by
  refine h C ρ p σ H Q R ?_
  cases e : m ρ p with
  | ok d p' => rw [e] at q; exact fun v H' R' k z => q v H' R' k z.of_fr
  | exc c p' => rw [e] at q; exact q
  | stuck => rw [e] at q; exact q
theorem JE.weaken {e : Expr} {m : Rho → M D} (h : JE .fr g e m) : JE κ g e m := by
  obtain ⟨t, h1, h2⟩ := h.ex
  exact ⟨t, h1, h2.weaken⟩
theorem JE.top {e : Expr} {m : Rho → M D} (h : JE .sh g e m) : JE .tp g e m := by
  obtain ⟨t, h1, h2⟩ := h.ex
  refine ⟨t, h1, fun C ρ p σ H Q R q => h2 C ρ p σ H Q R ?_⟩
  cases e : m ρ p with
  | ok d p' => rw [e] at q; exact fun v H' R' k z => q v H' R' k (.inl z)
  | exc c p' => rw [e] at q; exact q
  | stuck => rw [e] at q; exact q
/-- stuck is right of anything -/
theorem JE.stuck {e : Expr} {m : Rho → M D} (h : ∀ ρ p, m ρ p = .stuck) : JE κ g e m := ⟨fun _ _ _ => False, fun X _ => ⟨fun _ _ _ _ _ _ z => z.elim⟩, fun C ρ p σ H Q R q => by rw [h] at q; exact q⟩
theorem JB.stuck {e : Expr} {m : Rho → M Bool} (h : ∀ ρ p, m ρ p = .stuck) : JB g e m := ⟨fun _ _ _ => False, fun X _ => ⟨fun _ _ _ _ _ _ z => z.elim⟩, fun C ρ p σ H Q R q => by rw [h] at q; exact q⟩
theorem JA.stuck {es : List Expr} {m : Rho → M (List D)} (h : ∀ ρ p, m ρ p = .stuck) : JA κ g es m := ⟨fun _ _ _ => False, fun X _ => ⟨fun _ _ _ _ _ _ _ z => z.elim⟩, fun C ρ p σ H Q R q => by rw [h] at q; exact q⟩

/-- an expression, then something by its value -/
theorem TR.seq {κ1 : Kd} {t : TE} {m : Rho → M D} {f : Rho → D → M D} {k : L2.St → V → Hp → VK → Prop} (h : TR κ1 g t m)
    (hk : ∀ C ρ p σ H0 H d v Q, Rel g C ρ p σ H → Keep C.kp H0 H → RPK κ1 g C ρ σ H0 H d v → Post κ g C ρ σ H (f ρ d p) Q → k σ v H Q) :
    TR κ g (fun σ H Q => t σ H fun v H1 => k σ v H1 Q) (fun ρ => M.bind (m ρ) (f ρ)) := fun C ρ p σ H Q R q => by
  refine h C ρ p σ H _ R ?_
  cases e : m ρ p with
  | ok d p1 =>
    simp only [bind_ok e] at q
    exact fun v H1 R1 k1 z => hk C ρ p1 σ H H1 d v Q R1 k1 z (Post.from k1 q)
  | exc c p1 => simp only [bind_exc e] at q; exact q
  | stuck => simp only [bind_stuck e] at q; exact q
theorem TR.seqB {κ1 : Kd} {t : TE} {m : Rho → M D} {f : Rho → D → M Bool} {k : L2.St → V → Hp → (Bool → Hp → Prop) → Prop} (h : TR κ1 g t m)
    (hk : ∀ C ρ p σ H0 H d v Q, Rel g C ρ p σ H → Keep C.kp H0 H → RPK κ1 g C ρ σ H0 H d v → PostB g C ρ σ H (f ρ d p) Q → k σ v H Q) :
    TRB g (fun σ H Q => t σ H fun v H1 => k σ v H1 Q) (fun ρ => M.bind (m ρ) (f ρ)) := fun C ρ p σ H Q R q => by
  refine h C ρ p σ H _ R ?_
  cases e : m ρ p with
  | ok d p1 =>
    simp only [bind_ok e] at q
    exact fun v H1 R1 k1 z => hk C ρ p1 σ H H1 d v Q R1 k1 z (PostB.from k1 q)
  | exc c p1 => simp only [bind_exc e] at q; exact q
  | stuck => simp only [bind_stuck e] at q; exact q
theorem TRB.seq {t : TT} {m : Rho → M Bool} {f : Rho → Bool → M D} {k : L2.St → Bool → Hp → VK → Prop} (h : TRB g t m)
    (hk : ∀ C ρ p σ H b Q, Rel g C ρ p σ H → Post κ g C ρ σ H (f ρ b p) Q → k σ b H Q) :
    TR κ g (fun σ H Q => t σ H fun v H1 => k σ v H1 Q) (fun ρ => M.bind (m ρ) (f ρ)) := fun C ρ p σ H Q R q => by
  refine h C ρ p σ H _ R ?_
  cases e : m ρ p with
  | ok d p1 =>
    simp only [bind_ok e] at q
    exact fun H1 R1 k1 => hk C ρ p1 σ H1 d Q R1 (Post.from k1 q)
  | exc c p1 => simp only [bind_exc e] at q; exact q
  | stuck => simp only [bind_stuck e] at q; exact q
theorem TRB.seqB {t : TT} {m : Rho → M Bool} {f : Rho → Bool → M Bool} {k : L2.St → Bool → Hp → (Bool → Hp → Prop) → Prop} (h : TRB g t m)
    (hk : ∀ C ρ p σ H b Q, Rel g C ρ p σ H → PostB g C ρ σ H (f ρ b p) Q → k σ b H Q) :
    TRB g (fun σ H Q => t σ H fun v H1 => k σ v H1 Q) (fun ρ => M.bind (m ρ) (f ρ)) := fun C ρ p σ H Q R q => by
  refine h C ρ p σ H _ R ?_
  cases e : m ρ p with
  | ok d p1 =>
    simp only [bind_ok e] at q
    exact fun H1 R1 k1 => hk C ρ p1 σ H1 d Q R1 (PostB.from k1 q)
  | exc c p1 => simp only [bind_exc e] at q; exact q
  | stuck => simp only [bind_stuck e] at q; exact q
/-- two expressions, then something by their values -/
theorem TR.op2 {κ1 κ2 : Kd} {ta tb : TE} {ma mb : Rho → M D} {f : D → D → M D} {r : R2} (ha : TR κ1 g ta ma) (hb : TR κ2 g tb mb)
    (hr : ∀ C ρ p σ H0 H x y v w Q, Rel g C ρ p σ H → RPK κ1 g C ρ σ H0 H x v → RPK κ2 g C ρ σ H0 H y w → Post κ g C ρ σ H (f x y p) Q → r v w H Q) :
    TR κ g (tOp r ta tb) (fun ρ => M.bind (ma ρ) fun x => M.bind (mb ρ) fun y => f x y) := by
  refine TR.seq (k := fun σ v H1 Q => tb σ H1 fun w H2 => r v w H2 Q) (f := fun ρ x => M.bind (mb ρ) fun y => f x y) ha fun C ρ p σ H0 H x v Q R k0 z q => ?_
  refine hb C ρ p σ H _ R ?_
  cases e : mb ρ p with
  | ok y p1 =>
    simp only [bind_ok e] at q
    exact fun w H1 R1 k1 z1 => hr C ρ p1 σ H0 H1 x y v w Q R1 (z.keep k1) (z1.from k0) (Post.from k1 q)
  | exc c p1 => simp only [bind_exc e] at q; exact q
  | stuck => simp only [bind_stuck e] at q; exact q
/-- arguments, then something by their values -/
theorem TRA.seq {κ1 : Kd} {t : TA} {m : Rho → M (List D)} {f : List D → M D} {k : List V → Hp → VK → Prop} (h : TRA κ1 g t m)
    (hk : ∀ C ρ p σ H0 H ds vs Q, Rel g C ρ p σ H → Keep C.kp H0 H → ds.length = vs.length → (∀ (i : Nat) (d : D) (v : V), ds[i]? = some d → vs[i]? = some v → RPK κ1 g C ρ σ H0 H d v) → Post κ g C ρ σ H (f ds p) Q → k vs H Q) :
    TR κ g (fun σ H Q => t σ H fun vs H1 => k vs H1 Q) (fun ρ => M.bind (m ρ) f) := fun C ρ p σ H Q R q => by
  refine h C ρ p σ H _ R ?_
  cases e : m ρ p with
  | ok d p1 =>
    simp only [bind_ok e] at q
    exact fun v H1 R1 k1 l z => hk C ρ p1 σ H H1 d v Q R1 k1 l z (Post.from k1 q)
  | exc c p1 => simp only [bind_exc e] at q; exact q
  | stuck => simp only [bind_stuck e] at q; exact q
theorem JA.nil : JA κ g [] (fun _ => M.pure []) := ⟨tNil, fun X _ => pa_nil, fun C ρ p σ H Q R q => q [] H R (Keep.refl H) rfl (fun i d v e => by simp at e)⟩
theorem JA.cons {e : Expr} {es : List Expr} {m : Rho → M D} {ms : Rho → M (List D)} (hs : ∀ env, starEach (e :: es) env = (false, eval e env) :: starEach es env) (h : JE κ g e m) (t : JA κ g es ms) :
    JA κ g (e :: es) (fun ρ => M.bind (m ρ) fun d => M.bind (ms ρ) fun ds => M.pure (d :: ds)) := by
  obtain ⟨te, p1, r1⟩ := h.ex
  obtain ⟨ta, p2, r2⟩ := t.ex
  refine ⟨tCons te ta, fun X o => pa_cons (p1 X o) (p2 X o) (hs _), fun C ρ p σ H Q R q => ?_⟩
  refine r1 C ρ p σ H _ R ?_
  cases e1 : m ρ p with
  | ok d p1 =>
    simp only [bind_ok e1] at q
    intro v H1 R1 k1 z1
    refine r2 C ρ p1 σ H1 _ R1 ?_
    cases e2 : ms ρ p1 with
    | ok ds p2 =>
      simp only [bind_ok e2] at q
      intro vs H2 R2 k2 l2 z2
      refine q (v :: vs) H2 R2 (k1.trans k2) (by simp [l2]) fun i d' v' q1 q2 => ?_
      cases i with
      | zero =>
        simp at q1 q2; subst q1 q2
        exact z1.keep k2
      | succ i => exact (z2 i d' v' (by simpa using q1) (by simpa using q2)).from k1
    | exc c p2 =>
      simp only [bind_exc e2] at q
      exact fun H' R' k' => q H' R' (k1.trans k')
    | stuck => simp only [bind_stuck e2] at q; exact q
  | exc c p1 => simp only [bind_exc e1] at q; exact q
  | stuck => simp only [bind_stuck e1] at q; exact q
end
end MS
/-! F3 -/
namespace MS
open PySem PySem.Spec PyProof.Rows L2

/-! what a tree's value is -/
section
variable {g : G} {C : Ctx} {ρ : Rho} {p p' : PS} {σ : L2.St} {H H0 H' : Hp} {v : V} {κ : Kd}
abbrev RT (g : G) (C : Ctx) (ρ : Rho) (σ : L2.St) (H : Hp) := RepT g.K C.po (Sv C ρ σ) H
abbrev RS (g : G) (C : Ctx) (ρ : Rho) (σ : L2.St) (H : Hp) := Rep g.K C.po (Sv C ρ σ) H
abbrev RSs (g : G) (C : Ctx) (ρ : Rho) (σ : L2.St) (H : Hp) := Reps g.K C.po (Sv C ρ σ) H
theorem RT.plain {d : D} (h : RT g C ρ σ H d v) (n : d.ld = false := by rfl) : RS g C ρ σ H d v := by
  rcases h with h | ⟨a, _, _, e3⟩
  · exact h
  · cases d with
    | lst ds => cases n
    | dct ds => cases n
    | _ => exact e3.elim
theorem rt_int {i : Int} (h : RT g C ρ σ H (.int i) v) : v = .int i := by
  have h := RT.plain h
  simpa [RS, Rep] using h
theorem rt_bl {i : Bool} (h : RT g C ρ σ H (.bl i) v) : v = .bl i := by
  have h := RT.plain h
  simpa [RS, Rep] using h
theorem rt_non (h : RT g C ρ σ H .non v) : v = .non := by
  have h := RT.plain h
  simpa [RS, Rep] using h
theorem rt_str {s : Str} (h : RT g C ρ σ H (.str s) v) : v = .str s ∧ s.length ≤ sizeLine ∧ PyData.strOk s = true := by
  have h := RT.plain h
  simpa [RS, Rep] using h
theorem rt_tup {ds : List D} (h : RT g C ρ σ H (.tup ds) v) : ∃ a vs, v = .ref a ∧ SqT g.K H a vs ∧ ds.length ≤ sizeLine ∧ RSs g C ρ σ H ds vs := by
  have h := RT.plain h
  simpa [RS, Rep] using h
theorem rt_fn {x : Str} (h : RT g C ρ σ H (.fn x) v) : v = .ref (He.ga g.K x) := by
  have h := RT.plain h
  simpa [RS, Rep] using h
theorem rt_pen (h : RT g C ρ σ H .pen v) : ∃ a, v = .ref a ∧ C.po = some a := by
  have h := RT.plain h
  simpa [RS, Rep] using h
theorem rt_lst {ds : List D} (h : RT g C ρ σ H (.lst ds) v) : ∃ a vs, v = .ref a ∧ C.po ≠ some a ∧ H a = some (.lst vs) ∧ ds.length ≤ sizeLine ∧ RSs g C ρ σ H ds vs := by
  rcases h with h | ⟨a, e1, e2, e3⟩
  · unfold Rep at h
    obtain ⟨a, vs, e1, e0, e2, z, e3⟩ := h
    exact ⟨a, vs, e1, e0.2.1, e2, z, e3⟩
  · obtain ⟨vs, h1, h2, h3⟩ := e3
    exact ⟨a, vs, e1, e2, h1, h2, h3⟩
theorem rt_dct {ds : List (Key × D)} (h : RT g C ρ σ H (.dct ds) v) : ∃ a vs, v = .ref a ∧ C.po ≠ some a ∧ H a = some (.dK vs) ∧ ds.length ≤ sizeLine ∧ RepKs g.K C.po (Sv C ρ σ) H ds vs := by
  rcases h with h | ⟨a, e1, e2, e3⟩
  · unfold Rep at h
    obtain ⟨a, vs, e1, e0, e2, z, e3⟩ := h
    exact ⟨a, vs, e1, e0.2.1, e2, z, e3⟩
  · obtain ⟨vs, h1, h2, h3⟩ := e3
    exact ⟨a, vs, e1, e2, h1, h2, h3⟩
theorem rs_int {i : Int} : RS g C ρ σ H (.int i) (.int i) := by simp [RS, Rep]
theorem rs_bl {i : Bool} : RS g C ρ σ H (.bl i) (.bl i) := by simp [RS, Rep]
theorem rs_non : RS g C ρ σ H .non .non := by simp [RS, Rep]
theorem rs_str {s : Str} (h : s.length ≤ sizeLine) (h2 : PyData.strOk s = true) : RS g C ρ σ H (.str s) (.str s) := by simp [RS, Rep, h, h2]
theorem rs_tup {ds : List D} {a : Addr} {vs : List V} (h : SqT g.K H a vs) (z : ds.length ≤ sizeLine) (r : RSs g C ρ σ H ds vs) : RS g C ρ σ H (.tup ds) (.ref a) := by
  unfold RS Rep
  exact ⟨a, vs, rfl, h, z, r⟩
theorem rs_lst {ds : List D} {a : Addr} {vs : List V} (s : Sv C ρ σ a) (h : H a = some (.lst vs)) (z : ds.length ≤ sizeLine) (r : RSs g C ρ σ H ds vs) : RS g C ρ σ H (.lst ds) (.ref a) := by
  unfold RS Rep
  exact ⟨a, vs, rfl, s, h, z, r⟩
/-- plain things are new ones -/
theorem fr_of {d : D} (h : RS g C ρ σ H d v) (n : d.ld = false := by rfl) : RPK .fr g C ρ σ H0 H d v := ⟨h, fun a _ e => by rw [n] at e; cases e⟩
theorem fr_int {i : Int} : RPK .fr g C ρ σ H0 H (.int i) (.int i) := fr_of rs_int
theorem fr_bl {i : Bool} : RPK .fr g C ρ σ H0 H (.bl i) (.bl i) := fr_of rs_bl
theorem fr_non : RPK .fr g C ρ σ H0 H .non .non := fr_of rs_non
theorem fr_str {s : Str} (h : s.length ≤ sizeLine) (h2 : PyData.strOk s = true) : RPK .fr g C ρ σ H0 H (.str s) (.str s) := fr_of (rs_str h h2)
theorem fr_tup {ds : List D} (h : RS g C ρ σ H (.tup ds) v) : RPK .fr g C ρ σ H0 H (.tup ds) v := fr_of h
/-- a plain answer -/
theorem Post.ret {d : D} {Q : VK} (R : Rel g C ρ p σ H) (q : Post .fr g C ρ σ H (.ok d p) Q) (h : RPK .fr g C ρ σ H H d v) : Q v H := q v H R (Keep.refl H) h
/-- a new list told -/
theorem Post.lst {ds : List D} {vs : List V} {a : Addr} {Q : VK} (R : Rel g C ρ p σ H) (q : Post .fr g C ρ σ H (.ok (.lst ds) p) Q) (z : ds.length ≤ sizeLine) (r : RSs g C ρ σ H ds vs) (n : H a = none) : Q (.ref a) (upd H a (.lst vs)) :=
  q _ _ (R.new n) (Keep.new n) ⟨rs_lst (R.fresh_Sv n) upd_same z (Reps.keep r (Keep.new n)), fun b e _ => by
    cases e
    exact ⟨n, (R.fresh_Sv n).2.1, vs, upd_same, z, r.monoH (fun b o q w => ⟨w, ne_of_none q n⟩) (Keep.new n)⟩⟩
theorem Post.tup {ds : List D} {vs : List V} {a : Addr} {Q : VK} (R : Rel g C ρ p σ H) (q : Post .fr g C ρ σ H (.ok (.tup ds) p) Q) (z : ds.length ≤ sizeLine) (r : RSs g C ρ σ H ds vs) (n : H a = none) : Q (.ref a) (upd H a (.tup vs)) :=
  q _ _ (R.new n) (Keep.new n) (fr_tup (rs_tup (SqT.of upd_same) z (Reps.keep r (Keep.new n))))
end

/-! names, constants -/
def getS (ρ : Rho) (i : Nat) : M D := match ρ[i]? with
  | some (.val d) => M.pure d
  | _ => M.stuck
def getT (ρ : Rho) (i : Nat) : M D := match ρ[i]? with
  | some (.val d) => M.pure d
  | some (.own d) => M.pure d
  | _ => M.stuck
section
variable {g : G} {C : Ctx} {κ : Kd} {pos : Pos} {i : Nat} {x : Str}
theorem je_nameS (hN : g.N[i]? = some x) (hv : Vis g.sc x) (hd : (x == ("__debug__" : Str)) = false) (hcd : (x == ("__classdict__" : Str)) = false) : JE .sh g (.Name x pos) (fun ρ => getS ρ i) := by
  refine ⟨tVar i, fun X o => pe_var (by rw [o.N]; exact hN) (by rw [o.sc]; exact hv) hd hcd, fun C ρ p σ H Q R q => ?_⟩
  simp only [getS] at q
  cases e : ρ[i]? with
  | none => rw [e] at q; exact q.elim
  | some s =>
    rw [e] at q
    cases s with
    | un => exact q.elim
    | own d => exact q.elim
    | val d =>
      obtain ⟨v, e1, e2⟩ := R.val i d e
      exact ⟨v, e1, q v H R (Keep.refl H) e2⟩
theorem je_nameT (hN : g.N[i]? = some x) (hv : Vis g.sc x) (hd : (x == ("__debug__" : Str)) = false) (hcd : (x == ("__classdict__" : Str)) = false) : JE .tp g (.Name x pos) (fun ρ => getT ρ i) := by
  refine ⟨tVar i, fun X o => pe_var (by rw [o.N]; exact hN) (by rw [o.sc]; exact hv) hd hcd, fun C ρ p σ H Q R q => ?_⟩
  simp only [getT] at q
  cases e : ρ[i]? with
  | none => rw [e] at q; exact q.elim
  | some s =>
    rw [e] at q
    cases s with
    | un => exact q.elim
    | own d =>
      obtain ⟨a, e1, e2, e3⟩ := R.own i d e
      exact ⟨.ref a, e1, q (.ref a) H R (Keep.refl H) (.inr ⟨a, rfl, R.po_ne_own ⟨i, d, e, e1⟩, e3⟩)⟩
    | val d =>
      obtain ⟨v, e1, e2⟩ := R.val i d e
      exact ⟨v, e1, q v H R (Keep.refl H) (.inl e2)⟩
theorem je_int {i : Int} {j} : JE .fr g (.Constant (.int i) j pos) (fun _ => M.pure (.int i)) := ⟨tC (.int i), fun X _ => pe_int, fun C ρ p σ H Q R q => Post.ret R q fr_int⟩
theorem je_bl {i : Bool} {j} : JE .fr g (.Constant (.bool i) j pos) (fun _ => M.pure (.bl i)) := ⟨tC (.bl i), fun X _ => pe_bl, fun C ρ p σ H Q R q => Post.ret R q fr_bl⟩
theorem je_non {j} : JE .fr g (.Constant .none j pos) (fun _ => M.pure .non) := ⟨tC .non, fun X _ => pe_non, fun C ρ p σ H Q R q => Post.ret R q fr_non⟩
theorem je_str {s : Str} {j} (h : s.length ≤ sizeLine) (h2 : PyData.strOk s = true) : JE .fr g (.Constant (.str s) j pos) (fun _ => M.pure (.str s)) := ⟨tC (.str s), fun X _ => pe_str, fun C ρ p σ H Q R q => Post.ret R q (fr_str h h2)⟩
/-- a constant of the module -/
def ConstOk (g : G) (x : Str) (d : D) : Prop := ∃ v u, g.mg x = some u ∧ RelV v u ∧ ∀ po S H, Rep g.K po S H d v
theorem je_glob {d : D} (hg : g.sc.names.lookup x = some .globalImplicit) (h : ConstOk g x d) (hdb : (x == ("__debug__" : Str)) = false) (n : d.ld = false := by rfl) : JE .fr g (.Name x pos) (fun _ => M.pure d) := by
  obtain ⟨v, u, h1, h2, h3⟩ := h
  exact ⟨tC v, fun X o => pe_glob (by show X.env.scope.names.lookup x = _; rw [o.sc]; exact hg) (by rw [o.mg]; exact h1) h2 hdb, fun C ρ p σ H Q R q => Post.ret R q (fr_of (h3 _ _ _) n)⟩
end

/-! operators by values -/
def dAdd : D → D → M D
  | .int i, .int j => M.pure (.int (i + j))
  | .str a, .str b => if a.length + b.length ≤ sizeLine then M.pure (.str (a ++ b)) else M.stuck
  | .lst a, .lst b => if a.length + b.length ≤ sizeLine then M.pure (.lst (a ++ b)) else M.stuck
  | .tup a, .tup b => if a.length + b.length ≤ sizeLine then M.pure (.tup (a ++ b)) else M.stuck
  | _, _ => M.stuck
def dSub : D → D → M D
  | .int i, .int j => M.pure (.int (i - j))
  | _, _ => M.stuck
def dMod : D → D → M D
  | .int i, .int j => if j ≠ 0 then M.pure (.int (i.fmod j)) else M.stuck
  | _, _ => M.stuck
def dDiv : D → D → M D
  | .int i, .int j => if j ≠ 0 ∧ j.natAbs < 1073741824 then M.pure (.int (i.fdiv j)) else M.stuck
  | _, _ => M.stuck
def dPow : D → D → M D
  | .int i, .int j => if 0 ≤ j ∧ j ≤ 1000000 ∧ i.natAbs < 2 ^ 64 then M.pure (.int (i ^ j.toNat)) else M.stuck
  | _, _ => M.stuck
/-- n copies of a list -/
def reps {α : Type} (xs : List α) (n : Nat) : List α := (List.replicate n xs).flatten
def dMul : D → D → M D
  | .int i, .int j => if (-(2 ^ 64) < i ∧ i < 2 ^ 64) ∨ (-(2 ^ 64) < j ∧ j < 2 ^ 64) then M.pure (.int (i * j)) else M.stuck
  | .lst a, .int k => if -(2 ^ 63) ≤ k ∧ k < 2 ^ 63 ∧ a.length * k.toNat ≤ sizeLine then M.pure (.lst (reps a k.toNat)) else M.stuck
  | _, _ => M.stuck
theorem strOk_append {a b : Str} (h1 : PyData.strOk a = true) (h2 : PyData.strOk b = true) : PyData.strOk (a ++ b) = true := by
  unfold PyData.strOk at *
  show (a.cps ++ b.cps).all _ = true
  rw [Array.all_append, h1, h2]
  rfl
theorem str_len_append (a b : Str) : (a ++ b).length = a.length + b.length := by
  show (a.cps ++ b.cps).size = _
  rw [Array.size_append]
  rfl
def rAddAll (K : PySem.W.Frag) : R2 := fun x y H Q => rI0 (fun i j => .int (i + j)) x y H Q ∨ ((∃ i j, x = .str i ∧ y = .str j ∧ i.length + j.length ≤ sizeLine ∧ Q (.str (i ++ j)) H) ∨ (rCat x y H Q ∨ rCatA K x y H Q))
theorem op_addAll {g : G} {X : Cx} (o : g.Ok X) : OpR X (binaryOp .Add) (rAddAll g.K) := by
  rw [← o.K]
  exact op_add.or (op_add_str.or (op_cat.or op_catA))
section
variable {g : G} {C : Ctx} {κ1 κ2 : Kd} {a b : Expr} {ma mb : Rho → M D} {pos : Pos}
theorem je_add (ha : JE κ1 g a ma) (hb : JE κ2 g b mb) : JE .fr g (.BinOp a .Add b pos) (fun ρ => M.bind (ma ρ) fun x => M.bind (mb ρ) fun y => dAdd x y) := by
  obtain ⟨ta, p1, r1⟩ := ha.ex
  obtain ⟨tb, p2, r2⟩ := hb.ex
  refine ⟨tOp (rAddAll g.K) ta tb, fun X o => pe_op (op_addAll o) (p1 X o) (p2 X o), TR.op2 r1 r2 fun C ρ p σ H0 H x y v w Q R z1 z2 q => ?_⟩
  have z1 := z1.tp
  have z2 := z2.tp
  unfold dAdd at q
  split at q
  · rw [rt_int z1, rt_int z2]
    exact .inl ⟨_, _, rfl, rfl, Post.ret R q fr_int⟩
  · obtain ⟨rfl, l1, o1⟩ := rt_str z1
    obtain ⟨rfl, l2, o2⟩ := rt_str z2
    split at q
    · rename_i hl
      exact .inr (.inl ⟨_, _, rfl, rfl, hl, Post.ret R q (fr_str (by rw [str_len_append]; exact hl) (strOk_append o1 o2))⟩)
    · exact q.elim
  · obtain ⟨a1, vs, rfl, _, h1, l1, s1⟩ := rt_lst z1
    obtain ⟨a2, ws, rfl, _, h2, l2, s2⟩ := rt_lst z2
    split at q
    · rename_i hl
      refine .inr (.inr (.inl ⟨a1, a2, vs, ws, rfl, rfl, h1, h2, by rw [← s1.length, ← s2.length]; exact hl, fun c n => ?_⟩))
      exact Post.lst R q (by rw [List.length_append]; exact hl) (s1.append s2) n
    · exact q.elim
  · obtain ⟨a1, vs, rfl, h1, l1, s1⟩ := rt_tup z1
    obtain ⟨a2, ws, rfl, h2, l2, s2⟩ := rt_tup z2
    split at q
    · rename_i hl
      have hs := s1.append s2
      have hl2 := hl
      rw [← List.length_append] at hl2
      refine .inr (.inr (.inr ⟨a1, a2, vs, ws, rfl, rfl, h1, h2, by rw [← s1.length, ← s2.length]; exact hl, fun e => ?_, fun _ e => ?_, fun _ _ c n => Post.tup R q hl2 hs n⟩))
      · subst e
        exact Post.ret R q (fr_tup (rs_tup h2 hl2 (by simpa using hs)))
      · subst e
        exact Post.ret R q (fr_tup (rs_tup h1 hl2 (by simpa using hs)))
    · exact q.elim
  · exact q.elim
theorem je_intop {op : Operator} {f : D → D → M D} {Cd : Int → Int → Prop} {h : Int → Int → Int} (ho : ∀ X : Cx, OpR X (binaryOp op) (rI Cd fun i j => .int (h i j)))
    (hf : ∀ x y p, f x y p = .stuck ∨ ∃ i j, x = .int i ∧ y = .int j ∧ Cd i j ∧ f x y p = .ok (.int (h i j)) p) (ha : JE κ1 g a ma) (hb : JE κ2 g b mb) : JE .fr g (.BinOp a op b pos) (fun ρ => M.bind (ma ρ) fun x => M.bind (mb ρ) fun y => f x y) := by
  obtain ⟨ta, p1, r1⟩ := ha.ex
  obtain ⟨tb, p2, r2⟩ := hb.ex
  refine ⟨tOp (rI Cd fun i j => .int (h i j)) ta tb, fun X o => pe_op (ho X) (p1 X o) (p2 X o), TR.op2 r1 r2 fun C ρ p σ H0 H x y v w Q R z1 z2 q => ?_⟩
  rcases hf x y p with e | ⟨i, j, rfl, rfl, hc, e⟩
  · rw [e] at q; exact q.elim
  · rw [e] at q
    exact ⟨i, j, rt_int z1.tp, rt_int z2.tp, hc, Post.ret R q fr_int⟩
theorem je_sub (ha : JE κ1 g a ma) (hb : JE κ2 g b mb) : JE .fr g (.BinOp a .Sub b pos) (fun ρ => M.bind (ma ρ) fun x => M.bind (mb ρ) fun y => dSub x y) := by
  obtain ⟨ta, p1, r1⟩ := ha.ex
  obtain ⟨tb, p2, r2⟩ := hb.ex
  refine ⟨tOp (rI0 fun i j => .int (i - j)) ta tb, fun X o => pe_op op_sub (p1 X o) (p2 X o), TR.op2 r1 r2 fun C ρ p σ H0 H x y v w Q R z1 z2 q => ?_⟩
  unfold dSub at q
  split at q
  · exact ⟨_, _, rt_int z1.tp, rt_int z2.tp, Post.ret R q fr_int⟩
  · exact q.elim
theorem je_mod (ha : JE κ1 g a ma) (hb : JE κ2 g b mb) : JE .fr g (.BinOp a .Mod b pos) (fun ρ => M.bind (ma ρ) fun x => M.bind (mb ρ) fun y => dMod x y) :=
  je_intop (Cd := fun _ j => j ≠ 0) (h := fun i j => i.fmod j) (fun X => op_modN) (fun x y p => by
    unfold dMod
    split
    · split
      · exact .inr ⟨_, _, rfl, rfl, by assumption, rfl⟩
      · exact .inl rfl
    · exact .inl rfl) ha hb
theorem je_div (ha : JE κ1 g a ma) (hb : JE κ2 g b mb) : JE .fr g (.BinOp a .FloorDiv b pos) (fun ρ => M.bind (ma ρ) fun x => M.bind (mb ρ) fun y => dDiv x y) :=
  je_intop (Cd := CDivN) (h := fun i j => i.fdiv j) (fun X => op_fdivN) (fun x y p => by
    unfold dDiv
    split
    · split
      · exact .inr ⟨_, _, rfl, rfl, by assumption, rfl⟩
      · exact .inl rfl
    · exact .inl rfl) ha hb
theorem je_pow (ha : JE κ1 g a ma) (hb : JE κ2 g b mb) : JE .fr g (.BinOp a .Pow b pos) (fun ρ => M.bind (ma ρ) fun x => M.bind (mb ρ) fun y => dPow x y) :=
  je_intop (Cd := CPow) (h := fun i j => i ^ j.toNat) (fun X => op_pow) (fun x y p => by
    unfold dPow
    split
    · split
      · exact .inr ⟨_, _, rfl, rfl, by assumption, rfl⟩
      · exact .inl rfl
    · exact .inl rfl) ha hb
theorem Reps_reps {K : PySem.W.Frag} {po : Option Addr} {S : Addr → Prop} {H : Hp} {ds : List D} {vs : List V} (h : Reps K po S H ds vs) : ∀ n : Nat, Reps K po S H (reps ds n) (List.replicate n vs).flatten
  | 0 => by simp [reps]; exact .nil
  | n + 1 => by
    have e : reps ds (n + 1) = ds ++ reps ds n := by simp [reps, List.replicate_succ]
    rw [e, List.replicate_succ, List.flatten_cons]
    exact h.append (Reps_reps h n)
theorem reps_length {α : Type} (xs : List α) (n : Nat) : (reps xs n).length = xs.length * n := by
  simp [reps, Nat.mul_comm]
/-- n copies of a text -/
def strMul (x : Str) (n : Int) : Str := ⟨(reps x.cps.toList n.toNat).toArray⟩
def dMulS : D → D → M D
  | .str a, .int k => if 0 ≤ k ∧ k < 2 ^ 31 ∧ a.length * k.toNat ≤ sizeLine then M.pure (.str (strMul a k)) else M.stuck
  | x, y => dMul x y
theorem fold_app (a : Array Nat) : ∀ (n : Nat) (acc : Array Nat), (List.replicate n a).foldl (· ++ ·) acc = acc ++ (reps a.toList n).toArray
  | 0, acc => by simp [reps]
  | n + 1, acc => by
    rw [List.replicate_succ, List.foldl_cons, fold_app a n]
    have e : reps a.toList (n + 1) = a.toList ++ reps a.toList n := by simp [reps, List.replicate_succ]
    rw [e, Array.append_assoc]
    congr 1
    simp
theorem txt_mul {x : Str} {n : Int} (h : 0 ≤ n) : Txt.mul x n = strMul x n := by
  unfold Txt.mul strMul
  split
  · rename_i h1
    have : n = 0 := by omega
    subst this
    rfl
  · split
    · rename_i h1 h2
      simp only [Bool.or_eq_true, beq_iff_eq] at h2
      rcases h2 with h2 | h2
      · subst h2
        cases x with
        | mk c => simp [reps]
      · have : x.cps = #[] := Array.eq_empty_of_size_eq_zero h2
        cases x with
        | mk c =>
          simp only at this
          subst this
          simp [reps]
    · rw [fold_app]
      simp
theorem strMul_len (x : Str) (n : Int) : (strMul x n).length = x.length * n.toNat := by
  show (reps x.cps.toList n.toNat).toArray.size = _
  rw [List.size_toArray, reps_length]
  rfl
theorem reps_mem {α : Type} {xs : List α} {y : α} {n : Nat} (h : y ∈ reps xs n) : y ∈ xs := by
  unfold reps at h
  obtain ⟨l, h1, h2⟩ := List.mem_flatten.mp h
  rw [List.eq_of_mem_replicate h1] at h2
  exact h2
theorem strOk_all {s : Str} : PyData.strOk s = true ↔ ∀ c ∈ s.cps.toList, c < 0x110000 := by
  unfold PyData.strOk
  rw [← Array.all_toList, List.all_eq_true]
  simp
theorem strMul_ok {x : Str} {n : Int} (h : PyData.strOk x = true) : PyData.strOk (strMul x n) = true := by
  rw [strOk_all] at h ⊢
  intro c hc
  exact h c (reps_mem (n := n.toNat) (by simpa [strMul] using hc))
theorem op_mul_str {X : Cx} : OpR X (binaryOp .Mult) (fun x y H Q => ∃ a k, x = .str a ∧ y = .int k ∧ 0 ≤ k ∧ k < 2 ^ 31 ∧ a.length * k.toNat ≤ sizeLine ∧ Q (.str (strMul a k)) H) := by
  intro pins s σ H x y v u Q I rx ry h
  obtain ⟨a, k, rfl, rfl, h0, h1, h2, q⟩ := h
  obtain ⟨t, rfl⟩ := rx
  obtain ⟨t', rfl⟩ := ry
  have hs : sizeLine = 16777216 := sizeLine_eq
  refine SB.mul ⟨?_, fun h3 h4 => ?_, fun h3 h4 => ?_⟩ fun t' k' => ⟨.str _, H, I.tok _, ⟨t', by rw [txt_mul h0]⟩, q⟩
  · simp only [Bool.or_eq_false_iff, decide_eq_false_iff_not]
    exact ⟨by omega, by omega⟩
  · intro h5
    have e : ((a.length * k.toNat : Nat) : Int) = (a.length : Int) * k := by rw [Int.natCast_mul, Int.toNat_of_nonneg h0]
    have h6 : (a.length : Int) * k ≤ 16777216 := by rw [← e]; omega
    have h7 : (2 ^ 63 - 1) / k + 1 ≤ (a.length : Int) := by omega
    have h8 : ((2 ^ 63 - 1) / k + 1) * k ≤ (a.length : Int) * k := Int.mul_le_mul_of_nonneg_right h7 h0
    have h9 := Int.mul_ediv_add_emod (2 ^ 63 - 1) k
    have h10 := Int.emod_lt_of_pos (2 ^ 63 - 1) (show 0 < k by omega)
    rw [Int.add_mul, Int.one_mul, Int.mul_comm _ k] at h8
    omega
  · unfold Builtin.Str.tooLong
    simp only [decide_eq_false_iff_not]
    omega
def rMulAll : R2 := fun x y H Q => rI CMul (fun i j => .int (i * j)) x y H Q ∨ (rRep x y H Q ∨ ∃ a k, x = .str a ∧ y = .int k ∧ 0 ≤ k ∧ k < 2 ^ 31 ∧ a.length * k.toNat ≤ sizeLine ∧ Q (.str (strMul a k)) H)
theorem je_mul (ha : JE κ1 g a ma) (hb : JE κ2 g b mb) : JE .fr g (.BinOp a .Mult b pos) (fun ρ => M.bind (ma ρ) fun x => M.bind (mb ρ) fun y => dMulS x y) := by
  obtain ⟨ta, p1, r1⟩ := ha.ex
  obtain ⟨tb, p2, r2⟩ := hb.ex
  refine ⟨tOp rMulAll ta tb, fun X o => pe_op (op_mul.or (op_rep.or op_mul_str)) (p1 X o) (p2 X o), TR.op2 r1 r2 fun C ρ p σ H0 H x y v w Q R z1 z2 q => ?_⟩
  have z1 := z1.tp
  have z2 := z2.tp
  unfold dMulS at q
  split at q
  · obtain ⟨rfl, l1, o1⟩ := rt_str z1
    rw [rt_int z2]
    split at q
    · rename_i hl
      exact .inr (.inr ⟨_, _, rfl, rfl, hl.1, hl.2.1, hl.2.2, Post.ret R q (fr_str (by rw [strMul_len]; exact hl.2.2) (strMul_ok o1))⟩)
    · exact q.elim
  · unfold dMul at q
    split at q
    · rw [rt_int z1, rt_int z2]
      split at q
      · rename_i hl
        exact .inl ⟨_, _, rfl, rfl, hl, Post.ret R q fr_int⟩
      · exact q.elim
    · obtain ⟨a1, vs, rfl, _, h1, l1, s1⟩ := rt_lst z1
      rw [rt_int z2]
      split at q
      · rename_i hl
        refine .inr (.inl ⟨a1, _, vs, rfl, rfl, h1, hl.1, hl.2.1, by rw [← s1.length]; exact hl.2.2, fun c n => ?_⟩)
        exact Post.lst R q (by rw [reps_length]; exact hl.2.2) (Reps_reps s1 _) n
      · exact q.elim
    · exact q.elim
/-- -n -/
def dNeg : D → M D
  | .int i => M.pure (.int (-i))
  | _ => M.stuck
theorem je_neg (ha : JE κ1 g a ma) : JE .fr g (.UnaryOp .USub a pos) (fun ρ => M.bind (ma ρ) fun x => dNeg x) := by
  obtain ⟨ta, p1, r1⟩ := ha.ex
  refine ⟨tUn (rU fun i => .int (-i)) ta, fun X o => pe_un un_neg (p1 X o), TR.seq (k := fun _ v H1 Q => rU (fun i => .int (-i)) v H1 Q) (f := fun _ x => dNeg x) r1 fun C ρ p σ H0 H x v Q R _ z q => ?_⟩
  unfold dNeg at q
  split at q
  · exact ⟨_, rt_int z.tp, Post.ret R q fr_int⟩
  · exact q.elim
end
end MS
/-! F4 -/
namespace MS
open PySem PySem.Spec PyProof.Rows L2

/-! equality -/
mutual
def toP : D → PyData
  | .non => .none
  | .bl b => .bool b
  | .int i => .int i
  | .str s => .str s
  | .tup xs => .tuple (toPs xs)
  | .lst xs => .list (toPs xs)
  | _ => .none
def toPs : List D → List PyData
  | [] => []
  | x :: xs => toP x :: toPs xs
end
mutual
def D.plain : D → Bool
  | .non => true
  | .bl _ => true
  | .int _ => true
  | .str _ => true
  | .tup xs => plains xs
  | .lst xs => plains xs
  | _ => false
def plains : List D → Bool
  | [] => true
  | x :: xs => x.plain && plains xs
end
def okEq (d : D) : Bool := d.plain && decide ((toP d).depth ≤ 64)
def dEq (x y : D) : Bool := PyData.eqv (toP x) (toP y)
def cEq (x y : D) : Option Bool := if okEq x && okEq y then some (dEq x y) else none
def M.ofO {α} (o : Option α) : M α := match o with
  | some a => M.pure a
  | none => M.stuck
section
variable {K : PySem.W.Frag} {po : Option Addr} {S : Addr → Prop} {H : Hp}
mutual
theorem dp_of : ∀ {d : D} {v : V}, Rep K po S H d v → d.plain = true → Dp K H v (toP d) ∧ (toP d).canLay0 = true
  | .non, v, h, _ => by
    have : v = .non := by simpa [Rep] using h
    subst this
    exact ⟨by simp only [toP]; exact .non, by simp [toP, PyData.canLay0]⟩
  | .bl b, v, h, _ => by
    have : v = .bl b := by simpa [Rep] using h
    subst this
    exact ⟨by simp only [toP]; exact .bl b, by simp [toP, PyData.canLay0]⟩
  | .int i, v, h, _ => by
    have : v = .int i := by simpa [Rep] using h
    subst this
    exact ⟨by simp only [toP]; exact .int i, by simp [toP, PyData.canLay0]⟩
  | .str s, v, h, _ => by
    unfold Rep at h
    obtain ⟨rfl, _, h2⟩ := h
    exact ⟨by simp only [toP]; exact .str s, by simp [toP, PyData.canLay0, h2]⟩
  | .tup ds, v, h, q => by
    unfold Rep at h
    obtain ⟨a, vs, rfl, h1, _, h2⟩ := h
    unfold D.plain at q
    obtain ⟨q1, q2⟩ := dps_of h2 q
    exact ⟨by simp only [toP]; exact .tup h1 q1, by simp only [toP, PyData.canLay0]; exact q2⟩
  | .lst ds, v, h, q => by
    unfold Rep at h
    obtain ⟨a, vs, rfl, _, h1, _, h2⟩ := h
    unfold D.plain at q
    obtain ⟨q1, q2⟩ := dps_of h2 q
    exact ⟨by simp only [toP]; exact .lst (SqL.of h1) q1, by simp only [toP, PyData.canLay0]; exact q2⟩
  | .dct _, v, h, q => by simp [D.plain] at q
  | .fn _, v, h, q => by simp [D.plain] at q
  | .exc _, v, h, q => by simp [D.plain] at q
  | .pen, v, h, q => by simp [D.plain] at q
theorem dps_of : ∀ {ds : List D} {vs : List V}, Reps K po S H ds vs → plains ds = true → DpAll K H vs (toPs ds) ∧ PyData.canLayAll0 (toPs ds) = true
  | [], vs, h, _ => by
    rw [Reps.nil_iff] at h; subst h
    exact ⟨by simp only [toPs]; exact .nil, by simp [toPs, PyData.canLayAll0]⟩
  | d :: ds, vs, h, q => by
    obtain ⟨v, r, rfl, h1, h2⟩ := Reps.cons_iff.mp h
    unfold plains at q
    simp only [Bool.and_eq_true] at q
    obtain ⟨a1, a2⟩ := dp_of h1 q.1
    obtain ⟨b1, b2⟩ := dps_of h2 q.2
    exact ⟨by simp only [toPs]; exact .cons a1 b1, by simp only [toPs, PyData.canLayAll0, a2, b2, Bool.and_self]⟩
end
theorem dpT_of {d : D} {v : V} (h : RepT K po S H d v) (q : okEq d = true) : Dp K H v (toP d) ∧ SeqAt.shaped (toP d) = true := by
  unfold okEq at q
  simp only [Bool.and_eq_true, decide_eq_true_eq] at q
  obtain ⟨q1, q2⟩ := q
  have fin : ∀ {x : Dp K H v (toP d) ∧ (toP d).canLay0 = true}, Dp K H v (toP d) ∧ SeqAt.shaped (toP d) = true := fun {x} => ⟨x.1, by unfold SeqAt.shaped; rw [x.2]; simpa using q2⟩
  rcases h with h | ⟨a, rfl, _, h⟩
  · exact fin (x := dp_of h q1)
  · unfold OwnRep at h
    cases d with
    | lst ds =>
      obtain ⟨vs, h1, _, h2⟩ := h
      unfold D.plain at q1
      obtain ⟨b1, b2⟩ := dps_of h2 q1
      exact fin (x := ⟨by simp only [toP]; exact .lst (SqL.of h1) b1, by simp only [toP, PyData.canLay0]; exact b2⟩)
    | dct ds => simp [D.plain] at q1
    | _ => exact h.elim
end

/-! comparisons by values -/
def D.isNon : D → Bool
  | .non => true
  | _ => false
def cIs (x y : D) : Option Bool := match y with
  | .non => some x.isNon
  | _ => none
def D.flat : D → Bool
  | .non => true
  | .bl _ => true
  | .int _ => true
  | .str _ => true
  | _ => false
def cIn (x y : D) : Option Bool := match y with
  | .lst ys => if okEq x && okEq (.lst ys) then some (ys.any fun z => dEq z x) else none
  | .tup ys => if x.flat && ys.all D.flat then some (ys.any fun z => dEq z x) else none
  | .str z => (match x with
    | .str c => if c.length = 1 then some (decide (c.cps.getD 0 0 ∈ z.cps.toList)) else none
    | _ => none)
  | _ => none
def cLt (x y : D) : Option Bool := match x, y with
  | .int i, .int j => some (decide (i < j))
  | .str a, .str b => some (decide (a.cps.toList < b.cps.toList))
  | _, _ => none
def cLe (x y : D) : Option Bool := match x, y with
  | .int i, .int j => some (decide (i ≤ j))
  | .str a, .str b => some (!decide (b.cps.toList < a.cps.toList))
  | _, _ => none
def cmpV (op : CmpOp) (x y : D) : Option Bool := match op with
  | .Eq => cEq x y
  | .NotEq => (cEq x y).map fun b => !b
  | .Is => cIs x y
  | .IsNot => (cIs x y).map fun b => !b
  | .In => cIn x y
  | .NotIn => (cIn x y).map fun b => !b
  | .Lt => cLt x y
  | .LtE => cLe x y
  | .Gt => cLt y x
  | .GtE => cLe y x

def cmpD (op : CmpOp) (x y : D) : M Bool := M.ofO (cmpV op x y)
/-- a comparison's rule: what it asks of two values told as trees -/
structure CmpR (g : G) (op : CmpOp) (r : R2) : Prop where
  ok : ∀ X, g.Ok X → OpR X (compareOp op) r
  tells : ∀ C ρ p σ H x y v w (Q : VK) b, Rel g C ρ p σ H → RT g C ρ σ H x v → RT g C ρ σ H y w → cmpV op x y = some b → Q (.bl b) H → r v w H Q
theorem flat_eq {g : G} {C : Ctx} {ρ : Rho} {σ : L2.St} {H : Hp} {x y : D} {v w : V} (h1 : RS g C ρ σ H x v) (h2 : RS g C ρ σ H y w) (f1 : x.flat = true) (f2 : y.flat = true) : eqV v w = dEq x y ∧ flatV v = true ∧ flatV w = true := by
  cases x <;> simp only [D.flat, Bool.false_eq_true] at f1 <;> cases y <;> simp only [D.flat, Bool.false_eq_true] at f2 <;>
    (try have h1 := rt_non (.inl h1)) <;> (try have h1 := rt_bl (.inl h1)) <;> (try have h1 := rt_int (.inl h1)) <;> (try have h1 := (rt_str (.inl h1)).1) <;>
    (try have h2 := rt_non (.inl h2)) <;> (try have h2 := rt_bl (.inl h2)) <;> (try have h2 := rt_int (.inl h2)) <;> (try have h2 := (rt_str (.inl h2)).1) <;>
    subst h1 <;> subst h2 <;> refine ⟨?_, rfl, rfl⟩ <;> unfold dEq <;> simp only [toP, PyData.eqv] <;> first | rfl | simp [eqV]
theorem inV_eq {g : G} {C : Ctx} {ρ : Rho} {σ : L2.St} {H : Hp} {x : D} {v : V} (h1 : RS g C ρ σ H x v) (f1 : x.flat = true) : ∀ {ys : List D} {ws : List V}, RSs g C ρ σ H ys ws → ys.all D.flat = true → inV v ws = (ys.any fun z => dEq z x) ∧ ws.all flatV = true
  | [], ws, h, _ => by have h := Reps.nil_iff.mp h; subst h; exact ⟨rfl, rfl⟩
  | y :: ys, ws, h, q => by
    obtain ⟨w, r, rfl, h2, h3⟩ := Reps.cons_iff.mp h
    simp only [List.all_cons, Bool.and_eq_true] at q
    obtain ⟨a1, a2⟩ := inV_eq h1 f1 h3 q.2
    obtain ⟨b1, b2, _⟩ := flat_eq h2 h1 q.1 f1
    refine ⟨?_, by simp [b2, a2]⟩
    show (eqV w v || inV v r) = _
    rw [List.any_cons, ← a1, ← b1]
theorem toPs_map : ∀ ys : List D, toPs ys = ys.map toP
  | [] => rfl
  | y :: ys => by simp only [toPs, List.map_cons, toPs_map ys]
theorem one_sign {c : Str} (h : c.length = 1) : c = ⟨#[c.cps.getD 0 0]⟩ := by
  obtain ⟨⟨l⟩⟩ := c
  match l, h with
  | [x], _ => rfl
def rInAll (K : PySem.W.Frag) : R2 := fun x y H Q => rInD K x y H Q ∨ (rIn K false x y H Q ∨ ∃ (c : Nat) (z : Str), x = .str ⟨#[c]⟩ ∧ y = .str z ∧ Q (.bl (decide (c ∈ z.cps.toList))) H)
def rNotInAll (K : PySem.W.Frag) : R2 := fun x y H Q => rNotInD K x y H Q ∨ (rIn K true x y H Q ∨ ∃ (c : Nat) (z : Str), x = .str ⟨#[c]⟩ ∧ y = .str z ∧ Q (.bl (!decide (c ∈ z.cps.toList))) H)
theorem units65 {k : Nat} {A : Around} (r : Room k A) : A.units + 65 < cLine := by have := r.un; omega
def rLtA : R2 := fun x y H Q => rI0 (fun i j => .bl (decide (i < j))) x y H Q ∨ ∃ i j, x = .str i ∧ y = .str j ∧ Q (.bl (decide (i.cps.toList < j.cps.toList))) H
def rLeA : R2 := fun x y H Q => rI0 (fun i j => .bl (decide (i ≤ j))) x y H Q ∨ ∃ i j, x = .str i ∧ y = .str j ∧ Q (.bl (!decide (j.cps.toList < i.cps.toList))) H
def rGtA : R2 := fun x y H Q => rI0 (fun i j => .bl (decide (j < i))) x y H Q ∨ ∃ i j, x = .str i ∧ y = .str j ∧ Q (.bl (decide (j.cps.toList < i.cps.toList))) H
def rGeA : R2 := fun x y H Q => rI0 (fun i j => .bl (decide (j ≤ i))) x y H Q ∨ ∃ i j, x = .str i ∧ y = .str j ∧ Q (.bl (!decide (i.cps.toList < j.cps.toList))) H
def rCmp (K : PySem.W.Frag) (op : CmpOp) : R2 := match op with
  | .Eq => rEqD K
  | .NotEq => rNeD K
  | .Is => fun x y H Q => y = .non ∧ Q (.bl (decide (x = .non))) H
  | .IsNot => fun x y H Q => y = .non ∧ Q (.bl (!decide (x = .non))) H
  | .In => rInAll K
  | .NotIn => rNotInAll K
  | .Lt => rLtA
  | .LtE => rLeA
  | .Gt => rGtA
  | .GtE => rGeA
theorem cmpR_ok {g : G} {op : CmpOp} : ∀ X, g.Ok X → OpR X (compareOp op) (rCmp g.K op) := fun X o => by
  rw [← o.K]
  cases op with
  | Eq => exact op_eqD o.room.units
  | NotEq => exact op_neD o.room.units
  | Is => exact op_isN
  | IsNot => exact op_notN
  | In => exact (op_inD (units65 o.room)).or (op_in_seq.or op_in_sign)
  | NotIn => exact (op_notInD (units65 o.room)).or (op_notIn_seq.or op_notIn_sign)
  | Lt => exact op_lt.or op_lt_str
  | LtE => exact op_le.or op_le_str
  | Gt => exact op_gt.or op_gt_str
  | GtE => exact op_ge.or op_ge_str
theorem is_non {g : G} {C : Ctx} {ρ : Rho} {σ : L2.St} {H : Hp} {x : D} {v : V} (h : RT g C ρ σ H x v) : decide (v = .non) = x.isNon := by
  cases x with
  | non => rw [rt_non h]; rfl
  | bl b => rw [rt_bl h]; rfl
  | int b => rw [rt_int h]; rfl
  | str b => rw [(rt_str h).1]; rfl
  | tup ds => obtain ⟨a, vs, rfl, _⟩ := rt_tup h; rfl
  | lst ds => obtain ⟨a, vs, rfl, _⟩ := rt_lst h; rfl
  | dct ds => obtain ⟨a, vs, rfl, _⟩ := rt_dct h; rfl
  | fn b => rw [rt_fn h]; rfl
  | exc c =>
    have h := RT.plain h
    unfold RS Rep at h
    obtain ⟨a, rfl, _⟩ := h
    rfl
  | pen => obtain ⟨a, rfl, _⟩ := rt_pen h; rfl
theorem cIn_tells {g : G} {C : Ctx} {ρ : Rho} {p : PS} {σ : L2.St} {H : Hp} {x y : D} {v w : V} {b : Bool} (h1 : RT g C ρ σ H x v) (h2 : RT g C ρ σ H y w) (e : cIn x y = some b) :
    (∀ Q : VK, Q (.bl b) H → rInAll g.K v w H Q) ∧ (∀ Q : VK, Q (.bl (!b)) H → rNotInAll g.K v w H Q) := by
  unfold cIn at e
  split at e
  · split at e
    · rename_i ys hh
      simp only [Bool.and_eq_true] at hh
      injection e with e; subst e
      obtain ⟨a1, a2⟩ := dpT_of h1 hh.1
      obtain ⟨b1, b2⟩ := dpT_of h2 hh.2
      simp only [toP, toPs_map] at b1 b2
      have ea : ((ys.map toP).any fun z => PyData.eqv z (toP x)) = ys.any fun z => dEq z x := by rw [List.any_map]; rfl
      exact ⟨fun Q q => .inl ⟨_, _, a1, b1, a2, b2, by rw [ea]; exact q⟩, fun Q q => .inl ⟨_, _, a1, b1, a2, b2, by rw [ea]; exact q⟩⟩
    · cases e
  · split at e
    · rename_i ys hh
      simp only [Bool.and_eq_true] at hh
      injection e with e; subst e
      obtain ⟨a2, ws, rfl, s2, l2, r2⟩ := rt_tup h2
      have hx : RS g C ρ σ H x v := RT.plain h1 (by cases x <;> first | rfl | (have z := hh.1; simp [D.flat] at z))
      obtain ⟨c1, c2⟩ := inV_eq hx hh.1 r2 hh.2
      have fv : flatV v = true := (flat_eq hx hx hh.1 hh.1).2.1
      exact ⟨fun Q q => .inr (.inl ⟨a2, ws, rfl, .inr s2, fv, c2, by rw [c1]; exact q⟩), fun Q q => .inr (.inl ⟨a2, ws, rfl, .inr s2, fv, c2, by rw [c1]; exact q⟩)⟩
    · cases e
  · split at e
    · split at e
      · rename_i c hh
        injection e with e; subst e
        obtain ⟨rfl, _⟩ := rt_str h1
        obtain ⟨rfl, _⟩ := rt_str h2
        have e1 := one_sign hh
        exact ⟨fun Q q => .inr (.inr ⟨_, _, by rw [← e1], rfl, q⟩), fun Q q => .inr (.inr ⟨_, _, by rw [← e1], rfl, q⟩)⟩
      · cases e
    · cases e
  · cases e
theorem cmpR {g : G} {op : CmpOp} : CmpR g op (rCmp g.K op) where
  ok := cmpR_ok
  tells := fun C ρ p σ H x y v w Q b R h1 h2 e q => by
    cases op with
    | Eq =>
      simp only [cmpV, cEq] at e
      split at e
      · rename_i hh
        simp only [Bool.and_eq_true] at hh
        injection e with e; subst e
        obtain ⟨a1, a2⟩ := dpT_of h1 hh.1
        obtain ⟨b1, b2⟩ := dpT_of h2 hh.2
        exact ⟨_, _, a1, b1, a2, b2, q⟩
      · cases e
    | NotEq =>
      simp only [cmpV, cEq] at e
      split at e
      · rename_i hh
        simp only [Bool.and_eq_true] at hh
        simp only [Option.map_some, Option.some.injEq] at e; subst e
        obtain ⟨a1, a2⟩ := dpT_of h1 hh.1
        obtain ⟨b1, b2⟩ := dpT_of h2 hh.2
        exact ⟨_, _, a1, b1, a2, b2, q⟩
      · cases e
    | Is =>
      simp only [cmpV, cIs] at e
      split at e
      · injection e with e; subst e
        exact ⟨rt_non h2, by rw [is_non h1]; exact q⟩
      · cases e
    | IsNot =>
      simp only [cmpV, cIs] at e
      split at e
      · simp only [Option.map_some, Option.some.injEq] at e; subst e
        exact ⟨rt_non h2, by rw [is_non h1]; exact q⟩
      · cases e
    | In => exact (cIn_tells (p := p) h1 h2 e).1 Q q
    | NotIn =>
      simp only [cmpV] at e
      cases e2 : cIn x y with
      | none => rw [e2] at e; cases e
      | some c =>
        rw [e2] at e
        simp only [Option.map_some, Option.some.injEq] at e; subst e
        exact (cIn_tells (p := p) h1 h2 e2).2 Q q
    | Lt =>
      simp only [cmpV, cLt] at e
      split at e
      · injection e with e; subst e; exact .inl ⟨_, _, rt_int h1, rt_int h2, q⟩
      · injection e with e; subst e; exact .inr ⟨_, _, (rt_str h1).1, (rt_str h2).1, q⟩
      · cases e
    | LtE =>
      simp only [cmpV, cLe] at e
      split at e
      · injection e with e; subst e; exact .inl ⟨_, _, rt_int h1, rt_int h2, q⟩
      · injection e with e; subst e; exact .inr ⟨_, _, (rt_str h1).1, (rt_str h2).1, q⟩
      · cases e
    | Gt =>
      simp only [cmpV, cLt] at e
      split at e
      · injection e with e; subst e; exact .inl ⟨_, _, rt_int h1, rt_int h2, q⟩
      · injection e with e; subst e; exact .inr ⟨_, _, (rt_str h1).1, (rt_str h2).1, q⟩
      · cases e
    | GtE =>
      simp only [cmpV, cLe] at e
      split at e
      · injection e with e; subst e; exact .inl ⟨_, _, rt_int h1, rt_int h2, q⟩
      · injection e with e; subst e; exact .inr ⟨_, _, (rt_str h1).1, (rt_str h2).1, q⟩
      · cases e
end MS
/-! F5 -/
namespace MS
open PySem PySem.Spec PyProof.Rows L2

def notSet : Expr → Bool
  | .Set _ _ _ => false
  | _ => true
theorem noMarks {op : CmpOp} {b : Expr} (h : notSet b = true) : behindInMarks op b = false := by
  cases b <;> first | rfl | simp [notSet] at h
theorem noLast {op op' : CmpOp} {b c : Expr} (h : notSet c = true) : lastMarks [op, op'] [b, c] = false := by
  show lastMarks [op'] [c] = false
  exact noMarks h
section
variable {g : G} {C : Ctx} {κ κ1 κ2 κ3 : Kd} {a b c : Expr} {ma mb mc : Rho → M D} {pos : Pos}
theorem cmpD_cases (op : CmpOp) (x y : D) (p : PS) : cmpD op x y p = .stuck ∨ ∃ b, cmpV op x y = some b ∧ cmpD op x y p = .ok b p := by
  unfold cmpD
  cases e : cmpV op x y with
  | none => exact .inl rfl
  | some b => exact .inr ⟨b, rfl, rfl⟩
theorem je_cmp {op : CmpOp} (hb' : notSet b = true) (ha : JE κ1 g a ma) (hb : JE κ2 g b mb) : JE .fr g (.Compare a [op] [b] pos) (fun ρ => M.bind (ma ρ) fun x => M.bind (mb ρ) fun y => M.bind (cmpD op x y) fun r => M.pure (.bl r)) := by
  obtain ⟨ta, p1, r1⟩ := ha.ex
  obtain ⟨tb, p2, r2⟩ := hb.ex
  refine ⟨tOp (rCmp g.K op) ta tb, fun X o => pe_cmpR (cmpR_ok X o) (p1 X o) (p2 X o) (noMarks hb'), TR.op2 r1 r2 fun C ρ p σ H0 H x y v w Q R z1 z2 q => ?_⟩
  rcases cmpD_cases op x y p with e | ⟨r, e1, e2⟩
  · simp only [bind_stuck e] at q; exact q.elim
  · simp only [bind_ok e2] at q
    exact cmpR.tells C ρ p σ H x y v w Q r R z1.tp z2.tp e1 (Post.ret R q fr_bl)
theorem TRB.test {t : TE} {m : Rho → M D} (h : TR .fr g t m) (hb : ∀ ρ p d p', m ρ p = .ok d p' → ∃ r, d = .bl r) : TRB g (tTest t) (fun ρ => M.bind (m ρ) fun d => match d with | .bl r => M.pure r | _ => M.stuck) := fun C ρ p σ H Q R q => by
  refine h C ρ p σ H _ R ?_
  cases e : m ρ p with
  | ok d p' =>
    obtain ⟨r, rfl⟩ := hb ρ p d p' e
    simp only [bind_ok e] at q
    intro v H' R' k z
    rw [rt_bl z.tp]
    exact ⟨r, rfl, q H' R' k⟩
  | exc c p' => simp only [bind_exc e] at q; exact q
  | stuck => simp only [bind_stuck e] at q; exact q
theorem TRB.congr {t : TT} {m m' : Rho → M Bool} (h : TRB g t m) (e : ∀ ρ p, m ρ p = m' ρ p) : TRB g t m' := fun C ρ p σ H Q R q => h C ρ p σ H Q R (by rw [e]; exact q)
theorem TR.congr {t : TE} {m m' : Rho → M D} (h : TR κ g t m) (e : ∀ ρ p, m ρ p = m' ρ p) : TR κ g t m' := fun C ρ p σ H Q R q => h C ρ p σ H Q R (by rw [e]; exact q)
/-- comparisons as tests -/
theorem jb_cmp {op : CmpOp} (hb' : notSet b = true) (ha : JE κ1 g a ma) (hb : JE κ2 g b mb) : JB g (.Compare a [op] [b] pos) (fun ρ => M.bind (ma ρ) fun x => M.bind (mb ρ) fun y => cmpD op x y) := by
  obtain ⟨ta, p1, r1⟩ := ha.ex
  obtain ⟨tb, p2, r2⟩ := hb.ex
  refine ⟨tTest (tOp (rCmp g.K op) ta tb), fun X o => pt_cmpR (cmpR_ok X o) (p1 X o) (p2 X o) (noMarks hb'), fun C ρ p σ H Q R q => ?_⟩
  refine r1 C ρ p σ H _ R ?_
  cases e1 : ma ρ p with
  | exc c p' => simp only [bind_exc e1] at q; exact q
  | stuck => simp only [bind_stuck e1] at q; exact q
  | ok x p1 =>
    simp only [bind_ok e1] at q
    intro v H1 R1 k1 z1
    refine r2 C ρ p1 σ H1 _ R1 ?_
    cases e2 : mb ρ p1 with
    | exc c p' => simp only [bind_exc e2] at q; exact fun H' R' k' => q H' R' (k1.trans k')
    | stuck => simp only [bind_stuck e2] at q; exact q
    | ok y p2 =>
      simp only [bind_ok e2] at q
      intro w H2 R2 k2 z2
      rcases cmpD_cases op x y p2 with e | ⟨r, e3, e4⟩
      · rw [e] at q; exact q.elim
      · rw [e4] at q
        exact cmpR.tells C ρ p2 σ H2 x y v w _ r R2 (z1.keep k2).tp z2.tp e3 ⟨r, rfl, q H2 R2 (k1.trans k2)⟩
def chainD (op op' : CmpOp) (x y : D) (mc : M D) : M Bool := M.bind (cmpD op x y) fun r => if r = true then M.bind mc fun z => cmpD op' y z else M.pure false
theorem tr_chain {op op' : CmpOp} {ta tb tc : TE} (r1 : TR κ1 g ta ma) (r2 : TR κ2 g tb mb) (r3 : TR κ3 g tc mc) :
    TR .fr g (tChain (rCmp g.K op) (rCmp g.K op') ta tb tc) (fun ρ => M.bind (ma ρ) fun x => M.bind (mb ρ) fun y => M.bind (chainD op op' x y (mc ρ)) fun r => M.pure (.bl r)) := fun C ρ p σ H Q R q => by
  refine r1 C ρ p σ H _ R ?_
  cases e1 : ma ρ p with
  | exc c p' => simp only [bind_exc e1] at q; exact q
  | stuck => simp only [bind_stuck e1] at q; exact q
  | ok x p1 =>
    simp only [bind_ok e1] at q
    intro v H1 R1 k1 z1
    refine r2 C ρ p1 σ H1 _ R1 ?_
    cases e2 : mb ρ p1 with
    | exc c p' => simp only [bind_exc e2] at q; exact fun H' R' k' => q H' R' (k1.trans k')
    | stuck => simp only [bind_stuck e2] at q; exact q
    | ok y p2 =>
      simp only [bind_ok e2] at q
      intro w H2 R2 k2 z2
      rcases cmpD_cases op x y p2 with e | ⟨r, e3, e4⟩
      · have e5 : chainD op op' x y (mc ρ) p2 = .stuck := by unfold chainD; exact bind_stuck e
        simp only [bind_stuck e5] at q; exact q.elim
      · refine cmpR.tells C ρ p2 σ H2 x y v w _ r R2 (z1.keep k2).tp z2.tp e3 ⟨r, rfl, ?_⟩
        cases r with
        | false =>
          have e5 : chainD op op' x y (mc ρ) p2 = .ok false p2 := by unfold chainD; rw [bind_ok e4]; rfl
          simp only [bind_ok e5] at q
          rw [if_neg Bool.false_ne_true]
          exact q _ H2 R2 (k1.trans k2) fr_bl
        | true =>
          rw [if_pos rfl]
          have e5 : chainD op op' x y (mc ρ) p2 = M.bind (mc ρ) (fun z => cmpD op' y z) p2 := by unfold chainD; rw [bind_ok e4]; rfl
          refine r3 C ρ p2 σ H2 _ R2 ?_
          cases e6 : mc ρ p2 with
          | exc c p' =>
            rw [bind_exc e6] at e5
            simp only [bind_exc e5] at q; exact fun H' R' k' => q H' R' ((k1.trans k2).trans k')
          | stuck =>
            rw [bind_stuck e6] at e5
            simp only [bind_stuck e5] at q; exact q
          | ok z p3 =>
            rw [bind_ok e6] at e5
            intro u H3 R3 k3 z3
            rcases cmpD_cases op' y z p3 with e | ⟨r, e7, e8⟩
            · rw [e] at e5
              simp only [bind_stuck e5] at q; exact q.elim
            · rw [e8] at e5
              simp only [bind_ok e5] at q
              exact cmpR.tells C ρ p3 σ H3 y z w u _ r R3 (z2.keep k3).tp z3.tp e7 (q _ H3 R3 ((k1.trans k2).trans k3) fr_bl)
theorem je_chain {op op' : CmpOp} (hc' : notSet c = true) (ha : JE κ1 g a ma) (hb : JE κ2 g b mb) (hc : JE κ3 g c mc) :
    JE .fr g (.Compare a [op, op'] [b, c] pos) (fun ρ => M.bind (ma ρ) fun x => M.bind (mb ρ) fun y => M.bind (chainD op op' x y (mc ρ)) fun r => M.pure (.bl r)) := by
  obtain ⟨ta, p1, r1⟩ := ha.ex
  obtain ⟨tb, p2, r2⟩ := hb.ex
  obtain ⟨tc, p3, r3⟩ := hc.ex
  exact ⟨tChain (rCmp g.K op) (rCmp g.K op') ta tb tc, fun X o => pe_chain (cmpR_ok X o) (cmpR_ok X o) (p1 X o) (p2 X o) (p3 X o) (noLast hc'), tr_chain r1 r2 r3⟩
theorem jb_chain {op op' : CmpOp} (hc' : notSet c = true) (ha : JE κ1 g a ma) (hb : JE κ2 g b mb) (hc : JE κ3 g c mc) :
    JB g (.Compare a [op, op'] [b, c] pos) (fun ρ => M.bind (ma ρ) fun x => M.bind (mb ρ) fun y => chainD op op' x y (mc ρ)) := by
  obtain ⟨ta, p1, r1⟩ := ha.ex
  obtain ⟨tb, p2, r2⟩ := hb.ex
  obtain ⟨tc, p3, r3⟩ := hc.ex
  refine ⟨tTest (tChain (rCmp g.K op) (rCmp g.K op') ta tb tc), fun X o => pt_chain (cmpR_ok X o) (cmpR_ok X o) (p1 X o) (p2 X o) (p3 X o) (noLast hc'), (TRB.test (tr_chain (op := op) (op' := op') r1 r2 r3) fun ρ p d p' e => ?_).congr fun ρ p => ?_⟩
  · obtain ⟨x, q1, _, e⟩ := bind_inv e
    obtain ⟨y, q2, _, e⟩ := bind_inv e
    obtain ⟨r, q3, _, e⟩ := bind_inv e
    cases e; exact ⟨r, rfl⟩
  · unfold M.bind
    cases ma ρ p with
    | ok x p1 =>
      simp only []
      cases mb ρ p1 with
      | ok y p2 =>
        simp only []
        cases chainD op op' x y (mc ρ) p2 <;> rfl
      | exc c p' => rfl
      | stuck => rfl
    | exc c p' => rfl
    | stuck => rfl

/-! truth -/
def dTru : D → M Bool
  | .non => M.pure false
  | .bl b => M.pure b
  | .int i => M.pure (i != 0)
  | .str s => M.pure ((s.length : Int) != 0)
  | .tup xs => M.pure (!xs.isEmpty)
  | .lst xs => M.pure (!xs.isEmpty)
  | .dct xs => M.pure (!xs.isEmpty)
  | _ => M.stuck
theorem RepKs.length {K : PySem.W.Frag} {po : Option Addr} {S : Addr → Prop} {H : Hp} : ∀ {ds : List (Key × D)} {vs : List (Key × V)}, RepKs K po S H ds vs → ds.length = vs.length
  | [], vs, h => by unfold RepKs at h; subst h; rfl
  | (k, d) :: ds, vs, h => by
    unfold RepKs at h
    obtain ⟨v, r, rfl, _, t⟩ := h
    simp only [List.length_cons, RepKs.length t]
theorem isEmpty_len {α β : Type} {xs : List α} {ys : List β} (h : xs.length = ys.length) : xs.isEmpty = ys.isEmpty := by
  cases xs <;> cases ys <;> simp at h <;> rfl
theorem tru_of {ρ : Rho} {p p' : PS} {σ : L2.St} {H : Hp} {x : D} {v : V} {r : Bool} (h : RT g C ρ σ H x v) (e : dTru x p = .ok r p') : p' = p ∧ TruV g.K v H r := by
  cases x with
  | non => rw [rt_non h]; cases e; exact ⟨rfl, rfl⟩
  | bl b => rw [rt_bl h]; cases e; exact ⟨rfl, rfl⟩
  | int b => rw [rt_int h]; cases e; exact ⟨rfl, rfl⟩
  | str b =>
    obtain ⟨rfl, l, _⟩ := rt_str h
    cases e; exact ⟨rfl, l, rfl⟩
  | tup ds =>
    obtain ⟨a, vs, rfl, h1, _, h2⟩ := rt_tup h
    cases e; exact ⟨rfl, .inr (.inl ⟨vs, h1, by rw [isEmpty_len h2.length]⟩)⟩
  | lst ds =>
    obtain ⟨a, vs, rfl, _, h1, _, h2⟩ := rt_lst h
    cases e; exact ⟨rfl, .inl ⟨vs, SqL.of h1, by rw [isEmpty_len h2.length]⟩⟩
  | dct ds =>
    obtain ⟨a, vs, rfl, _, h1, _, h2⟩ := rt_dct h
    cases e; exact ⟨rfl, .inr (.inr ⟨vs, h1, by rw [isEmpty_len h2.length]⟩)⟩
  | _ => cases e
theorem tru_cases (x : D) (p : PS) : dTru x p = .stuck ∨ ∃ r, dTru x p = .ok r p := by
  cases x <;> first | exact .inl rfl | exact .inr ⟨_, rfl⟩
def plainTest : Expr → Bool
  | .Name _ _ => true
  | .Call _ _ _ _ => true
  | .Constant _ _ _ => true
  | .Subscript _ _ _ => true
  | .Attribute _ _ _ => true
  | .BinOp _ _ _ _ => true
  | _ => false
theorem plainTest_ok {e : Expr} (h : plainTest e = true) (env : Env) (whole : Sem Value) : isTrue e env whole = (do let v ← whole; standAt e.pos; holding [v] (truthy v)) := by
  cases e <;> first | rfl | simp [plainTest] at h
theorem jb_truth (hp : plainTest a = true) (ha : JE κ g a ma) : JB g a (fun ρ => M.bind (ma ρ) dTru) := by
  obtain ⟨ta, p1, r1⟩ := ha.ex
  refine ⟨fun σ H Q => ta σ H fun x H1 => ∃ k, TruV g.K x H1 k ∧ Q k H1, fun X o => ?_, TR.seqB (k := fun _ v H1 Q => ∃ k, TruV g.K v H1 k ∧ Q k H1) (f := fun _ x => dTru x) r1 fun C ρ p σ H0 H x v Q R _ z q => ?_⟩
  · have h := pt_truth (p1 X o) fun whole => plainTest_ok hp X.env whole
    rw [o.K] at h
    exact h
  · rcases tru_cases x p with e | ⟨r, e⟩
    · rw [e] at q; exact q.elim
    · rw [e] at q
      exact ⟨r, (tru_of z.tp e).2, q H R (Keep.refl H)⟩
/-! not, and, or -/
theorem jb_not {m : Rho → M Bool} (h : JB g a m) : JB g (.UnaryOp .Not a pos) (fun ρ => M.bind (m ρ) fun b => M.pure (!b)) := by
  obtain ⟨t, p1, r1⟩ := h.ex
  exact ⟨tNot t, fun X o => pt_not (p1 X o), TRB.seqB (k := fun _ c H1 Q => Q (!c) H1) (f := fun _ b => M.pure (!b)) r1 fun C ρ p σ H b Q R q => q H R (Keep.refl H)⟩
theorem je_not (ha : JE κ g a ma) : JE .fr g (.UnaryOp .Not a pos) (fun ρ => M.bind (ma ρ) fun x => M.bind (dTru x) fun b => M.pure (.bl (!b))) := by
  obtain ⟨t, p1, r1⟩ := ha.ex
  refine ⟨tNotT g.K t, fun X o => ?_, TR.seq (k := fun _ v H1 Q => ∃ k, TruV g.K v H1 k ∧ Q (.bl (!k)) H1) (f := fun _ x => M.bind (dTru x) fun b => M.pure (.bl (!b))) r1 fun C ρ p σ H0 H x v Q R _ z q => ?_⟩
  · have h := pe_notT (pos := pos) (p1 X o)
    rw [o.K] at h
    exact h
  · rcases tru_cases x p with e | ⟨r, e⟩
    · simp only [bind_stuck e] at q; exact q.elim
    · simp only [bind_ok e] at q
      exact ⟨r, (tru_of z.tp e).2, Post.ret R q fr_bl⟩
structure JW (g : G) (e : Expr) (m : Rho → M Bool) : Prop where
  ex : ∃ t, (∀ X, g.Ok X → PW X e t) ∧ TRB g t m
theorem JW.jb {e : Expr} {m : Rho → M Bool} (h : JW g e m) : JB g e m := by
  obtain ⟨t, p1, r1⟩ := h.ex
  exact ⟨t, fun X o => (p1 X o).pt, r1⟩
theorem jw_and1 {m : Rho → M Bool} (h : JB g a m) : JW g (.BoolOp .And [a] pos) m := by
  obtain ⟨t, p1, r1⟩ := h.ex
  exact ⟨t, fun X o => pw_and1 (p1 X o), r1⟩
theorem jw_or1 {m : Rho → M Bool} (h : JB g a m) : JW g (.BoolOp .Or [a] pos) m := by
  obtain ⟨t, p1, r1⟩ := h.ex
  exact ⟨t, fun X o => pw_or1 (p1 X o), r1⟩
theorem jw_and {rest : List Expr} {m m' : Rho → M Bool} (h : JB g a m) (h' : JW g (.BoolOp .And (b :: rest) pos) m') : JW g (.BoolOp .And (a :: b :: rest) pos) (fun ρ => M.bind (m ρ) fun r => if r = true then m' ρ else M.pure false) := by
  obtain ⟨t, p1, r1⟩ := h.ex
  obtain ⟨t', p2, r2⟩ := h'.ex
  refine ⟨tAnd t t', fun X o => pw_and (p1 X o) (p2 X o), TRB.seqB (k := fun σ c H1 Q => if c = true then t' σ H1 Q else Q false H1) (f := fun ρ r => if r = true then m' ρ else M.pure false) r1 fun C ρ p σ H r Q R q => ?_⟩
  cases r with
  | true => exact r2 C ρ p σ H Q R q
  | false => exact q H R (Keep.refl H)
theorem jw_or {rest : List Expr} {m m' : Rho → M Bool} (h : JB g a m) (h' : JW g (.BoolOp .Or (b :: rest) pos) m') : JW g (.BoolOp .Or (a :: b :: rest) pos) (fun ρ => M.bind (m ρ) fun r => if r = true then M.pure true else m' ρ) := by
  obtain ⟨t, p1, r1⟩ := h.ex
  obtain ⟨t', p2, r2⟩ := h'.ex
  refine ⟨tOr t t', fun X o => pw_or (p1 X o) (p2 X o), TRB.seqB (k := fun σ c H1 Q => if c = true then Q true H1 else t' σ H1 Q) (f := fun ρ r => if r = true then M.pure true else m' ρ) r1 fun C ρ p σ H r Q R q => ?_⟩
  cases r with
  | true => exact q H R (Keep.refl H)
  | false => exact r2 C ρ p σ H Q R q
/-! .. as values -/
theorem je_one {op : BoolOp} (ha : JE κ g a ma) : JE κ g (.BoolOp op [a] pos) ma := by
  obtain ⟨t, p1, r1⟩ := ha.ex
  exact ⟨t, fun X o => pe_one (p1 X o), r1⟩
theorem je_or {rest : List Expr} (hκ : κ ≠ .fr) (ha : JE κ g a ma) (hb : JE κ g (.BoolOp .Or (b :: rest) pos) mb) : JE κ g (.BoolOp .Or (a :: b :: rest) pos) (fun ρ => M.bind (ma ρ) fun x => M.bind (dTru x) fun r => if r = true then M.pure x else mb ρ) := by
  obtain ⟨t, p1, r1⟩ := ha.ex
  obtain ⟨t', p2, r2⟩ := hb.ex
  refine ⟨tOrT g.K t t', fun X o => ?_, TR.seq (k := fun σ v H1 Q => ∃ k, TruV g.K v H1 k ∧ if k = true then Q v H1 else t' σ H1 Q) (f := fun ρ x => M.bind (dTru x) fun r => if r = true then M.pure x else mb ρ) r1 fun C ρ p σ H0 H x v Q R _ z q => ?_⟩
  · have h := pe_orT (p1 X o) (p2 X o)
    rw [o.K] at h
    exact h
  · rcases tru_cases x p with e | ⟨r, e⟩
    · simp only [bind_stuck e] at q; exact q.elim
    · simp only [bind_ok e] at q
      refine ⟨r, (tru_of z.tp e).2, ?_⟩
      cases r with
      | true =>
        refine q v H R (Keep.refl H) ?_
        cases κ with
        | fr => exact absurd rfl hκ
        | sh => exact z
        | tp => exact z
      | false => exact r2 C ρ p σ H Q R q
theorem je_and {rest : List Expr} (hκ : κ ≠ .fr) (ha : JE κ g a ma) (hb : JE κ g (.BoolOp .And (b :: rest) pos) mb) : JE κ g (.BoolOp .And (a :: b :: rest) pos) (fun ρ => M.bind (ma ρ) fun x => M.bind (dTru x) fun r => if r = true then mb ρ else M.pure x) := by
  obtain ⟨t, p1, r1⟩ := ha.ex
  obtain ⟨t', p2, r2⟩ := hb.ex
  refine ⟨tAndT g.K t t', fun X o => ?_, TR.seq (k := fun σ v H1 Q => ∃ k, TruV g.K v H1 k ∧ if k = true then t' σ H1 Q else Q v H1) (f := fun ρ x => M.bind (dTru x) fun r => if r = true then mb ρ else M.pure x) r1 fun C ρ p σ H0 H x v Q R _ z q => ?_⟩
  · have h := pe_andT (p1 X o) (p2 X o)
    rw [o.K] at h
    exact h
  · rcases tru_cases x p with e | ⟨r, e⟩
    · simp only [bind_stuck e] at q; exact q.elim
    · simp only [bind_ok e] at q
      refine ⟨r, (tru_of z.tp e).2, ?_⟩
      cases r with
      | true => exact r2 C ρ p σ H Q R q
      | false =>
        refine q v H R (Keep.refl H) ?_
        cases κ with
        | fr => exact absurd rfl hκ
        | sh => exact z
        | tp => exact z
/-- a if t else b -/
theorem je_if {m : Rho → M Bool} (hc : JB g c m) (ha : JE κ g a ma) (hb : JE κ g b mb) : JE κ g (.IfExp c a b pos) (fun ρ => M.bind (m ρ) fun r => if r = true then ma ρ else mb ρ) := by
  obtain ⟨t, p1, r1⟩ := hc.ex
  obtain ⟨ta, p2, r2⟩ := ha.ex
  obtain ⟨tb, p3, r3⟩ := hb.ex
  refine ⟨tIf t ta tb, fun X o => pe_ifExp (p1 X o) (p2 X o) (p3 X o), TRB.seq (k := fun σ c H1 Q => if c = true then ta σ H1 Q else tb σ H1 Q) (f := fun ρ r => if r = true then ma ρ else mb ρ) r1 fun C ρ p σ H r Q R q => ?_⟩
  cases r with
  | true => exact r2 C ρ p σ H Q R q
  | false => exact r3 C ρ p σ H Q R q
end
end MS
/-! F6 -/
namespace MS
open PySem PySem.Spec PyProof.Rows L2

section
variable {g : G} {C : Ctx} {κ κ1 κ2 κ3 : Kd} {a b c : Expr} {ma mb mc : Rho → M D} {pos : Pos} {es : List Expr} {ms : Rho → M (List D)}
/-! displays -/
theorem reps_of_all {ρ : Rho} {σ : L2.St} {H0 H : Hp} : ∀ {ds : List D} {vs : List V}, ds.length = vs.length → (∀ (i : Nat) (d : D) (v : V), ds[i]? = some d → vs[i]? = some v → RPK .sh g C ρ σ H0 H d v) → RSs g C ρ σ H ds vs
  | [], [], _, _ => Reps.nil
  | [], _ :: _, h, _ => by simp at h
  | _ :: _, [], h, _ => by simp at h
  | d :: ds, v :: vs, h, q => Reps.cons (q 0 d v rfl rfl) (reps_of_all (by simpa using h) fun i d' v' e1 e2 => q (i + 1) d' v' (by simpa using e1) (by simpa using e2))
theorem je_tup {j} (h : JA .sh g es ms) : JE .fr g (.Tuple es j pos) (fun ρ => M.bind (ms ρ) fun ds => if ds.length ≤ sizeLine then M.pure (.tup ds) else M.stuck) := by
  obtain ⟨t, p1, r1⟩ := h.ex
  refine ⟨tTup t, fun X o => pe_tup (p1 X o), TRA.seq (k := fun xs H1 Q => xs.length ≤ sizeLine ∧ ∀ p, H1 p = none → Q (.ref p) (upd H1 p (.tup xs))) (f := fun ds => if ds.length ≤ sizeLine then M.pure (.tup ds) else M.stuck) r1 fun C ρ p σ H0 H ds vs Q R _ l z q => ?_⟩
  split at q
  · rename_i hl
    exact ⟨by rw [← l]; exact hl, fun c n => Post.tup R q hl (reps_of_all l z) n⟩
  · exact q.elim
theorem je_lst (h : JA .sh g es ms) : JE .fr g (.List es pos) (fun ρ => M.bind (ms ρ) fun ds => if ds.length ≤ sizeLine then M.pure (.lst ds) else M.stuck) := by
  obtain ⟨t, p1, r1⟩ := h.ex
  refine ⟨tLst t, fun X o => pe_lst (p1 X o), TRA.seq (k := fun xs H1 Q => xs.length ≤ sizeLine ∧ ∀ p, H1 p = none → Q (.ref p) (upd H1 p (.lst xs))) (f := fun ds => if ds.length ≤ sizeLine then M.pure (.lst ds) else M.stuck) r1 fun C ρ p σ H0 H ds vs Q R _ l z q => ?_⟩
  split at q
  · rename_i hl
    exact ⟨by rw [← l]; exact hl, fun c n => Post.lst R q hl (reps_of_all l z) n⟩
  · exact q.elim
/-! subscripts -/
def ofO (o : Option D) : M D := M.ofO o
def dIx (x y : D) : M D := match x, y with
  | .lst ds, .int i => M.ofO (atI ds i)
  | .tup ds, .int i => M.ofO (atI ds i)
  | .str s, .int i => M.ofO ((atI s.cps.toList i).map fun c => .str ⟨#[c]⟩)
  | _, _ => M.stuck
def notSlice : Expr → Bool
  | .Slice _ _ _ _ => false
  | _ => true
theorem plainIx {b : Expr} (h : notSlice b = true) : PlainIx b := by
  intro o i
  cases b <;> first | rfl | simp [notSlice] at h
theorem atI_rep {ρ : Rho} {σ : L2.St} {H : Hp} {ds : List D} {vs : List V} {i : Int} {d : D} (r : RSs g C ρ σ H ds vs) (e : atI ds i = some d) : ∃ v, atI vs i = some v ∧ RS g C ρ σ H d v := by
  unfold atI at e ⊢
  rw [← r.length]
  cases q : ixN ds.length i with
  | none => rw [q] at e; cases e
  | some j =>
    rw [q] at e
    simp only [Option.bind_some] at e
    obtain ⟨v, h1, h2⟩ := r.getD e
    exact ⟨v, by simpa using h1, h2⟩
theorem atI_mem {α : Type} {xs : List α} {i : Int} {x : α} (e : atI xs i = some x) : x ∈ xs := by
  unfold atI at e
  cases q : ixN xs.length i with
  | none => rw [q] at e; cases e
  | some j =>
    rw [q] at e
    simp only [Option.bind_some] at e
    exact List.mem_of_getElem? e
theorem je_ix (hb' : notSlice b = true) (ha : JE κ1 g a ma) (hb : JE κ2 g b mb) : JE .sh g (.Subscript a b pos) (fun ρ => M.bind (ma ρ) fun x => M.bind (mb ρ) fun y => dIx x y) := by
  obtain ⟨ta, p1, r1⟩ := ha.ex
  obtain ⟨tb, p2, r2⟩ := hb.ex
  refine ⟨tOp (rIx g.K) ta tb, fun X o => by have h := pe_ix (X := X) (pos := pos) ix_seq (p1 X o) (p2 X o) (plainIx hb'); rw [o.K] at h; exact h, TR.op2 r1 r2 fun C ρ p σ H0 H x y v w Q R z1 z2 q => ?_⟩
  have z1 := z1.tp
  have z2 := z2.tp
  cases x with
  | lst ds =>
    cases y with
    | int i =>
      obtain ⟨a1, vs, rfl, _, h1, _, s1⟩ := rt_lst z1
      rw [rt_int z2]
      simp only [dIx] at q
      cases e : atI ds i with
      | none => rw [e] at q; exact q.elim
      | some d =>
        rw [e] at q
        obtain ⟨v, e1, e2⟩ := atI_rep s1 e
        exact .inl ⟨a1, vs, i, v, rfl, rfl, SqL.of h1, e1, q v H R (Keep.refl H) e2⟩
    | _ => exact q.elim
  | tup ds =>
    cases y with
    | int i =>
      obtain ⟨a1, vs, rfl, h1, _, s1⟩ := rt_tup z1
      rw [rt_int z2]
      simp only [dIx] at q
      cases e : atI ds i with
      | none => rw [e] at q; exact q.elim
      | some d =>
        rw [e] at q
        obtain ⟨v, e1, e2⟩ := atI_rep s1 e
        exact .inr (.inl ⟨a1, vs, i, v, rfl, rfl, h1, e1, q v H R (Keep.refl H) e2⟩)
    | _ => exact q.elim
  | str s =>
    cases y with
    | int i =>
      obtain ⟨rfl, l, o⟩ := rt_str z1
      rw [rt_int z2]
      simp only [dIx] at q
      cases e : atI s.cps.toList i with
      | none => rw [e] at q; exact q.elim
      | some c =>
        rw [e] at q
        refine .inr (.inr ⟨s, i, c, rfl, rfl, l, e, q _ H R (Keep.refl H) (rs_str (g := g) (C := C) (ρ := ρ) (σ := σ) (H := H) (by show 1 ≤ sizeLine; rw [sizeLine_eq]; decide) ?_)⟩)
        rw [strOk_all] at o ⊢
        intro c' hc'
        have : c' = c := by simpa using hc'
        subst this
        exact o _ (atI_mem e)
    | _ => exact q.elim
  | _ => exact q.elim
/-! slices -/
structure JO (g : G) (e : Option Expr) (m : Rho → M (Option Int)) : Prop where
  ex : ∃ t, (∀ X, g.Ok X → PO X e t) ∧ ∀ C ρ p σ H (Q : Option Int → Hp → Prop), Rel g C ρ p σ H → (match m ρ p with
    | .ok o p' => ∀ H', Rel g C ρ p' σ H' → Keep C.kp H H' → Q o H'
    | .exc c p' => ∀ H', Rel g C ρ p' σ H' → Keep C.kp H H' → g.W (.ref (He.ga g.K c)) none σ H'
    | .stuck => False) → t σ H Q
theorem jo_none : JO g none (fun _ => M.pure none) := ⟨tNoPart, fun X _ => po_none, fun C ρ p σ H Q R q => q H R (Keep.refl H)⟩
def asInt : D → M (Option Int)
  | .int i => M.pure (some i)
  | _ => M.stuck
theorem jo_some (ha : JE κ g a ma) : JO g (some a) (fun ρ => M.bind (ma ρ) asInt) := by
  obtain ⟨t, p1, r1⟩ := ha.ex
  refine ⟨tPart t, fun X o => po_some (p1 X o), fun C ρ p σ H Q R q => ?_⟩
  refine r1 C ρ p σ H _ R ?_
  cases e : ma ρ p with
  | ok d p1 =>
    simp only [bind_ok e] at q
    intro v H1 R1 k1 z1
    cases d with
    | int i => exact ⟨i, rt_int z1.tp, q H1 R1 k1⟩
    | _ => exact q.elim
  | exc c p1 => simp only [bind_exc e] at q; exact q
  | stuck => simp only [bind_stuck e] at q
/-- xs[lo:hi] -/
def cutD {α : Type} (xs : List α) (lo hi : Option Int) : List α := (xs.drop (HT.sIx xs.length 0 lo)).take (HT.sIx xs.length xs.length hi - HT.sIx xs.length 0 lo)
def dSlice (x : D) (lo hi : Option Int) : M D := match x with
  | .lst ds => M.pure (.lst (cutD ds lo hi))
  | .tup ds => M.pure (.tup (cutD ds lo hi))
  | .str s => M.pure (.str (cutS s lo hi))
  | _ => M.stuck
theorem cutD_len {α : Type} (xs : List α) (lo hi : Option Int) : (cutD xs lo hi).length ≤ xs.length := by
  unfold cutD
  rw [List.length_take, List.length_drop]
  omega
theorem cut_rep {ρ : Rho} {σ : L2.St} {H : Hp} {ds : List D} {vs : List V} (r : RSs g C ρ σ H ds vs) (lo hi : Option Int) : RSs g C ρ σ H (cutD ds lo hi) (cutV vs lo hi) := by
  unfold cutD cutV
  rw [r.length]
  exact (r.drop _).take _
theorem cutD_whole {α : Type} {xs : List α} {lo hi : Option Int} (h : HT.sIx xs.length 0 lo = 0 ∧ HT.sIx xs.length xs.length hi = xs.length) : cutD xs lo hi = xs := by
  unfold cutD
  rw [h.1, h.2]
  simp
theorem cutS_ok {s : Str} {lo hi : Option Int} (h : PyData.strOk s = true) : PyData.strOk (cutS s lo hi) = true := by
  rw [strOk_all] at h ⊢
  intro c hc
  unfold cutS at hc
  simp only [] at hc
  exact h c (List.mem_of_mem_drop (List.mem_of_mem_take hc))
def rSlAll (K : PySem.W.Frag) : V → Option Int → Option Int → Hp → VK → Prop := fun x lo hi H Q => rSlL K x lo hi H Q ∨ (rSlA K x lo hi H Q ∨ rSlS x lo hi H Q)
theorem je_slice {lo hi : Option Expr} {p2 : Pos} {ml mh : Rho → M (Option Int)} (ha : JE κ1 g a ma) (hl : JO g lo ml) (hh : JO g hi mh) :
    JE .fr g (.Subscript a (.Slice lo hi none p2) pos) (fun ρ => M.bind (ma ρ) fun x => M.bind (ml ρ) fun l => M.bind (mh ρ) fun h => dSlice x l h) := by
  obtain ⟨ta, p1, r1⟩ := ha.ex
  obtain ⟨tl, q1, s1⟩ := hl.ex
  obtain ⟨th, q2, s2⟩ := hh.ex
  refine ⟨tSl (rSlAll g.K) ta tl th, fun X o => by have h := pe_slice (X := X) (pos := pos) (p2 := p2) (sl_list.or (sl_tupA.or sl_str)) (p1 X o) (q1 X o) (q2 X o); rw [o.K] at h; exact h, fun C ρ p σ H Q R q => ?_⟩
  refine r1 C ρ p σ H _ R ?_
  cases e1 : ma ρ p with
  | exc c p' => simp only [bind_exc e1] at q; exact q
  | stuck => simp only [bind_stuck e1] at q; exact q
  | ok x pp1 =>
    simp only [bind_ok e1] at q
    intro v H1 R1 k1 z1
    refine s1 C ρ pp1 σ H1 _ R1 ?_
    cases e2 : ml ρ pp1 with
    | exc c p' => simp only [bind_exc e2] at q; exact fun H' R' k' => q H' R' (k1.trans k')
    | stuck => simp only [bind_stuck e2] at q; exact q
    | ok l pp2 =>
      simp only [bind_ok e2] at q
      intro H2 R2 k2
      refine s2 C ρ pp2 σ H2 _ R2 ?_
      cases e3 : mh ρ pp2 with
      | exc c p' => simp only [bind_exc e3] at q; exact fun H' R' k' => q H' R' ((k1.trans k2).trans k')
      | stuck => simp only [bind_stuck e3] at q; exact q
      | ok h pp3 =>
        simp only [bind_ok e3] at q
        intro H3 R3 k3
        have z := (z1.keep (k2.trans k3)).tp
        have q := Post.from ((k1.trans k2).trans k3) q
        unfold dSlice at q
        split at q
        · obtain ⟨a1, vs, rfl, _, h1, l1, s1⟩ := rt_lst z
          exact .inl ⟨a1, vs, rfl, SqL.of h1, fun c n => Post.lst R3 q (Nat.le_trans (cutD_len _ _ _) l1) (cut_rep s1 l h) n⟩
        · obtain ⟨a1, vs, rfl, h1, l1, s1⟩ := rt_tup z
          refine .inr (.inl ⟨a1, vs, rfl, h1, fun hw => ?_, fun hw c n => Post.tup R3 q (Nat.le_trans (cutD_len _ _ _) l1) (cut_rep s1 l h) n⟩)
          rw [← s1.length] at hw
          rw [cutD_whole hw] at q
          exact Post.ret R3 q (fr_tup (rs_tup h1 l1 s1))
        · obtain ⟨rfl, l1, o1⟩ := rt_str z
          exact .inr (.inr ⟨_, rfl, l1, Post.ret R3 q (fr_str (Nat.le_trans (cutS_length _ _ _) l1) (cutS_ok o1))⟩)
        · exact q.elim
/-! isinstance of built-in classes -/
inductive Ty | int | bool | str | tuple | list | dict
def Ty.nm : Ty → String
  | .int => "int"
  | .bool => "bool"
  | .str => "str"
  | .tuple => "tuple"
  | .list => "list"
  | .dict => "dict"
def tyName : D → Option String
  | .non => some "NoneType"
  | .bl _ => some "bool"
  | .int _ => some "int"
  | .str _ => some "str"
  | .tup _ => some "tuple"
  | .lst _ => some "list"
  | .dct _ => some "dict"
  | _ => none
def isi : Ty → D → Option Bool
  | _, .fn _ => none
  | _, .exc _ => none
  | _, .pen => none
  | .int, .int _ => some true
  | .int, .bl _ => some true
  | .bool, .bl _ => some true
  | .str, .str _ => some true
  | .tuple, .tup _ => some true
  | .list, .lst _ => some true
  | .dict, .dct _ => some true
  | _, _ => some false
def dIsi (T : Ty) (x : D) : M D := M.ofO ((isi T x).map .bl)
theorem isi_ok {T : Ty} {x : D} {b : Bool} (h : isi T x = some b) : ∃ n, tyName x = some n ∧ kitB n T.nm = some b := by
  cases T <;> cases x <;> simp only [isi, Option.some.injEq, reduceCtorEq] at h <;> subst h <;> exact ⟨_, rfl, by decide +kernel⟩
theorem tyX_of {ρ : Rho} {σ : L2.St} {H : Hp} {x : D} {v : V} {n : String} (h : RT g C ρ σ H x v) (e : tyName x = some n) : TyX g.K H v (.type n) := by
  cases x with
  | non => rw [rt_non h]; cases e; exact .base .non
  | bl b => rw [rt_bl h]; cases e; exact .base (.bl b)
  | int b => rw [rt_int h]; cases e; exact .base (.int b)
  | str b => rw [(rt_str h).1]; cases e; exact .base (.str b)
  | tup ds =>
    obtain ⟨a, vs, rfl, h1, _⟩ := rt_tup h
    cases e
    rcases h1 with (h1 | ⟨o, h1⟩) | ⟨o, its, n, h1, h2, _⟩
    · exact .base (.tup h1)
    · exact .fTuple h1
    · exact .kTuple h1 h2
  | lst ds => obtain ⟨a, vs, rfl, _, h1, _⟩ := rt_lst h; cases e; exact .base (.lst h1)
  | dct ds => obtain ⟨a, vs, rfl, _, h1, _⟩ := rt_dct h; cases e; exact .base (.dK h1)
  | _ => cases e
def notStar : Expr → Bool
  | .Starred _ _ => false
  | _ => true
theorem star_ok {e : Expr} {es : List Expr} (h : notStar e = true) (env : Env) : starEach (e :: es) env = (false, eval e env) :: starEach es env := by
  cases e <;> first | rfl | simp [notStar] at h
theorem plain_tail {es : List Expr} (h : es.all notStar = true) (pos : Pos) (env : Env) : (backTo pos (starEach es env)).any (·.1) = false := by
  have e : ∀ es : List Expr, es.all notStar = true → (starEach es env).any (·.1) = false := by
    intro es
    induction es with
    | nil => intro _; rfl
    | cons a es ih =>
      intro h
      simp only [List.all_cons, Bool.and_eq_true] at h
      rw [star_ok h.1]
      simp [ih h.2]
  have e2 : ∀ l : List (Bool × Sem Value), (backTo pos l).any (·.1) = l.any (·.1) := by
    intro l
    unfold backTo
    first
      | rfl
      | (induction l with
        | nil => rfl
        | cons a l ih => simp_all)
  rw [e2, e es h]
theorem je_isi {T : Ty} {p1 p2 : Pos} (hg : g.sc.names.lookup ("isinstance" : Str) = some .globalImplicit) (hg2 : g.sc.names.lookup (T.nm : Str) = some .globalImplicit) (hm : g.mg ("isinstance" : Str) = none) (hm2 : g.mg (T.nm : Str) = none) (hs : notStar a = true) (ha : JE κ g a ma) :
    JE .fr g (.Call (.Name "isinstance" p1) [a, .Name (T.nm : Str) p2] [] pos) (fun ρ => M.bind (ma ρ) fun x => dIsi T x) := by
  obtain ⟨ta, q1, r1⟩ := ha.ex
  refine ⟨tCB (rIsi g.K) (tCons ta (tCons (tC (.ty T.nm)) tNil)), fun X o => ?_, TR.seq (k := fun _ v H1 Q => rIsi g.K [v, .ty T.nm] H1 Q) (f := fun _ x => dIsi T x) r1 fun C ρ p σ H0 H x v Q R _ z q => ?_⟩
  · have hb : PE X (.Name (T.nm : Str) p2) (tC (.ty T.nm)) := by
      have hl : Gl X (T.nm : Str) := by show X.env.scope.names.lookup _ = _; rw [o.sc]; exact hg2
      have hm' : X.mg (T.nm : Str) = none := by rw [o.mg]; exact hm2
      cases T <;> exact pe_bltn hl hm' (by decide +kernel) rfl (by decide) (by decide)
    have h := pe_callB (X := X) (x := "isinstance") (p := p1) (pos := pos) call_isi (by show X.env.scope.names.lookup _ = _; rw [o.sc]; exact hg) (by rw [o.mg]; exact hm) (by decide +kernel) (pa_cons (q1 X o) (pa_cons hb pa_nil) (star_ok hs _)) (he := star_ok hs _) (hpl := plain_tail rfl pos X.env)
    rw [o.K] at h
    exact h
  · unfold dIsi at q
    cases e : isi T x with
    | none => rw [e] at q; exact q.elim
    | some b =>
      rw [e] at q
      obtain ⟨n, e1, e2⟩ := isi_ok e
      exact ⟨v, .ty T.nm, .type n, .type T.nm, b, rfl, .ty _, tyX_of z.tp e1, kit_ty e2, Post.ret R q fr_bl⟩
end
end MS
/-! F7 -/
namespace MS
open PySem PySem.Spec PyProof.Rows L2

/-! no list or dict anywhere -/
mutual
def D.noL : D → Bool
  | .lst _ => false
  | .dct _ => false
  | .tup xs => noLs xs
  | _ => true
def noLs : List D → Bool
  | [] => true
  | x :: xs => x.noL && noLs xs
end
section
variable {K : PySem.W.Frag} {po : Option Addr} {S S' : Addr → Prop} {H : Hp}
mutual
theorem Rep.anyS : ∀ {d : D} {v : V}, d.noL = true → Rep K po S H d v → Rep K po S' H d v
  | .non, v, _, h => by unfold Rep at h ⊢; exact h
  | .bl b, v, _, h => by unfold Rep at h ⊢; exact h
  | .int i, v, _, h => by unfold Rep at h ⊢; exact h
  | .str s, v, _, h => by unfold Rep at h ⊢; exact h
  | .tup ds, v, n, h => by
    unfold Rep at h ⊢
    unfold D.noL at n
    obtain ⟨a, vs, e1, e2, z, e3⟩ := h
    exact ⟨a, vs, e1, e2, z, Reps.anyS n e3⟩
  | .lst ds, v, n, _ => by simp [D.noL] at n
  | .dct ds, v, n, _ => by simp [D.noL] at n
  | .fn x, v, _, h => by unfold Rep at h ⊢; exact h
  | .exc c, v, _, h => by unfold Rep at h ⊢; exact h
  | .pen, v, _, h => by unfold Rep at h ⊢; exact h
theorem Reps.anyS : ∀ {ds : List D} {vs : List V}, noLs ds = true → Reps K po S H ds vs → Reps K po S' H ds vs
  | [], vs, _, h => by rw [Reps.nil_iff] at h ⊢; exact h
  | d :: ds, vs, n, h => by
    unfold noLs at n
    simp only [Bool.and_eq_true] at n
    obtain ⟨v, r, e, h1, h2⟩ := Reps.cons_iff.mp h
    exact Reps.cons_iff.mpr ⟨v, r, e, Rep.anyS n.1 h1, Reps.anyS n.2 h2⟩
end
end
theorem noL_ld {d : D} (h : d.noL = true) : d.ld = false := by
  cases d <;> first | rfl | simp [D.noL] at h

/-! what a def promises -/
structure FPre (K : PySem.W.Frag) (T : List (Addr × Str)) (pp : Option (Addr × Addr)) (Sa : Addr → Prop) (ds : List D) (p : PS) (vs : List V) (H : Hp) : Prop where
  args : Reps K (pp.map (·.1)) Sa H ds vs
  sa : ∀ a, Sa a → pp.map (·.1) ≠ some a
  pen : PenOk pp p H
  tab : LamX.Tabs T H
def FPost (K : PySem.W.Frag) (T : List (Addr × Str)) (pp : Option (Addr × Addr)) (Sa : Addr → Prop) (H : Hp) (r : R D) (Q : VK) (E : XK) : Prop := match r with
  | .ok d p' => ∀ v H', Keep (fun a => pp.map (·.1) ≠ some a) H H' → PenOk pp p' H' → LamX.Tabs T H' → Rep K (pp.map (·.1)) (fun a => pp.map (·.1) ≠ some a ∧ (H a = none ∨ Sa a)) H' d v →
      (∀ a, v = .ref a → d.ld = true → OwnRep K (pp.map (·.1)) (fun b => (pp.map (·.1) ≠ some b ∧ (H b = none ∨ Sa b)) ∧ b ≠ a) H' d a) → Q v H'
  | .exc c p' => ∀ H', Keep (fun a => pp.map (·.1) ≠ some a) H H' → PenOk pp p' H' → LamX.Tabs T H' → E (.ref (He.ga K c)) none H'
  | .stuck => False
def FSp (K : PySem.W.Frag) (T : List (Addr × Str)) (n : Nat) (m : List D → M D) : Sp := fun vs H Q E => ∃ pp Sa ds p, vs.length = n ∧ FPre K T pp Sa ds p vs H ∧ FPost K T pp Sa H (m ds p) Q E
/-- a def of the top keeps the promise of m -/
structure FOk (g : G) (x : Str) (n : Nat) (m : List D → M D) : Prop where
  mg : g.mg x = some (.ref (He.ga g.K x))
  kp : PySem.W.keepIn g.K (.ref (He.ga g.K x)) = true
  ok : ∃ fd ps, ps.length = n ∧ FnOk g.P g.w g.K g.mg g.base (L2.CX g.P g.w) g.k (He.ga g.K x) fd ps (FSp g.K g.T n m) ∧ Binds g.K fd ps []

section
variable {g : G} {C : Ctx} {κ κ1 κ2 κ3 : Kd} {a b c : Expr} {ma mb mc : Rho → M D} {pos : Pos} {es : List Expr} {ms : Rho → M (List D)} {ρ : Rho} {p p' : PS} {σ : L2.St} {H H' H0 : Hp}
theorem Rel.pre (R : Rel g C ρ p σ H) {S : Addr → Prop} {ds : List D} {vs : List V} (h : Reps g.K C.po S H ds vs) (hs : ∀ a, S a → C.po ≠ some a) : FPre g.K g.T C.pp S ds p vs H :=
  ⟨h, hs, R.pen, R.tab⟩
theorem PA_ne {X : Cx} {es : List Expr} (h : es ≠ []) : ∃ e r, es = e :: r := by cases es with | nil => exact absurd rfl h | cons e r => exact ⟨e, r, rfl⟩
/-- the promise used, the arguments in the shared part -/
theorem fsp_use {n : Nat} {m : List D → M D} {ds : List D} {vs : List V} {Q : VK} (R : Rel g C ρ p σ H) (l : ds.length = vs.length) (hn : ds.length = n) (z : RSs g C ρ σ H ds vs) (q : Post .sh g C ρ σ H (m ds p) Q) : FSp g.K g.T n m vs H Q (WE g.W σ) := by
  refine ⟨C.pp, Sv C ρ σ, ds, p, by rw [← l]; exact hn, R.pre z (fun a h => h.2.1), ?_⟩
  unfold FPost
  cases e : m ds p with
  | ok d p' =>
    rw [e] at q
    intro v H' k hp ht r _
    exact q v H' (R.go k hp ht) k (r.mono (fun a h => h.2.elim (fun z => R.fresh_Sv z) id) (Keep.refl H'))
  | exc c p' =>
    rw [e] at q
    exact fun H' k hp ht => q H' (R.go k hp ht) k
  | stuck => rw [e] at q; exact q
theorem fsp_useF {n : Nat} {m : List D → M D} {ds : List D} {vs : List V} {Q : VK} (R : Rel g C ρ p σ H) (l : ds.length = vs.length) (hn : ds.length = n) (z : RSs g C ρ σ H ds vs) (nl : noLs ds = true) (q : Post .fr g C ρ σ H (m ds p) Q) : FSp g.K g.T n m vs H Q (WE g.W σ) := by
  refine ⟨C.pp, fun _ => False, ds, p, by rw [← l]; exact hn, R.pre (Reps.anyS nl z) (fun a h => h.elim), ?_⟩
  unfold FPost
  cases e : m ds p with
  | ok d p' =>
    rw [e] at q
    intro v H' k hp ht r rs
    refine q v H' (R.go k hp ht) k ⟨r.mono (fun a h => ?_) (Keep.refl H'), fun a ev ld => ⟨?_, ?_, (rs a ev ld).mono (fun b z => ⟨z.1.2.elim R.fresh_Sv False.elim, z.2⟩) (Keep.refl H') fun o e _ => e⟩⟩
    · rcases h.2 with z | z
      · exact R.fresh_Sv z
      · exact z.elim
    · subst ev
      cases d with
      | lst ds =>
        unfold Rep at r
        obtain ⟨a', vs', e1, e2, _⟩ := r
        cases e1
        exact e2.2.elim id False.elim
      | dct ds =>
        unfold Rep at r
        obtain ⟨a', vs', e1, e2, _⟩ := r
        cases e1
        exact e2.2.elim id False.elim
      | _ => cases ld
    · subst ev
      cases d with
      | lst ds =>
        unfold Rep at r
        obtain ⟨a', vs', e1, e2, _⟩ := r
        cases e1
        exact e2.1
      | dct ds =>
        unfold Rep at r
        obtain ⟨a', vs', e1, e2, _⟩ := r
        cases e1
        exact e2.1
      | _ => cases ld
  | exc c p' =>
    rw [e] at q
    exact fun H' k hp ht => q H' (R.go k hp ht) k
  | stuck => rw [e] at q; exact q
/-- the list handed on may be an own one: then the answer has no list -/
theorem fsp_useT {n : Nat} {m : List D → M D} {ds : List D} {vs : List V} {Q : VK} (R : Rel g C ρ p σ H) (l : ds.length = vs.length) (hn : ds.length = n) (z : Reps g.K C.po C.kp H ds vs) (q : Post .fr g C ρ σ H (M.bind (m ds) (fun d => if d.noL = true then M.pure d else M.stuck) p) Q) : FSp g.K g.T n m vs H Q (WE g.W σ) := by
  refine ⟨C.pp, C.kp, ds, p, by rw [← l]; exact hn, R.pre z (fun a h => h), ?_⟩
  unfold FPost
  cases e : m ds p with
  | ok d p' =>
    simp only [bind_ok e] at q
    intro v H' k hp ht r _
    split at q
    · rename_i nl
      exact q v H' (R.go k hp ht) k (fr_of (Rep.anyS nl r) (noL_ld nl))
    · exact q.elim
  | exc c p' =>
    simp only [bind_exc e] at q
    exact fun H' k hp ht => q H' (R.go k hp ht) k
  | stuck => simp only [bind_stuck e] at q; exact q
theorem RepT.kp {d : D} {v : V} (h : RT g C ρ σ H d v) : Rep g.K C.po C.kp H d v := by
  rcases h with h | ⟨a, rfl, e2, e3⟩
  · exact h.mono (fun a z => z.2.1) (Keep.refl H)
  · unfold OwnRep at e3
    cases d with
    | lst ds =>
      obtain ⟨vs, h1, h2, h3⟩ := e3
      unfold Rep
      exact ⟨a, vs, rfl, e2, h1, h2, h3.mono (fun a z => z.2.1) (Keep.refl H)⟩
    | dct ds =>
      obtain ⟨vs, h1, h2, h3⟩ := e3
      unfold Rep
      exact ⟨a, vs, rfl, e2, h1, h2, h3.mono (fun a z => z.2.1) (Keep.refl H)⟩
    | _ => exact e3.elim
theorem repsT_of_all {ρ : Rho} {σ : L2.St} {H0 H : Hp} : ∀ {ds : List D} {vs : List V}, ds.length = vs.length → (∀ (i : Nat) (d : D) (v : V), ds[i]? = some d → vs[i]? = some v → RPK .tp g C ρ σ H0 H d v) → Reps g.K C.po C.kp H ds vs
  | [], [], _, _ => Reps.nil
  | [], _ :: _, h, _ => by simp at h
  | _ :: _, [], h, _ => by simp at h
  | d :: ds, v :: vs, h, q => Reps.cons (RepT.kp (q 0 d v rfl rfl)) (repsT_of_all (by simpa using h) fun i d' v' e1 e2 => q (i + 1) d' v' (by simpa using e1) (by simpa using e2))
/-- a call -/
def callD (n : Nat) (m : List D → M D) (ds : List D) : M D := if ds.length = n then m ds else M.stuck
def callF (n : Nat) (m : List D → M D) (ds : List D) : M D := if ds.length = n ∧ noLs ds = true then m ds else M.stuck
def callT (n : Nat) (m : List D → M D) (ds : List D) : M D := if ds.length = n then M.bind (m ds) (fun d => if d.noL = true then M.pure d else M.stuck) else M.stuck
variable {n : Nat} {m : List D → M D} {x : Str} {e : Expr} {p1 : Pos}
theorem pe_fn (hg : g.sc.names.lookup x = some .globalImplicit) (F : FOk g x n m) (hs : notStar e = true) (hss : es.all notStar = true) (hdb : (x == ("__debug__" : Str)) = false) {t : TA} (h : ∀ X, g.Ok X → PA X (e :: es) t) :
    ∀ X, g.Ok X → PE X (.Call (.Name x p1) (e :: es) [] pos) (tCallS (FSp g.K g.T n m) (WE g.W) t) := fun X o => by
  obtain ⟨fd, ps, hl, F1, F2⟩ := F.ok
  have F1' : FnOk X.prog X.w X.K X.mg X.base (L2.CX X.prog X.w) g.k (He.ga g.K x) fd ps (FSp g.K g.T n m) := by rw [o.prog, o.w, o.K, o.mg, o.base]; exact F1
  exact pe_callS F1' o.room (by show X.env.scope.names.lookup _ = _; rw [o.sc]; exact hg) (by rw [o.mg]; exact F.mg) (by rw [o.K]; exact F.kp) (by rw [o.K]; exact F2) (fun σ => passAt o.tk σ) (h X o) hdb (star_ok hs _) (plain_tail hss _ _)
theorem je_callS (hg : g.sc.names.lookup x = some .globalImplicit) (F : FOk g x n m) (hs : notStar e = true) (hss : es.all notStar = true) (hdb : (x == ("__debug__" : Str)) = false) (h : JA .sh g (e :: es) ms) :
    JE .sh g (.Call (.Name x p1) (e :: es) [] pos) (fun ρ => M.bind (ms ρ) (callD n m)) := by
  obtain ⟨t, q1, r1⟩ := h.ex
  refine ⟨_, pe_fn hg F hs hss hdb q1, fun C ρ p σ H Q R q => ?_⟩
  refine r1 C ρ p σ H _ R ?_
  cases e1 : ms ρ p with
  | ok ds p1 =>
    simp only [bind_ok e1] at q
    intro vs H1 R1 k1 l z
    unfold callD at q
    split at q
    · rename_i hn
      exact fsp_use R1 l hn (reps_of_all l z) (Post.from k1 q)
    · exact q.elim
  | exc c p1 => simp only [bind_exc e1] at q; exact q
  | stuck => simp only [bind_stuck e1] at q; exact q
theorem je_callF (hg : g.sc.names.lookup x = some .globalImplicit) (F : FOk g x n m) (hs : notStar e = true) (hss : es.all notStar = true) (hdb : (x == ("__debug__" : Str)) = false) (h : JA .sh g (e :: es) ms) :
    JE .fr g (.Call (.Name x p1) (e :: es) [] pos) (fun ρ => M.bind (ms ρ) (callF n m)) := by
  obtain ⟨t, q1, r1⟩ := h.ex
  refine ⟨_, pe_fn hg F hs hss hdb q1, fun C ρ p σ H Q R q => ?_⟩
  refine r1 C ρ p σ H _ R ?_
  cases e1 : ms ρ p with
  | ok ds p1 =>
    simp only [bind_ok e1] at q
    intro vs H1 R1 k1 l z
    unfold callF at q
    split at q
    · rename_i hn
      exact fsp_useF R1 l hn.1 (reps_of_all l z) hn.2 (Post.from k1 q)
    · exact q.elim
  | exc c p1 => simp only [bind_exc e1] at q; exact q
  | stuck => simp only [bind_stuck e1] at q; exact q
theorem je_callT (hg : g.sc.names.lookup x = some .globalImplicit) (F : FOk g x n m) (hs : notStar e = true) (hss : es.all notStar = true) (hdb : (x == ("__debug__" : Str)) = false) (h : JA .tp g (e :: es) ms) :
    JE .fr g (.Call (.Name x p1) (e :: es) [] pos) (fun ρ => M.bind (ms ρ) (callT n m)) := by
  obtain ⟨t, q1, r1⟩ := h.ex
  refine ⟨_, pe_fn hg F hs hss hdb q1, fun C ρ p σ H Q R q => ?_⟩
  refine r1 C ρ p σ H _ R ?_
  cases e1 : ms ρ p with
  | ok ds p1 =>
    simp only [bind_ok e1] at q
    intro vs H1 R1 k1 l z
    unfold callT at q
    split at q
    · rename_i hn
      exact fsp_useT R1 l hn (repsT_of_all l z) (Post.from k1 q)
    · exact q.elim
  | exc c p1 => simp only [bind_exc e1] at q; exact q
  | stuck => simp only [bind_stuck e1] at q; exact q
def call0 (m : List D → M D) : M D := fun p => match m [] p with
  | .exc _ _ => .stuck
  | r => r
/-- f() -/
theorem je_call0 (hg : g.sc.names.lookup x = some .globalImplicit) (F : FOk g x 0 m) (hdb : (x == ("__debug__" : Str)) = false) :
    JE .fr g (.Call (.Name x p1) [] [] pos) (fun _ => call0 m) := by
  obtain ⟨fd, ps, hl, F1, F2⟩ := F.ok
  refine ⟨tCall (FSp g.K g.T 0 m) [] (fun _ _ _ => False) tNil, fun X o => ?_, fun C ρ p σ H Q R q => ?_⟩
  · have F1' : FnOk X.prog X.w X.K X.mg X.base (L2.CX X.prog X.w) g.k (He.ga g.K x) fd ps (FSp g.K g.T 0 m) := by rw [o.prog, o.w, o.K, o.mg, o.base]; exact F1
    exact pe_call0 F1' o.room (by show X.env.scope.names.lookup _ = _; rw [o.sc]; exact hg) (by rw [o.mg]; exact F.mg) (by rw [o.K]; exact F.kp) (by rw [o.K]; exact F2) .nil (fun _ _ _ _ _ _ _ h => by
      obtain ⟨_, _, _, _, _, _, _, _, _, _, _, _, z⟩ := h
      exact z.elim) hdb
  · refine ⟨C.pp, fun _ => False, [], p, rfl, R.pre Reps.nil (fun a h => h.elim), ?_⟩
    unfold FPost
    cases e : m [] p with
    | ok d p' =>
      simp only [call0, e] at q
      intro v H' k hp ht r rs
      refine q v H' (R.go k hp ht) k ⟨r.mono (fun a h => h.2.elim R.fresh_Sv False.elim) (Keep.refl H'), fun a ev ld => ⟨?_, ?_, (rs a ev ld).mono (fun b z => ⟨z.1.2.elim R.fresh_Sv False.elim, z.2⟩) (Keep.refl H') fun o e _ => e⟩⟩
      · subst ev
        cases d with
        | lst ds =>
          unfold Rep at r
          obtain ⟨a', vs', e1, e2, _⟩ := r
          cases e1
          exact e2.2.elim id False.elim
        | dct ds =>
          unfold Rep at r
          obtain ⟨a', vs', e1, e2, _⟩ := r
          cases e1
          exact e2.2.elim id False.elim
        | _ => cases ld
      · subst ev
        cases d with
        | lst ds =>
          unfold Rep at r
          obtain ⟨a', vs', e1, e2, _⟩ := r
          cases e1
          exact e2.1
        | dct ds =>
          unfold Rep at r
          obtain ⟨a', vs', e1, e2, _⟩ := r
          cases e1
          exact e2.1
        | _ => cases ld
    | exc c p' => simp only [call0, e] at q; exact q.elim
    | stuck => simp only [call0, e] at q; exact q.elim
end
end MS
/-! F8 -/
namespace MS
open PySem PySem.Spec PyProof.Rows L2

/-! texts parted at a sign -/
def splL (c : Nat) : List Nat → List (List Nat)
  | [] => [[]]
  | x :: r => if x = c then [] :: splL c r else match splL c r with
    | [] => [[x]]
    | h :: t => (x :: h) :: t
theorem splL_ne (c : Nat) : ∀ l, splL c l ≠ []
  | [] => by simp [splL]
  | x :: r => by
    unfold splL
    split
    · simp
    · split <;> simp
/-- joined lists -/
def joinL (s : List Nat) : List (List Nat) → List Nat
  | [] => []
  | [x] => x
  | x :: y :: r => x ++ s ++ joinL s (y :: r)
theorem splL_free (c : Nat) : ∀ l, c ∉ l → splL c l = [l]
  | [], _ => rfl
  | x :: r, h => by
    simp only [List.mem_cons, not_or] at h
    unfold splL
    rw [if_neg (fun e => h.1 e.symm), splL_free c r h.2]
theorem splL_app (c : Nat) : ∀ l r, c ∉ l → splL c (l ++ c :: r) = l :: splL c r
  | [], r, _ => by simp [splL]
  | x :: l, r, h => by
    simp only [List.mem_cons, not_or] at h
    show splL c (x :: (l ++ c :: r)) = _
    have ih := splL_app c l r h.2
    simp only [splL]
    rw [if_neg (fun e => h.1 e.symm), ih]
theorem splL_join (c : Nat) : ∀ ps : List (List Nat), ps ≠ [] → (∀ p ∈ ps, c ∉ p) → splL c (joinL [c] ps) = ps
  | [], h, _ => absurd rfl h
  | [x], _, h => splL_free c x (h x (by simp))
  | x :: y :: r, _, h => by
    unfold joinL
    rw [List.append_assoc, show [c] ++ joinL [c] (y :: r) = c :: joinL [c] (y :: r) from rfl, splL_app c x _ (h x (by simp)), splL_join c (y :: r) (by simp) fun p hp => h p (List.mem_cons_of_mem _ hp)]
theorem join_cps (s : Str) : ∀ ys : List Str, (Str.join s ys).cps.toList = joinL s.cps.toList (ys.map fun y => y.cps.toList)
  | [] => rfl
  | [x] => rfl
  | x :: y :: r => by
    have ih := join_cps s (y :: r)
    show (x.cps ++ s.cps ++ (Str.join s (y :: r)).cps).toList = _
    rw [Array.toList_append, Array.toList_append, ih]
    rfl
def spl (c : Nat) (s : Str) : List Str := (splL c s.cps.toList).map fun l => ⟨l.toArray⟩
theorem txt_split (a : Str) (c : Nat) : Txt.split a ⟨#[c]⟩ = spl c a := by
  have h1 := StrLaws.join_split a ⟨#[c]⟩
  have h2 := StrLaws.split_free a c
  have h3 : Txt.split a ⟨#[c]⟩ ≠ [] := fun e => by
    have := PyProof.Rows.split_pos a ⟨#[c]⟩
    rw [e] at this
    exact absurd this (by decide)
  have e : a.cps.toList = joinL [c] ((Txt.split a ⟨#[c]⟩).map fun y => y.cps.toList) := by
    have := join_cps ⟨#[c]⟩ (Txt.split a ⟨#[c]⟩)
    rw [h1] at this
    exact this
  unfold spl
  rw [e, splL_join c _ (by simpa using h3) (by
    intro p hp
    obtain ⟨y, hy, rfl⟩ := List.mem_map.mp hp
    exact h2 y hy), List.map_map]
  have : ((fun l : List Nat => (⟨l.toArray⟩ : Str)) ∘ fun y : Str => y.cps.toList) = id := by
    funext y
    rfl
  rw [this, List.map_id]
theorem splL_sub (c : Nat) : ∀ (l p : List Nat), p ∈ splL c l → p.length ≤ l.length ∧ ∀ x ∈ p, x ∈ l
  | [], p, h => by
    simp only [splL, List.mem_singleton] at h
    subst h
    exact ⟨Nat.le_refl _, fun x hx => hx⟩
  | y :: r, p, h => by
    unfold splL at h
    split at h
    · rcases List.mem_cons.mp h with e | h
      · subst e; exact ⟨Nat.zero_le _, fun x hx => by cases hx⟩
      · obtain ⟨h1, h2⟩ := splL_sub c r p h
        exact ⟨by simp; omega, fun x hx => List.mem_cons_of_mem _ (h2 x hx)⟩
    · split at h
      · rename_i e
        exact absurd e (splL_ne c r)
      · rename_i hd t e
        rcases List.mem_cons.mp h with e2 | h
        · subst e2
          obtain ⟨h1, h2⟩ := splL_sub c r hd (by rw [e]; simp)
          exact ⟨by simp; omega, fun x hx => by
            rcases List.mem_cons.mp hx with e | hx
            · subst e; simp
            · exact List.mem_cons_of_mem _ (h2 x hx)⟩
        · obtain ⟨h1, h2⟩ := splL_sub c r p (by rw [e]; exact List.mem_cons_of_mem _ h)
          exact ⟨by simp; omega, fun x hx => List.mem_cons_of_mem _ (h2 x hx)⟩
theorem spl_len (c : Nat) : ∀ l : List Nat, (splL c l).length ≤ l.length + 1
  | [] => by simp [splL]
  | y :: r => by
    have := spl_len c r
    unfold splL
    split
    · simp; omega
    · split
      · simp
      · rename_i e; rw [e] at this; simp at this ⊢; omega
section
variable {g : G} {C : Ctx} {κ κ1 κ2 κ3 : Kd} {a b c : Expr} {ma mb mc : Rho → M D} {pos apos : Pos} {es : List Expr} {ms : Rho → M (List D)} {ρ : Rho} {p p' : PS} {σ : L2.St} {H H' H0 : Hp}
theorem reps_strs : ∀ {ys : List Str}, (∀ y ∈ ys, y.length ≤ sizeLine ∧ PyData.strOk y = true) → RSs g C ρ σ H (ys.map D.str) (ys.map V.str)
  | [], _ => Reps.nil
  | y :: ys, h => Reps.cons (rs_str (h y (by simp)).1 (h y (by simp)).2) (reps_strs fun z hz => h z (List.mem_cons_of_mem _ hz))
def notSup : Expr → Bool
  | .Call (.Name _ _) [] [] _ => false
  | _ => true
theorem attr_ok {o : Expr} {f : Str} (h : notSup o = true) (env : Env) (w : Sem Value) : attributeBase o f env w = w := by
  unfold attributeBase
  split
  · simp [notSup] at h
  · rfl
/-- s.split(' ') -/
def dSplit (x y : D) : M D := match x, y with
  | .str a, .str b => if b.length = 1 ∧ a.length + 2 ≤ sizeLine then M.pure (.lst ((spl (b.cps.getD 0 0) a).map .str)) else M.stuck
  | _, _ => M.stuck
theorem je_m1 {nm : Str} {id : String} {r : V → List V → Hp → VK → Prop} {f : D → D → M D} (slot : Slot "str" nm id) (ty : typeOf (.builtin id) = pure (.type "method_descriptor")) (rule : ∀ X, g.Ok X → MtR X id r)
    (hf : ∀ C ρ p σ H0 H x y v w Q, Rel g C ρ p σ H → RPK κ1 g C ρ σ H0 H x v → RPK κ2 g C ρ σ H0 H y w → Post .fr g C ρ σ H (f x y p) Q → (∃ a, v = .str a) ∧ r v [w] H Q) (hs : notStar b = true) (hb' : notSup a = true) (hl : (apos.endLine == pos.line) = true)
    (ha : JE κ1 g a ma) (hb : JE κ2 g b mb) (hstr : ∀ ρ p d p', ma ρ p = .ok d p' → ∃ s, d = .str s) : JE .fr g (.Call (.Attribute a nm apos) [b] [] pos) (fun ρ => M.bind (ma ρ) fun x => M.bind (mb ρ) fun y => f x y) := by
  obtain ⟨ta, p1, r1⟩ := ha.ex
  obtain ⟨tb, p2, r2⟩ := hb.ex
  refine ⟨tM1 r ta tb, fun X o => pe_m1 slot ty (rule X o) (p1 X o) (p2 X o) (by rw [star_ok hs]; rfl) (attr_ok hb' _ _) hl, fun C ρ p σ H Q R q => ?_⟩
  refine r1 C ρ p σ H _ R ?_
  cases e1 : ma ρ p with
  | exc c p' => simp only [bind_exc e1] at q; exact q
  | stuck => simp only [bind_stuck e1] at q; exact q
  | ok x p1 =>
    obtain ⟨s, rfl⟩ := hstr ρ p x p1 e1
    simp only [bind_ok e1] at q
    intro v H1 R1 k1 z1
    refine ⟨⟨s, (rt_str z1.tp).1⟩, r2 C ρ p1 σ H1 _ R1 ?_⟩
    cases e2 : mb ρ p1 with
    | exc c p' => simp only [bind_exc e2] at q; exact fun H' R' k' => q H' R' (k1.trans k')
    | stuck => simp only [bind_stuck e2] at q; exact q
    | ok y p2 =>
      simp only [bind_ok e2] at q
      intro w H2 R2 k2 z2
      exact (hf C ρ p2 σ H H2 _ y v w Q R2 (z1.keep k2) (z2.from k1) (Post.from (k1.trans k2) q)).2
/-- the receiver must be a text -/
def isStr (m : M D) : M D := M.bind m fun d => match d with
  | .str s => M.pure (.str s)
  | _ => M.stuck
theorem JE.isStr (h : JE κ g a ma) : JE κ g a (fun ρ => isStr (ma ρ)) := by
  obtain ⟨t, p1, r1⟩ := h.ex
  refine ⟨t, p1, fun C ρ p σ H Q R q => r1 C ρ p σ H Q R ?_⟩
  unfold MS.isStr at q
  cases e : ma ρ p with
  | ok d p' =>
    simp only [bind_ok e] at q
    cases d with
    | str s => exact q
    | _ => exact q.elim
  | exc c p' => simp only [bind_exc e] at q; exact q
  | stuck => simp only [bind_stuck e] at q; exact q
theorem isStr_str {m : M D} {p p' : PS} {d : D} (h : isStr m p = .ok d p') : ∃ s, d = .str s := by
  unfold isStr at h
  obtain ⟨x, p1, _, e⟩ := bind_inv h
  cases x with
  | str s => cases e; exact ⟨s, rfl⟩
  | _ => cases e
theorem je_split (hs : notStar b = true) (hb' : notSup a = true) (hl : (apos.endLine == pos.line) = true) (ha : JE κ1 g a ma) (hb : JE κ2 g b mb) :
    JE .fr g (.Call (.Attribute a "split" apos) [b] [] pos) (fun ρ => M.bind (isStr (ma ρ)) fun x => M.bind (mb ρ) fun y => dSplit x y) :=
  je_m1 PySem.F.slot_str_split PySem.F.type_str_split (fun X _ => mt_split) (fun C ρ p σ H0 H x y v w Q R z1 z2 q => by
    unfold dSplit at q
    split at q
    · split at q
      · rename_i s t hh
        obtain ⟨rfl, l1, o1⟩ := rt_str z1.tp
        obtain ⟨rfl, l2, o2⟩ := rt_str z2.tp
        have e := one_sign hh.1
        refine ⟨⟨_, rfl⟩, s, t, rfl, rfl, by rw [hh.1]; rfl, hh.2, fun c n => ?_⟩
        have sub : ∀ y ∈ spl (t.cps.getD 0 0) s, y.length ≤ sizeLine ∧ PyData.strOk y = true := fun y hy => by
          obtain ⟨l, hl, rfl⟩ := List.mem_map.mp hy
          obtain ⟨h1, h2⟩ := splL_sub _ _ _ hl
          refine ⟨Nat.le_trans (by show l.toArray.size ≤ s.cps.size; simpa using h1) l1, ?_⟩
          rw [strOk_all] at o1 ⊢
          intro c hc
          exact o1 c (h2 c (by simpa using hc))
        have := Post.lst (vs := (spl (t.cps.getD 0 0) s).map V.str) R q (by
          have h1 := spl_len (t.cps.getD 0 0) s.cps.toList
          have h2 := hh.2
          unfold spl
          rw [List.length_map, List.length_map]
          have : s.cps.toList.length = s.length := Array.length_toList
          omega) (reps_strs sub) n
        rw [e, txt_split]
        rw [e] at this
        exact this
      · exact q.elim
    · exact q.elim) hs hb' hl ha.isStr hb (fun ρ p d p' => isStr_str)
/-- the texts of a list -/
def strsOf : List D → Option (List Str)
  | [] => some []
  | .str s :: r => (strsOf r).map (s :: ·)
  | _ :: _ => none
theorem strsOf_rep : ∀ {ds : List D} {vs : List V} {ss : List Str}, RSs g C ρ σ H ds vs → strsOf ds = some ss → vs = ss.map V.str ∧ ∀ s ∈ ss, s.length ≤ sizeLine ∧ PyData.strOk s = true
  | [], vs, ss, h, e => by cases e; have h := Reps.nil_iff.mp h; subst h; exact ⟨rfl, fun s hs => by cases hs⟩
  | d :: ds, vs, ss, h, e => by
    obtain ⟨v, r, rfl, h1, h2⟩ := Reps.cons_iff.mp h
    cases d with
    | str s =>
      simp only [strsOf] at e
      cases e2 : strsOf ds with
      | none => rw [e2] at e; cases e
      | some r' =>
        rw [e2] at e
        simp only [Option.map_some, Option.some.injEq] at e
        subst e
        obtain ⟨a1, a2⟩ := strsOf_rep h2 e2
        obtain ⟨b1, b2, b3⟩ := rt_str (.inl h1)
        subst a1 b1
        exact ⟨rfl, fun z hz => by
          rcases List.mem_cons.mp hz with e | hz
          · subst e; exact ⟨b2, b3⟩
          · exact a2 z hz⟩
    | _ => cases e
def dJoin (x y : D) : M D := match x, y with
  | .str a, .lst ds => (match strsOf ds with
    | some ss => if (ss.map (·.length)).sum + ss.length * a.length ≤ sizeLine then M.pure (.str (Str.join a ss)) else M.stuck
    | none => M.stuck)
  | .str a, .tup ds => (match strsOf ds with
    | some ss => if (ss.map (·.length)).sum + ss.length * a.length ≤ sizeLine then M.pure (.str (Str.join a ss)) else M.stuck
    | none => M.stuck)
  | _, _ => M.stuck
theorem join_ok {a : Str} (ha : PyData.strOk a = true) : ∀ {ss : List Str}, (∀ s ∈ ss, PyData.strOk s = true) → PyData.strOk (Str.join a ss) = true
  | [], _ => by rw [strOk_all]; intro c hc; cases hc
  | [x], h => h x (by simp)
  | x :: y :: r, h => by
    have ih := join_ok ha (ss := y :: r) fun s hs => h s (List.mem_cons_of_mem _ hs)
    exact strOk_append (strOk_append (h x (by simp)) ha) ih
theorem txt_join (a : Str) (ss : List Str) : Txt.join a ss = Str.join a ss := by
  exact StrLaws.glued_eq_join a ss
end
end MS
/-! F9 -/
namespace MS
open PySem PySem.Spec PyProof.Rows L2
section
variable {g : G} {C : Ctx} {κ κ1 κ2 κ3 : Kd} {a b c : Expr} {ma mb mc : Rho → M D} {pos apos p1 : Pos} {es : List Expr} {ms : Rho → M (List D)} {ρ : Rho} {p p' : PS} {σ : L2.St} {H H' H0 : Hp}
theorem je_join (hs : notStar b = true) (hb' : notSup a = true) (hl : (apos.endLine == pos.line) = true) (ha : JE κ1 g a ma) (hb : JE κ2 g b mb) :
    JE .fr g (.Call (.Attribute a "join" apos) [b] [] pos) (fun ρ => M.bind (isStr (ma ρ)) fun x => M.bind (mb ρ) fun y => dJoin x y) := by
  refine je_m1 PySem.F.slot_str_join PySem.F.type_str_join (r := fun x xs H Q => ∃ a p, ∃ ys : List Str, x = .str a ∧ xs = [.ref p] ∧ (SqL g.K H p (ys.map V.str) ∨ SqT g.K H p (ys.map V.str)) ∧
    (ys.map (·.length)).sum + ys.length * a.length ≤ 16777216 ∧ Q (.str (Txt.join a ys)) H) (fun X o => by rw [← o.K]; exact mt_join) (fun C ρ p σ H0 H x y v w Q R z1 z2 q => ?_) hs hb' hl ha.isStr hb (fun ρ p d p' => isStr_str)
  have fin : ∀ {a : Str} {ss : List Str} {xs : List D} {ws : List V}, PyData.strOk a = true → RSs g C ρ σ H xs ws → strsOf xs = some ss → (ss.map (·.length)).sum + ss.length * a.length ≤ sizeLine → Post .fr g C ρ σ H (.ok (.str (Str.join a ss)) p) Q → Q (.str (Txt.join a ss)) H := fun {a ss xs ws} o1 r e hz q => by
    obtain ⟨_, h2⟩ := strsOf_rep r e
    rw [txt_join]
    exact Post.ret R q (fr_str (Nat.le_trans (StrLaws.join_length_le a ss) hz) (join_ok o1 fun s hs => (h2 s hs).2))
  cases x with
  | str s =>
    obtain ⟨rfl, l1, o1⟩ := rt_str z1.tp
    cases y with
    | lst ds =>
      obtain ⟨a1, vs, rfl, _, h1, _, s1⟩ := rt_lst z2.tp
      simp only [dJoin] at q
      cases e : strsOf ds with
      | none => rw [e] at q; exact q.elim
      | some ss =>
        rw [e] at q
        simp only [] at q
        split at q
        · rename_i hz
          obtain ⟨h2, _⟩ := strsOf_rep s1 e
          subst h2
          exact ⟨⟨_, rfl⟩, s, a1, ss, rfl, rfl, .inl (SqL.of h1), by rw [← sizeLine_eq]; exact hz, fin o1 s1 e hz q⟩
        · exact q.elim
    | tup ds =>
      obtain ⟨a1, vs, rfl, h1, _, s1⟩ := rt_tup z2.tp
      simp only [dJoin] at q
      cases e : strsOf ds with
      | none => rw [e] at q; exact q.elim
      | some ss =>
        rw [e] at q
        simp only [] at q
        split at q
        · rename_i hz
          obtain ⟨h2, _⟩ := strsOf_rep s1 e
          subst h2
          exact ⟨⟨_, rfl⟩, s, a1, ss, rfl, rfl, .inr h1, by rw [← sizeLine_eq]; exact hz, fin o1 s1 e hz q⟩
        · exact q.elim
    | _ => exact q.elim
  | _ => exact q.elim
/-- s.strip('..') -/
def dStrip (x y : D) : M D := match x, y with
  | .str a, .str b => M.pure (.str (Txt.stripChars a b))
  | _, _ => M.stuck
theorem strip_sub (f : Nat → Bool) (l r : Bool) (s : Str) : (Txt.stripBy f l r s).length ≤ s.length ∧ ∀ c ∈ (Txt.stripBy f l r s).cps.toList, c ∈ s.cps.toList := by
  rw [PyProof.Rows.stripBy_eq]
  refine ⟨by show (s.cps.extract _ _).size ≤ s.cps.size; rw [Array.size_extract]; omega, fun c hc => ?_⟩
  unfold Builtin.Str.strSub at hc
  simp only [] at hc
  rw [Array.toList_extract] at hc
  exact List.mem_of_mem_drop (List.mem_of_mem_take hc)
theorem je_strip (hs : notStar b = true) (hb' : notSup a = true) (hl : (apos.endLine == pos.line) = true) (ha : JE κ1 g a ma) (hb : JE κ2 g b mb) :
    JE .fr g (.Call (.Attribute a "strip" apos) [b] [] pos) (fun ρ => M.bind (isStr (ma ρ)) fun x => M.bind (mb ρ) fun y => dStrip x y) :=
  je_m1 PySem.F.slot_str_strip PySem.F.type_str_strip (fun X _ => mt_stripChars) (fun C ρ p σ H0 H x y v w Q R z1 z2 q => by
    unfold dStrip at q
    split at q
    · obtain ⟨rfl, l1, o1⟩ := rt_str z1.tp
      obtain ⟨rfl, l2, o2⟩ := rt_str z2.tp
      rename_i s t
      obtain ⟨h1, h2⟩ := strip_sub t.cps.contains true true s
      exact ⟨⟨_, rfl⟩, s, t, rfl, rfl, l1, Post.ret R q (fr_str (Nat.le_trans h1 l1) (by rw [strOk_all] at o1 ⊢; exact fun c hc => o1 c (h2 c hc)))⟩
    · exact q.elim) hs hb' hl ha.isStr hb (fun ρ p d p' => isStr_str)

/-! built-in functions and classes of one argument -/
theorem je_b1 {nm : Str} {r : List V → Hp → VK → Prop} {f : D → M D} {k : Kd} (hp : ∀ X, g.Ok X → ∀ t, PA X [a] t → PE X (.Call (.Name nm p1) [a] [] pos) (tCB r t)) (hs : notStar a = true)
    (hf : ∀ C ρ p σ H0 H x v Q, Rel g C ρ p σ H → RPK κ g C ρ σ H0 H x v → Post k g C ρ σ H (f x p) Q → r [v] H Q) (ha : JE κ g a ma) : JE k g (.Call (.Name nm p1) [a] [] pos) (fun ρ => M.bind (ma ρ) f) := by
  obtain ⟨ta, q1, r1⟩ := ha.ex
  refine ⟨tCB r (tCons ta tNil), fun X o => hp X o _ (pa_cons (q1 X o) pa_nil (star_ok hs _)), TR.seq (k := fun _ v H1 Q => r [v] H1 Q) (f := fun _ x => f x) r1 fun C ρ p σ H0 H x v Q R _ z q => hf C ρ p σ H0 H x v Q R z q⟩
def GlOk (g : G) (nm : Str) : Prop := g.sc.names.lookup nm = some .globalImplicit ∧ g.mg nm = none
theorem hp_blt {nm : Str} {id : String} {r : List V → Hp → VK → Prop} (h : GlOk g nm) (hs : notStar a = true) (hc : ∀ X, g.Ok X → CallR X (.builtin id) r) (hv : bootBuiltins nm = some (.builtin id)) (hn : nm ≠ "__name__") (hd : (nm == ("__debug__" : Str)) = false) :
    ∀ X, g.Ok X → ∀ t, PA X [a] t → PE X (.Call (.Name nm p1) [a] [] pos) (tCB r t) := fun X o t ht =>
  pe_callB (hc X o) (by show X.env.scope.names.lookup _ = _; rw [o.sc]; exact h.1) (by rw [o.mg]; exact h.2) hv ht hn hd (star_ok hs _) (plain_tail rfl _ _)
theorem hp_ty {nm : Str} {id : String} {r : List V → Hp → VK → Prop} (h : GlOk g nm) (hs : notStar a = true) (hc : ∀ X, g.Ok X → CallR X (.type id) r) (hv : bootBuiltins nm = some (.type id)) (hn : nm ≠ "__name__") (hd : (nm == ("__debug__" : Str)) = false) :
    ∀ X, g.Ok X → ∀ t, PA X [a] t → PE X (.Call (.Name nm p1) [a] [] pos) (tCB r t) := fun X o t ht =>
  pe_callTy (hc X o) (by show X.env.scope.names.lookup _ = _; rw [o.sc]; exact h.1) (by rw [o.mg]; exact h.2) hv ht hn hd (star_ok hs _) (plain_tail rfl _ _)
/-- len -/
def dLen : D → M D
  | .str s => M.pure (.int s.length)
  | .lst ds => M.pure (.int ds.length)
  | .tup ds => M.pure (.int ds.length)
  | _ => M.stuck
theorem je_len (h : GlOk g "len") (hs : notStar a = true) (ha : JE κ g a ma) : JE .fr g (.Call (.Name "len" p1) [a] [] pos) (fun ρ => M.bind (ma ρ) dLen) :=
  je_b1 (hp_blt (r := fun xs H Q => ∃ x n, xs = [x] ∧ LenV g.K x H n ∧ Q (.int n) H) h hs (fun X o => by rw [← o.K]; exact call_len) (by decide +kernel) (by decide) (by decide)) hs (fun C ρ p σ H0 H x v Q R z q => by
    cases x with
    | str s => obtain ⟨rfl, l1, _⟩ := rt_str z.tp; exact ⟨_, s.length, rfl, ⟨l1, rfl⟩, Post.ret R q fr_int⟩
    | lst ds => obtain ⟨a1, vs, rfl, _, h1, _, s1⟩ := rt_lst z.tp; exact ⟨_, ds.length, rfl, .inl ⟨vs, SqL.of h1, s1.length⟩, Post.ret R q fr_int⟩
    | tup ds => obtain ⟨a1, vs, rfl, h1, _, s1⟩ := rt_tup z.tp; exact ⟨_, ds.length, rfl, .inr ⟨vs, h1, s1.length⟩, Post.ret R q fr_int⟩
    | _ => exact q.elim) ha
/-- tuple(x), list(x) -/
def dTuple : D → M D
  | .lst ds => M.pure (.tup ds)
  | .tup ds => M.pure (.tup ds)
  | _ => M.stuck
def dList : D → M D
  | .lst ds => M.pure (.lst ds)
  | .tup ds => M.pure (.lst ds)
  | _ => M.stuck
theorem je_tuple (h : GlOk g "tuple") (hs : notStar a = true) (ha : JE κ g a ma) : JE .fr g (.Call (.Name "tuple" p1) [a] [] pos) (fun ρ => M.bind (ma ρ) dTuple) :=
  je_b1 (hp_ty (r := fun xs H Q => ∃ p ys, xs = [.ref p] ∧ ((SqL g.K H p ys ∧ ∀ l, H l = none → Q (.ref l) (upd H l (.tup ys))) ∨ (SqT g.K H p ys ∧ Q (.ref p) H))) h hs (fun X o => by rw [← o.K]; exact call_tuple_of) (by decide +kernel) (by decide) (by decide)) hs (fun C ρ p σ H0 H x v Q R z q => by
    cases x with
    | lst ds => obtain ⟨a1, vs, rfl, _, h1, l1, s1⟩ := rt_lst z.tp; exact ⟨_, vs, rfl, .inl ⟨SqL.of h1, fun c n => Post.tup R q l1 s1 n⟩⟩
    | tup ds => obtain ⟨a1, vs, rfl, h1, l1, s1⟩ := rt_tup z.tp; exact ⟨_, vs, rfl, .inr ⟨h1, Post.ret R q (fr_tup (rs_tup h1 l1 s1))⟩⟩
    | _ => exact q.elim) ha
theorem je_list (h : GlOk g "list") (hs : notStar a = true) (ha : JE κ g a ma) : JE .fr g (.Call (.Name "list" p1) [a] [] pos) (fun ρ => M.bind (ma ρ) dList) :=
  je_b1 (hp_ty (r := fun xs H Q => ∃ p ys, xs = [.ref p] ∧ (SqL g.K H p ys ∨ SqT g.K H p ys) ∧ ∀ l, H l = none → Q (.ref l) (upd H l (.lst ys))) h hs (fun X o => by rw [← o.K]; exact call_list_of) (by decide +kernel) (by decide) (by decide)) hs (fun C ρ p σ H0 H x v Q R z q => by
    cases x with
    | lst ds => obtain ⟨a1, vs, rfl, _, h1, l1, s1⟩ := rt_lst z.tp; exact ⟨_, vs, rfl, .inl (SqL.of h1), fun c n => Post.lst R q l1 s1 n⟩
    | tup ds => obtain ⟨a1, vs, rfl, h1, l1, s1⟩ := rt_tup z.tp; exact ⟨_, vs, rfl, .inr h1, fun c n => Post.lst R q l1 s1 n⟩
    | _ => exact q.elim) ha
/-- all, any of a list of truths -/
def blsOf : List D → Option (List Bool)
  | [] => some []
  | .bl b :: r => (blsOf r).map (b :: ·)
  | _ :: _ => none
theorem blsOf_rep : ∀ {ds : List D} {vs : List V} {bs : List Bool}, RSs g C ρ σ H ds vs → blsOf ds = some bs → vs = bs.map V.bl
  | [], vs, ss, h, e => by cases e; have h := Reps.nil_iff.mp h; subst h; rfl
  | d :: ds, vs, ss, h, e => by
    obtain ⟨v, r, rfl, h1, h2⟩ := Reps.cons_iff.mp h
    cases d with
    | bl s =>
      simp only [blsOf] at e
      cases e2 : blsOf ds with
      | none => rw [e2] at e; cases e
      | some r' =>
        rw [e2] at e
        simp only [Option.map_some, Option.some.injEq] at e
        subst e
        rw [blsOf_rep h2 e2, rt_bl (.inl h1)]
        rfl
    | _ => cases e
def dAll : D → M D
  | .lst ds => M.ofO ((blsOf ds).map fun bs => .bl (bs.all id))
  | _ => M.stuck
def dAny : D → M D
  | .lst ds => M.ofO ((blsOf ds).map fun bs => .bl (bs.any id))
  | _ => M.stuck
theorem je_all (h : GlOk g "all") (hs : notStar a = true) (ha : JE κ g a ma) : JE .fr g (.Call (.Name "all" p1) [a] [] pos) (fun ρ => M.bind (ma ρ) dAll) :=
  je_b1 (hp_blt (r := rAll g.K) h hs (fun X o => by rw [← o.K]; exact cr_all o.calm) (by decide +kernel) (by decide) (by decide)) hs (fun C ρ p σ H0 H x v Q R z q => by
    cases x with
    | lst ds =>
      obtain ⟨a1, vs, rfl, _, h1, _, s1⟩ := rt_lst z.tp
      simp only [dAll] at q
      cases e : blsOf ds with
      | none => rw [e] at q; exact q.elim
      | some bs =>
        rw [e] at q
        rw [blsOf_rep s1 e] at h1
        exact ⟨_, bs, rfl, SqL.of h1, Post.ret R q fr_bl⟩
    | _ => exact q.elim) ha
theorem je_any (h : GlOk g "any") (hs : notStar a = true) (ha : JE κ g a ma) : JE .fr g (.Call (.Name "any" p1) [a] [] pos) (fun ρ => M.bind (ma ρ) dAny) :=
  je_b1 (hp_blt (r := rAny g.K) h hs (fun X o => by rw [← o.K]; exact cr_any o.calm) (by decide +kernel) (by decide) (by decide)) hs (fun C ρ p σ H0 H x v Q R z q => by
    cases x with
    | lst ds =>
      obtain ⟨a1, vs, rfl, _, h1, _, s1⟩ := rt_lst z.tp
      simp only [dAny] at q
      cases e : blsOf ds with
      | none => rw [e] at q; exact q.elim
      | some bs =>
        rw [e] at q
        rw [blsOf_rep s1 e] at h1
        exact ⟨_, bs, rfl, SqL.of h1, Post.ret R q fr_bl⟩
    | _ => exact q.elim) ha
/-- int of a truth, of a number -/
def dInt : D → M D
  | .int i => M.pure (.int i)
  | .bl b => M.pure (.int (if b then 1 else 0))
  | _ => M.stuck
theorem je_int' (h : GlOk g "int") (hs : notStar a = true) (ha : JE κ g a ma) : JE .fr g (.Call (.Name "int" p1) [a] [] pos) (fun ρ => M.bind (ma ρ) dInt) :=
  je_b1 (hp_ty h hs (fun X o => call_int1) (by decide +kernel) (by decide) (by decide)) hs (fun C ρ p σ H0 H x v Q R z q => by
    cases x with
    | int i => rw [rt_int z.tp]; exact .inl ⟨i, rfl, Post.ret R q fr_int⟩
    | bl i => rw [rt_bl z.tp]; exact .inr ⟨i, rfl, Post.ret R q fr_int⟩
    | _ => exact q.elim) ha
/-- str of a number -/
def strInt (i : Int) : Str := ((toString i : String) : Str)
def dStr : D → M D
  | .int i => if i.natAbs < 10 ^ 100 ∧ PyData.strOk (strInt i) = true ∧ (strInt i).length ≤ sizeLine then M.pure (.str (strInt i)) else M.stuck
  | _ => M.stuck
theorem je_str' (h : GlOk g "str") (hs : notStar a = true) (ha : JE κ g a ma) : JE .fr g (.Call (.Name "str" p1) [a] [] pos) (fun ρ => M.bind (ma ρ) dStr) :=
  je_b1 (hp_ty h hs (fun X o => call_str_int) (by decide +kernel) (by decide) (by decide)) hs (fun C ρ p σ H0 H x v Q R z q => by
    cases x with
    | int i =>
      rw [rt_int z.tp]
      simp only [dStr] at q
      split at q
      · rename_i hh
        refine ⟨i, rfl, ?_, Post.ret R q (fr_str hh.2.2 hh.2.1)⟩
        by_cases h0 : i.natAbs = 0
        · rw [h0]; decide
        · have h1 : i.natAbs < 2 ^ 1920 := Nat.lt_of_lt_of_le hh.1 (by decide +kernel)
          exact (Nat.log2_lt h0).mpr h1
      · exact q.elim
    | _ => exact q.elim) ha
/-- ord of a sign -/
def dOrd : D → M D
  | .str s => if s.length = 1 then M.pure (.int (s.cps.getD 0 0 : Nat)) else M.stuck
  | _ => M.stuck
theorem je_ord (h : GlOk g "ord") (hs : notStar a = true) (ha : JE κ g a ma) : JE .fr g (.Call (.Name "ord" p1) [a] [] pos) (fun ρ => M.bind (ma ρ) dOrd) :=
  je_b1 (hp_blt h hs (fun X o => call_ord) (by decide +kernel) (by decide) (by decide)) hs (fun C ρ p σ H0 H x v Q R z q => by
    cases x with
    | str i =>
      obtain ⟨rfl, _⟩ := rt_str z.tp
      simp only [dOrd] at q
      split at q
      · rename_i hh
        exact ⟨i, rfl, hh, Post.ret R q fr_int⟩
      · exact q.elim
    | _ => exact q.elim) ha
/-- min, max of a list of numbers; of two -/
def intsOf : List D → Option (List Int)
  | [] => some []
  | .int b :: r => (intsOf r).map (b :: ·)
  | _ :: _ => none
theorem intsOf_rep : ∀ {ds : List D} {vs : List V} {bs : List Int}, RSs g C ρ σ H ds vs → intsOf ds = some bs → vs = bs.map V.int
  | [], vs, ss, h, e => by cases e; have h := Reps.nil_iff.mp h; subst h; rfl
  | d :: ds, vs, ss, h, e => by
    obtain ⟨v, r, rfl, h1, h2⟩ := Reps.cons_iff.mp h
    cases d with
    | int s =>
      simp only [intsOf] at e
      cases e2 : intsOf ds with
      | none => rw [e2] at e; cases e
      | some r' =>
        rw [e2] at e
        simp only [Option.map_some, Option.some.injEq] at e
        subst e
        rw [intsOf_rep h2 e2, rt_int (.inl h1)]
        rfl
    | _ => cases e
def leastI : List Int → Option Int
  | [] => none
  | x :: r => some (r.foldl min x)
def greatestI : List Int → Option Int
  | [] => none
  | x :: r => some (r.foldl max x)
theorem foldl_min_mem : ∀ (r : List Int) (x : Int), r.foldl min x ∈ x :: r ∧ ∀ y ∈ x :: r, r.foldl min x ≤ y
  | [], x => ⟨by simp, fun y hy => by simp at hy; subst hy; exact Int.le_refl _⟩
  | z :: r, x => by
    obtain ⟨h1, h2⟩ := foldl_min_mem r (min x z)
    refine ⟨?_, fun y hy => ?_⟩
    · rw [List.foldl_cons]
      rcases List.mem_cons.mp h1 with e | h
      · rw [e]; by_cases q : x ≤ z
        · rw [Int.min_eq_left q]; simp
        · rw [Int.min_eq_right (by omega)]; simp
      · exact List.mem_cons_of_mem _ (List.mem_cons_of_mem _ h)
    · rw [List.foldl_cons]
      have h3 := h2 (min x z) (by simp)
      rcases List.mem_cons.mp hy with e | hy
      · subst e; omega
      · rcases List.mem_cons.mp hy with e | hy
        · subst e; omega
        · exact h2 y (List.mem_cons_of_mem _ hy)
theorem foldl_max_mem : ∀ (r : List Int) (x : Int), r.foldl max x ∈ x :: r ∧ ∀ y ∈ x :: r, y ≤ r.foldl max x
  | [], x => ⟨by simp, fun y hy => by simp at hy; subst hy; exact Int.le_refl _⟩
  | z :: r, x => by
    obtain ⟨h1, h2⟩ := foldl_max_mem r (max x z)
    refine ⟨?_, fun y hy => ?_⟩
    · rw [List.foldl_cons]
      rcases List.mem_cons.mp h1 with e | h
      · rw [e]; by_cases q : z ≤ x
        · rw [Int.max_eq_left q]; simp
        · rw [Int.max_eq_right (by omega)]; simp
      · exact List.mem_cons_of_mem _ (List.mem_cons_of_mem _ h)
    · rw [List.foldl_cons]
      have h3 := h2 (max x z) (by simp)
      rcases List.mem_cons.mp hy with e | hy
      · subst e; omega
      · rcases List.mem_cons.mp hy with e | hy
        · subst e; omega
        · exact h2 y (List.mem_cons_of_mem _ hy)
def dMin : D → M D
  | .lst ds => M.ofO (((intsOf ds).bind leastI).map .int)
  | _ => M.stuck
def dMax : D → M D
  | .lst ds => M.ofO (((intsOf ds).bind greatestI).map .int)
  | _ => M.stuck
theorem je_min (h : GlOk g "min") (hs : notStar a = true) (ha : JE κ g a ma) : JE .fr g (.Call (.Name "min" p1) [a] [] pos) (fun ρ => M.bind (ma ρ) dMin) :=
  je_b1 (hp_blt (r := rMin g.K) h hs (fun X o => by rw [← o.K]; exact cr_min o.calm) (by decide +kernel) (by decide) (by decide)) hs (fun C ρ p σ H0 H x v Q R z q => by
    cases x with
    | lst ds =>
      obtain ⟨a1, vs, rfl, _, h1, _, s1⟩ := rt_lst z.tp
      simp only [dMin] at q
      cases e : intsOf ds with
      | none => rw [e] at q; exact q.elim
      | some bs =>
        rw [e] at q
        rw [intsOf_rep s1 e] at h1
        cases bs with
        | nil => exact q.elim
        | cons x r =>
          refine ⟨_, x :: r, rfl, SqL.of h1, by simp, fun m hm hle => ?_⟩
          obtain ⟨g1, g2⟩ := foldl_min_mem r x
          have em : r.foldl min x = m := Int.le_antisymm (g2 m hm) (hle _ g1)
          have := Post.ret R q fr_int
          rw [em] at this
          exact this
    | _ => exact q.elim) ha
theorem je_max (h : GlOk g "max") (hs : notStar a = true) (ha : JE κ g a ma) : JE .fr g (.Call (.Name "max" p1) [a] [] pos) (fun ρ => M.bind (ma ρ) dMax) :=
  je_b1 (hp_blt (r := rMax g.K) h hs (fun X o => by rw [← o.K]; exact cr_max o.calm) (by decide +kernel) (by decide) (by decide)) hs (fun C ρ p σ H0 H x v Q R z q => by
    cases x with
    | lst ds =>
      obtain ⟨a1, vs, rfl, _, h1, _, s1⟩ := rt_lst z.tp
      simp only [dMax] at q
      cases e : intsOf ds with
      | none => rw [e] at q; exact q.elim
      | some bs =>
        rw [e] at q
        rw [intsOf_rep s1 e] at h1
        cases bs with
        | nil => exact q.elim
        | cons x r =>
          refine ⟨_, x :: r, rfl, SqL.of h1, by simp, fun m hm hle => ?_⟩
          obtain ⟨g1, g2⟩ := foldl_max_mem r x
          have em : r.foldl max x = m := Int.le_antisymm (hle _ g1) (g2 m hm)
          have := Post.ret R q fr_int
          rw [em] at this
          exact this
    | _ => exact q.elim) ha
/-- of two numbers -/
def dMax2 : D → D → M D
  | .int i, .int j => M.pure (.int (if j > i then j else i))
  | _, _ => M.stuck
def dMin2 : D → D → M D
  | .int i, .int j => M.pure (.int (if j < i then j else i))
  | _, _ => M.stuck
theorem je_b2 {nm : Str} {r : List V → Hp → VK → Prop} {f : D → D → M D} (hp : ∀ X, g.Ok X → ∀ t, PA X [a, b] t → PE X (.Call (.Name nm p1) [a, b] [] pos) (tCB r t)) (hs : notStar a = true) (hs2 : notStar b = true)
    (hf : ∀ C ρ p σ H0 H x y v w Q, Rel g C ρ p σ H → RPK κ1 g C ρ σ H0 H x v → RPK κ2 g C ρ σ H0 H y w → Post .fr g C ρ σ H (f x y p) Q → r [v, w] H Q) (ha : JE κ1 g a ma) (hb : JE κ2 g b mb) : JE .fr g (.Call (.Name nm p1) [a, b] [] pos) (fun ρ => M.bind (ma ρ) fun x => M.bind (mb ρ) fun y => f x y) := by
  obtain ⟨ta, q1, r1⟩ := ha.ex
  obtain ⟨tb, q2, r2⟩ := hb.ex
  refine ⟨tCB r (tCons ta (tCons tb tNil)), fun X o => hp X o _ (pa_cons (q1 X o) (pa_cons (q2 X o) pa_nil (star_ok hs2 _)) (star_ok hs _)), ?_⟩
  exact TR.op2 (r := fun v w H Q => r [v, w] H Q) r1 r2 fun C ρ p σ H0 H x y v w Q R z1 z2 q => hf C ρ p σ H0 H x y v w Q R z1 z2 q
theorem hp_blt2 {nm : Str} {id : String} {r : List V → Hp → VK → Prop} (h : GlOk g nm) (hs : notStar a = true) (hs2 : notStar b = true) (hc : ∀ X, g.Ok X → CallR X (.builtin id) r) (hv : bootBuiltins nm = some (.builtin id)) (hn : nm ≠ "__name__") (hd : (nm == ("__debug__" : Str)) = false) :
    ∀ X, g.Ok X → ∀ t, PA X [a, b] t → PE X (.Call (.Name nm p1) [a, b] [] pos) (tCB r t) := fun X o t ht =>
  pe_callB (hc X o) (by show X.env.scope.names.lookup _ = _; rw [o.sc]; exact h.1) (by rw [o.mg]; exact h.2) hv ht hn hd (star_ok hs _) (plain_tail (by simp [hs2]) _ _)
theorem je_max2 (h : GlOk g "max") (hs : notStar a = true) (hs2 : notStar b = true) (ha : JE κ1 g a ma) (hb : JE κ2 g b mb) : JE .fr g (.Call (.Name "max" p1) [a, b] [] pos) (fun ρ => M.bind (ma ρ) fun x => M.bind (mb ρ) fun y => dMax2 x y) :=
  je_b2 (hp_blt2 h hs hs2 (fun X o => call_max2 o.calm) (by decide +kernel) (by decide) (by decide)) hs hs2 (fun C ρ p σ H0 H x y v w Q R z1 z2 q => by
    unfold dMax2 at q
    split at q
    · exact ⟨_, _, by rw [rt_int z1.tp, rt_int z2.tp], Post.ret R q fr_int⟩
    · exact q.elim) ha hb
theorem je_min2 (h : GlOk g "min") (hs : notStar a = true) (hs2 : notStar b = true) (ha : JE κ1 g a ma) (hb : JE κ2 g b mb) : JE .fr g (.Call (.Name "min" p1) [a, b] [] pos) (fun ρ => M.bind (ma ρ) fun x => M.bind (mb ρ) fun y => dMin2 x y) :=
  je_b2 (hp_blt2 h hs hs2 (fun X o => call_min2 o.calm) (by decide +kernel) (by decide) (by decide)) hs hs2 (fun C ρ p σ H0 H x y v w Q R z1 z2 q => by
    unfold dMin2 at q
    split at q
    · exact ⟨_, _, by rw [rt_int z1.tp, rt_int z2.tp], Post.ret R q fr_int⟩
    · exact q.elim) ha hb
end
end MS
/-! FA -/
namespace MS
open PySem PySem.Spec PyProof.Rows L2

/-! what is walked -/
/-- the walk J yields the trees ds, as long as what S lets stays -/
def WalkD (S : Addr → Prop) (g : G) (J : It) (C : Ctx) (ρ : Rho) (σ : L2.St) (ds : List D) (H1 : Hp) : Prop := ∀ H, Keep S H1 H →
  (∀ i, i < ds.length → J.go i H) ∧ J.stop ds.length H ∧ ∀ i x H', i < ds.length → J.yld i H x H' →
    Keep C.kp H H' ∧ (∀ pp p, PenOk pp p H → PenOk pp p H') ∧ (LamX.Tabs g.T H → LamX.Tabs g.T H') ∧ ∃ d, ds[i]? = some d ∧ Rep g.K C.po (fun a => Sv C ρ σ a ∧ H1 a ≠ none) H' d x
def Kd.S (κ : Kd) (C : Ctx) (ρ : Rho) (σ : L2.St) : Addr → Prop := match κ with
  | .tp => C.kp
  | _ => Sv C ρ σ
structure JI (κ : Kd) (g : G) (tg iter : Expr) (m : Rho → M (List D)) : Prop where
  ex : ∃ wi, (∀ X, g.Ok X → PI X tg iter wi) ∧ ∀ C ρ p σ H (Q : It → Hp → Prop), Rel g C ρ p σ H → (match m ρ p with
    | .ok ds p' => ∀ J H', Rel g C ρ p' σ H' → Keep C.kp H H' → ds.length ≤ sizeLine → WalkD (κ.S C ρ σ) g J C ρ σ ds H' → Q J H'
    | .exc c p' => ∀ H', Rel g C ρ p' σ H' → Keep C.kp H H' → g.W (.ref (He.ga g.K c)) none σ H'
    | .stuck => False) → wi σ H Q
def iAny (K : PySem.W.Frag) (te : TE) : TI := fun σ H R => te σ H fun x H1 => (∃ a, x = .ref a ∧ (∃ xs, SqL K H1 a xs) ∧ R (Itl K a) H1) ∨ (∃ a, x = .ref a ∧ (∃ xs, SqT K H1 a xs) ∧ R (Itt K a) H1) ∨ ∃ s, x = .str s ∧ R (Its s) H1
theorem pi_any {X : Cx} {tg l : Expr} {tl : TE} (hl : PE X l tl) : PI X tg l (iAny X.K tl) := by
  refine ⟨fun pins s σ H R I h => ?_⟩
  refine thn (hl.run pins s σ H _ I h) fun v s1 ⟨x, H1, I1, r1, q1⟩ => ?_
  rcases q1 with ⟨a, e, ⟨xs, hq⟩, q⟩ | ⟨a, e, ⟨xs, hq⟩, q⟩ | ⟨x', e, q⟩
  · subst e
    cases r1
    obtain ⟨its, rv, p, hz⟩ := I1.list hq
    refine wpAny_pyIter_list p.isList ?_
    refine ⟨s1.heap.objs.size, [s1.heap.objs.size], _, _, H1, rfl, I1.kept (t' := s1.toks) fun b o e => Heap.get?_push_of_some _ e, turn_list a _, ⟨_, Heap.get?_push_size _ rfl, rfl, rfl⟩, fun b hb => ?_, q⟩
    have e : b = s1.heap.objs.size := by simpa using hb
    subst e
    exact I1.fpOk (Nat.le_refl _) (I1.hok.fresh (Nat.le_refl _))
  · subst e
    cases r1
    obtain ⟨its, rv, p, hz⟩ := I1.tuple hq
    refine wpAny_pyIter_tuple (show s1.heap.IsTuple a its.toArray from p) ?_
    refine ⟨s1.heap.objs.size, [s1.heap.objs.size], _, _, H1, rfl, I1.kept (t' := s1.toks) fun b o e => Heap.get?_push_of_some _ e, turn_tuple a _, ⟨_, Heap.get?_push_size _ rfl, rfl, rfl⟩, fun b hb => ?_, q⟩
    have e : b = s1.heap.objs.size := by simpa using hb
    subst e
    exact I1.fpOk (Nat.le_refl _) (I1.hok.fresh (Nat.le_refl _))
  · subst e
    obtain ⟨t, rfl⟩ := r1
    cases ha : x'.cps.all (· < 128)
    · exact wpAny_pyIter_wide ha (pi_one (tk := s1.toks) I1 _ (turn_str _ x' t "str_iterator" (.inr rfl)) ⟨_, Heap.get?_push_size _ rfl, rfl, rfl⟩ q)
    · exact wpAny_pyIter_ascii ha (pi_one (tk := s1.toks) I1 _ (turn_str _ x' t "str_ascii_iterator" (.inl rfl)) ⟨_, Heap.get?_push_size _ rfl, rfl, rfl⟩ q)
/-- the signs of a text, as texts -/
def signsD (s : Str) : List D := s.cps.toList.map fun c => .str ⟨#[c]⟩
def itemsD : D → M (List D)
  | .lst ds => M.pure ds
  | .tup ds => M.pure ds
  | .str s => M.pure (signsD s)
  | _ => M.stuck
section
variable {g : G} {C : Ctx} {κ κ1 κ2 κ3 : Kd} {a b c tg : Expr} {ma mb mc : Rho → M D} {pos apos p1 : Pos} {es : List Expr} {ms : Rho → M (List D)} {ρ : Rho} {p p' : PS} {σ : L2.St} {H H' H0 : Hp}
theorem itl_get {i : Nat} {xs : List V} {a : Addr} {ds : List D} {S : Addr → Prop} (h1 : SqL g.K H a xs) (s1 : Reps g.K C.po S H ds xs) (hi : i < ds.length) : ∃ x, xs[i]? = some x := ⟨xs[i]'(by rw [← s1.length]; exact hi), by simp [← s1.length, hi]⟩
theorem SqL.of_keep {S : Addr → Prop} {a : Addr} {xs : List V} (h : H a = some (.lst xs)) (k : Keep S H H') (hs : S a) : H' a = some (.lst xs) := k.kept a _ h hs
theorem Itl_yld {K : PySem.W.Frag} {a : Addr} {i : Nat} {x : V} {xs : List V} (y : (Itl K a).yld i H x H') (h : SqL K H a xs) : H' = H ∧ xs[i]? = some x := ⟨y.1, y.2 _ h⟩
theorem Itt_yld {K : PySem.W.Frag} {a : Addr} {i : Nat} {x : V} {xs : List V} (y : (Itt K a).yld i H x H') (h : SqT K H a xs) : H' = H ∧ xs[i]? = some x := ⟨y.1, y.2 _ h⟩
theorem Sv_kp {a : Addr} (h : Sv C ρ σ a) : C.kp a := h.2.1
theorem Kd.S_Sv {a : Addr} (h : Sv C ρ σ a) : κ.S C ρ σ a := by cases κ <;> first | exact h | exact h.2.1
theorem walk_lst {a : Addr} {vs : List V} {ds : List D} (R : Rel g C ρ p σ H) (h : H a = some (.lst vs)) (hs : κ.S C ρ σ a) (r : RSs g C ρ σ H ds vs) : WalkD (κ.S C ρ σ) g (Itl g.K a) C ρ σ ds H := fun H2 k => by
  have h2 := k.kept a _ h hs
  have k' : Keep (Sv C ρ σ) H H2 := k.mono fun b z => Kd.S_Sv z
  have r2 : Reps g.K C.po (fun a => Sv C ρ σ a ∧ H a ≠ none) H2 ds vs := r.monoH (fun _ o e z => ⟨z, by rw [e]; exact nofun⟩) k'
  refine ⟨fun i hi => ?_, ⟨vs, SqL.of h2, by rw [r2.length]; exact Nat.le_refl _⟩, fun i x H' hi y => ?_⟩
  · obtain ⟨x, hx⟩ := itl_get (SqL.of h2) r2 hi
    exact ⟨vs, x, SqL.of h2, hx⟩
  · obtain ⟨rfl, e⟩ := Itl_yld y (SqL.of h2)
    obtain ⟨d, e1, e2⟩ := r2.get e
    exact ⟨Keep.refl _, fun _ _ z => z, fun z => z, d, e1, e2⟩
theorem walk_tup {a : Addr} {vs : List V} {ds : List D} (R : Rel g C ρ p σ H) (h : SqT g.K H a vs) (r : RSs g C ρ σ H ds vs) : WalkD (κ.S C ρ σ) g (Itt g.K a) C ρ σ ds H := fun H2 k => by
  have h2 := keep_t k h
  have k' : Keep (Sv C ρ σ) H H2 := k.mono fun b z => Kd.S_Sv z
  have r2 : Reps g.K C.po (fun a => Sv C ρ σ a ∧ H a ≠ none) H2 ds vs := r.monoH (fun _ o e z => ⟨z, by rw [e]; exact nofun⟩) k'
  refine ⟨fun i hi => ?_, ⟨vs, h2, by rw [r2.length]; exact Nat.le_refl _⟩, fun i x H' hi y => ?_⟩
  · exact ⟨vs, vs[i]'(by rw [← r2.length]; exact hi), h2, by simp [← r2.length, hi]⟩
  · obtain ⟨rfl, e⟩ := Itt_yld y h2
    obtain ⟨d, e1, e2⟩ := r2.get e
    exact ⟨Keep.refl _, fun _ _ z => z, fun z => z, d, e1, e2⟩
theorem walk_str {s : Str} (ho : PyData.strOk s = true) : WalkD (κ.S C ρ σ) g (Its s) C ρ σ (signsD s) H := fun H2 k => by
  refine ⟨fun i hi => by show i < s.cps.size; simpa [signsD] using hi, by simp [signsD, Its], fun i x H' hi y => ?_⟩
  obtain ⟨rfl, c, e, rfl⟩ := y
  have e2 : s.cps.toList[i]? = some c := by rw [Array.getElem?_toList]; exact e
  refine ⟨Keep.refl _, fun _ _ z => z, fun z => z, .str ⟨#[c]⟩, by simp [signsD, e2], Rep.anyS (S := Sv C ρ σ) rfl <| rs_str (g := g) (C := C) (ρ := ρ) (σ := σ) (by show 1 ≤ sizeLine; rw [sizeLine_eq]; decide) ?_⟩
  rw [strOk_all] at ho ⊢
  intro c' hc'
  have : c' = c := by simpa using hc'
  subst this
  exact ho _ (List.mem_of_getElem? e2)
theorem ji_any (hk : κ ≠ .fr) (ha : JE κ g a ma) : JI κ g tg a (fun ρ => M.bind (ma ρ) itemsD) := by
  obtain ⟨t, q1, r1⟩ := ha.ex
  refine ⟨iAny g.K t, fun X o => by have h := pi_any (tg := tg) (q1 X o); rw [o.K] at h; exact h, fun C ρ p σ H Q R q => ?_⟩
  refine r1 C ρ p σ H _ R ?_
  cases e : ma ρ p with
  | exc c p' => simp only [bind_exc e] at q; exact q
  | stuck => simp only [bind_stuck e] at q
  | ok d p' =>
    simp only [bind_ok e] at q
    intro v H1 R1 k1 z1
    cases d with
    | lst ds =>
      obtain ⟨a1, vs, rfl, h0, h1, l1, s1⟩ := rt_lst z1.tp
      refine .inl ⟨a1, rfl, ⟨vs, SqL.of h1⟩, q _ H1 R1 k1 l1 (walk_lst R1 h1 ?_ s1)⟩
      cases κ with
      | fr => exact absurd rfl hk
      | tp => exact h0
      | sh =>
        unfold RPK at z1
        simp only [] at z1
        unfold Rep at z1
        obtain ⟨a2, vs2, e1, e2, _⟩ := z1
        cases e1
        exact e2
    | tup ds =>
      obtain ⟨a1, vs, rfl, h1, l1, s1⟩ := rt_tup z1.tp
      exact .inr (.inl ⟨a1, rfl, ⟨vs, h1⟩, q _ H1 R1 k1 l1 (walk_tup R1 h1 s1)⟩)
    | str s =>
      obtain ⟨rfl, l1, o1⟩ := rt_str z1.tp
      exact .inr (.inr ⟨s, rfl, q _ H1 R1 k1 (by unfold signsD; rw [List.length_map, Array.length_toList]; exact l1) (walk_str o1)⟩)
    | _ => exact q.elim
/-- range -/
def rangeD (lo : Int) (n : Nat) : List D := (List.range n).map fun (i : Nat) => .int (lo + (i : Int))
def dRange1 : D → M (List D)
  | .int j => if -(2 ^ 62) ≤ j ∧ j ≤ 16777216 then M.pure (rangeD 0 j.toNat) else M.stuck
  | _ => M.stuck
def dRange2 : D → D → M (List D)
  | .int i, .int j => if (-(2 ^ 62) ≤ i ∧ i < 2 ^ 62 ∧ -(2 ^ 62) ≤ j ∧ j < 2 ^ 62) ∧ (j - i).toNat ≤ 16777216 then M.pure (rangeD i (j - i).toNat) else M.stuck
  | _, _ => M.stuck
theorem walk_range {lo : Int} {n : Nat} : WalkD (κ.S C ρ σ) g (Itr lo n) C ρ σ (rangeD lo n) H := fun H2 k => by
  refine ⟨fun i hi => by show i < n; simpa [rangeD] using hi, by simp [rangeD, Itr], fun i x H' hi y => ?_⟩
  obtain ⟨rfl, rfl⟩ := y
  have hi' : i < n := by simpa [rangeD] using hi
  exact ⟨Keep.refl _, fun _ _ z => z, fun z => z, .int (lo + i), by simp [rangeD, hi'], Rep.anyS (S := Sv C ρ σ) rfl (rs_int (g := g))⟩
theorem ji_range1 (h : GlOk g "range") (hs : notStar a = true) (ha : JE κ1 g a ma) : JI .sh g tg (.Call (.Name "range" p1) [a] [] pos) (fun ρ => M.bind (ma ρ) dRange1) := by
  obtain ⟨t, q1, r1⟩ := ha.ex
  refine ⟨iRng1 (tCons t tNil), fun X o => pi_range1 (by show X.env.scope.names.lookup _ = _; rw [o.sc]; exact h.1) (by rw [o.mg]; exact h.2) (pa_cons (q1 X o) pa_nil (star_ok hs _)) (by rw [star_ok hs]; rfl), fun C ρ p σ H Q R q => ?_⟩
  refine r1 C ρ p σ H _ R ?_
  cases e : ma ρ p with
  | exc c p' => simp only [bind_exc e] at q; exact q
  | stuck => simp only [bind_stuck e] at q
  | ok d p' =>
    simp only [bind_ok e] at q
    intro v H1 R1 k1 z1
    cases d with
    | int j =>
      rw [rt_int z1.tp]
      by_cases hh : -(2 ^ 62) ≤ j ∧ j ≤ 16777216
      · simp only [dRange1, if_pos hh] at q
        exact ⟨j, rfl, hh.1, by omega, q _ H1 R1 k1 (by unfold rangeD; rw [List.length_map, List.length_range, sizeLine_eq]; omega) walk_range⟩
      · simp only [dRange1, if_neg hh] at q
        exact q.elim
    | _ => exact q.elim
theorem ji_range2 (h : GlOk g "range") (hs : notStar a = true) (hs2 : notStar b = true) (ha : JE κ1 g a ma) (hb : JE κ2 g b mb) : JI .sh g tg (.Call (.Name "range" p1) [a, b] [] pos) (fun ρ => M.bind (ma ρ) fun x => M.bind (mb ρ) fun y => dRange2 x y) := by
  obtain ⟨t, q1, r1⟩ := ha.ex
  obtain ⟨u, q2, r2⟩ := hb.ex
  refine ⟨iRng2 (tCons t (tCons u tNil)), fun X o => pi_range2 (by show X.env.scope.names.lookup _ = _; rw [o.sc]; exact h.1) (by rw [o.mg]; exact h.2) (pa_cons (q1 X o) (pa_cons (q2 X o) pa_nil (star_ok hs2 _)) (star_ok hs _)) (by rw [star_ok hs, star_ok hs2]; rfl) (by rw [star_ok hs2]; rfl), fun C ρ p σ H Q R q => ?_⟩
  refine r1 C ρ p σ H _ R ?_
  cases e : ma ρ p with
  | exc c p' => simp only [bind_exc e] at q; exact q
  | stuck => simp only [bind_stuck e] at q
  | ok d p' =>
    simp only [bind_ok e] at q
    intro v H1 R1 k1 z1
    refine r2 C ρ p' σ H1 _ R1 ?_
    cases e2 : mb ρ p' with
    | exc c p' => simp only [bind_exc e2] at q; exact fun H' R' k' => q H' R' (k1.trans k')
    | stuck => simp only [bind_stuck e2] at q
    | ok d2 p2 =>
      simp only [bind_ok e2] at q
      intro w H2 R2 k2 z2
      cases d with
      | int i =>
        cases d2 with
        | int j =>
          rw [rt_int z1.tp, rt_int z2.tp]
          by_cases hh : (-(2 ^ 62) ≤ i ∧ i < 2 ^ 62 ∧ -(2 ^ 62) ≤ j ∧ j < 2 ^ 62) ∧ (j - i).toNat ≤ 16777216
          · simp only [dRange2, if_pos hh] at q
            exact ⟨i, j, rfl, hh.1, q _ H2 R2 (k1.trans k2) (by unfold rangeD; rw [List.length_map, List.length_range, sizeLine_eq]; omega) walk_range⟩
          · simp only [dRange2, if_neg hh] at q
            exact q.elim
        | _ => exact q.elim
      | _ => exact q.elim
/-- zip of two lists, of two tuples -/
def zipD : List D → List D → List D
  | x :: xs, y :: ys => .tup [x, y] :: zipD xs ys
  | _, _ => []
theorem zipD_len : ∀ xs ys : List D, (zipD xs ys).length = min xs.length ys.length
  | [], _ => by simp [zipD]
  | _ :: _, [] => by simp [zipD]
  | x :: xs, y :: ys => by simp [zipD, zipD_len xs ys]
theorem zipD_get : ∀ {xs ys : List D} {i : Nat} {x y : D}, xs[i]? = some x → ys[i]? = some y → (zipD xs ys)[i]? = some (.tup [x, y])
  | [], _, i, x, y, h, _ => by simp at h
  | _ :: _, [], i, x, y, _, h => by simp at h
  | a :: xs, b :: ys, 0, x, y, h1, h2 => by simp at h1 h2; subst h1 h2; rfl
  | a :: xs, b :: ys, i + 1, x, y, h1, h2 => by
    have := zipD_get (xs := xs) (ys := ys) (i := i) (by simpa using h1) (by simpa using h2)
    simpa [zipD] using this
def dZip : D → D → M (List D)
  | .lst xs, .lst ys => M.pure (zipD xs ys)
  | .tup xs, .tup ys => M.pure (zipD xs ys)
  | _, _ => M.stuck
theorem ji_zip {elts : List Expr} {kk : Nat} {tpos : Pos} (h : GlOk g "zip") (hs : notStar a = true) (hs2 : notStar b = true) (ha : JE .sh g a ma) (hb : JE .sh g b mb) : JI .sh g (.Tuple elts kk tpos) (.Call (.Name "zip" p1) [a, b] [] pos) (fun ρ => M.bind (ma ρ) fun x => M.bind (mb ρ) fun y => dZip x y) := by
  obtain ⟨t, q1, r1⟩ := ha.ex
  obtain ⟨u, q2, r2⟩ := hb.ex
  refine ⟨_root_.RZ.iZipA g.K (tCons t (tCons u tNil)), fun X o => by
    have hh := _root_.RZ.pi_zipA (X := X) (elts := elts) (kk := kk) (tpos := tpos) (p := p1) (pos := pos) (by show X.env.scope.names.lookup _ = _; rw [o.sc]; exact h.1) (by rw [o.mg]; exact h.2) (pa_cons (q1 X o) (pa_cons (q2 X o) pa_nil (star_ok hs2 _)) (star_ok hs _)) (star_ok hs _) (plain_tail (by simp [hs2]) _ _)
    rw [o.K] at hh
    exact hh, fun C ρ p σ H Q R q => ?_⟩
  refine r1 C ρ p σ H _ R ?_
  cases e : ma ρ p with
  | exc c p' => simp only [bind_exc e] at q; exact q
  | stuck => simp only [bind_stuck e] at q
  | ok d p' =>
    simp only [bind_ok e] at q
    intro v H1 R1 k1 z1
    refine r2 C ρ p' σ H1 _ R1 ?_
    cases e2 : mb ρ p' with
    | exc c p' => simp only [bind_exc e2] at q; exact fun H' R' k' => q H' R' (k1.trans k')
    | stuck => simp only [bind_stuck e2] at q
    | ok d2 p2 =>
      simp only [bind_ok e2] at q
      intro w H2 R2 k2 z2
      have z1 : Rep g.K C.po (Sv C ρ σ) H2 d v := Rep.keep z1 k2
      have z2 : Rep g.K C.po (Sv C ρ σ) H2 d2 w := z2
      have new : ∀ {H3 : Hp} {T : Addr} {x y : D} {vx vy : V}, H3 T = none → Rep g.K C.po (fun a => Sv C ρ σ a ∧ H2 a ≠ none) H3 x vx → Rep g.K C.po (fun a => Sv C ρ σ a ∧ H2 a ≠ none) H3 y vy → Keep C.kp H3 (upd H3 T (.tup [vx, vy])) ∧ (∀ pp p, PenOk pp p H3 → PenOk pp p (upd H3 T (.tup [vx, vy]))) ∧ (LamX.Tabs g.T H3 → LamX.Tabs g.T (upd H3 T (.tup [vx, vy]))) ∧ Rep g.K C.po (fun a => Sv C ρ σ a ∧ H2 a ≠ none) (upd H3 T (.tup [vx, vy])) (.tup [x, y]) (.ref T) := fun {H3 T x y vx vy} n a1 a2 =>
        ⟨Keep.new n, fun _ _ z => z.keepNew n, fun z => tabs_new z n, by
          unfold Rep
          exact ⟨T, _, rfl, SqT.of upd_same, by show 2 ≤ sizeLine; rw [sizeLine_eq]; decide, Reps.cons (a1.mono (fun _ z => z) (Keep.new n)) (Reps.cons (a2.mono (fun _ z => z) (Keep.new n)) Reps.nil)⟩⟩
      cases d with
      | lst xs =>
        cases d2 with
        | lst ys =>
          unfold Rep at z1 z2
          obtain ⟨a1, vs, rfl, e1, h1, l1, s1⟩ := z1
          obtain ⟨a2, ws, rfl, e2, h2, l2, s2⟩ := z2
          refine ⟨a1, a2, vs, ws, rfl, .inl ⟨SqL.of h1, SqL.of h2, q _ H2 R2 (k1.trans k2) (by rw [zipD_len]; omega) fun H3 k => ?_⟩⟩
          have g1 := k.kept a1 _ h1 e1
          have g2 := k.kept a2 _ h2 e2
          have t1 : Reps g.K C.po (fun a => Sv C ρ σ a ∧ H2 a ≠ none) H3 xs vs := s1.monoH (fun _ o e z => ⟨z, by rw [e]; exact nofun⟩) k
          have t2 : Reps g.K C.po (fun a => Sv C ρ σ a ∧ H2 a ≠ none) H3 ys ws := s2.monoH (fun _ o e z => ⟨z, by rw [e]; exact nofun⟩) k
          rw [zipD_len]
          refine ⟨fun i hi => ?_, ⟨vs, ws, SqL.of g1, SqL.of g2, by rw [← t1.length, ← t2.length]; omega⟩, fun i x H' hi y => ?_⟩
          · obtain ⟨x, hx⟩ := itl_get (SqL.of g1) t1 (show i < xs.length by omega)
            obtain ⟨y, hy⟩ := itl_get (SqL.of g2) t2 (show i < ys.length by omega)
            exact ⟨vs, ws, x, y, SqL.of g1, SqL.of g2, hx, hy⟩
          · obtain ⟨T, vx, vy, rfl, nT, rfl, f1, f2⟩ := y
            obtain ⟨dx, b1, b2⟩ := t1.get (f1 _ (SqL.of g1))
            obtain ⟨dy, c1, c2⟩ := t2.get (f2 _ (SqL.of g2))
            obtain ⟨n1, n2, n3, n4⟩ := new nT b2 c2
            exact ⟨n1, n2, n3, _, zipD_get b1 c1, n4⟩
        | _ => exact q.elim
      | tup xs =>
        cases d2 with
        | tup ys =>
          unfold Rep at z1 z2
          obtain ⟨a1, vs, rfl, h1, l1, s1⟩ := z1
          obtain ⟨a2, ws, rfl, h2, l2, s2⟩ := z2
          refine ⟨a1, a2, vs, ws, rfl, .inr ⟨h1, h2, q _ H2 R2 (k1.trans k2) (by rw [zipD_len]; omega) fun H3 k => ?_⟩⟩
          have g1 := keep_t k h1
          have g2 := keep_t k h2
          have t1 : Reps g.K C.po (fun a => Sv C ρ σ a ∧ H2 a ≠ none) H3 xs vs := s1.monoH (fun _ o e z => ⟨z, by rw [e]; exact nofun⟩) k
          have t2 : Reps g.K C.po (fun a => Sv C ρ σ a ∧ H2 a ≠ none) H3 ys ws := s2.monoH (fun _ o e z => ⟨z, by rw [e]; exact nofun⟩) k
          rw [zipD_len]
          refine ⟨fun i hi => ?_, ⟨vs, ws, g1, g2, by rw [← t1.length, ← t2.length]; omega⟩, fun i x H' hi y => ?_⟩
          · exact ⟨vs, ws, vs[i]'(by rw [← t1.length]; omega), ws[i]'(by rw [← t2.length]; omega), g1, g2, by simp [← t1.length, show i < xs.length by omega], by simp [← t2.length, show i < ys.length by omega]⟩
          · obtain ⟨T, vx, vy, rfl, nT, rfl, f1, f2⟩ := y
            obtain ⟨dx, b1, b2⟩ := t1.get (f1 _ g1)
            obtain ⟨dy, c1, c2⟩ := t2.get (f2 _ g2)
            obtain ⟨n1, n2, n3, n4⟩ := new nT b2 c2
            exact ⟨n1, n2, n3, _, zipD_get b1 c1, n4⟩
        | _ => exact q.elim
      | _ => exact q.elim
/-- reversed of a list, of a tuple -/
def dRev : D → M (List D)
  | .lst xs => M.pure xs.reverse
  | .tup xs => M.pure xs.reverse
  | _ => M.stuck
theorem ji_rev (hk : κ ≠ .fr) (h : GlOk g "reversed") (hs : notStar a = true) (ha : JE κ g a ma) : JI κ g tg (.Call (.Name "reversed" p1) [a] [] pos) (fun ρ => M.bind (ma ρ) dRev) := by
  obtain ⟨t, q1, r1⟩ := ha.ex
  refine ⟨_root_.RT.iRevA g.K t, fun X o => by
    have hh := _root_.RT.pi_revA (X := X) (tg := tg) (p := p1) (pos := pos) (by show X.env.scope.names.lookup _ = _; rw [o.sc]; exact h.1) (by rw [o.mg]; exact h.2) (q1 X o) (star_ok hs _)
    rw [o.K] at hh
    exact hh, fun C ρ p σ H Q R q => ?_⟩
  refine r1 C ρ p σ H _ R ?_
  cases e : ma ρ p with
  | exc c p' => simp only [bind_exc e] at q; exact q
  | stuck => simp only [bind_stuck e] at q
  | ok d p' =>
    simp only [bind_ok e] at q
    intro v H1 R1 k1 z1
    cases d with
    | lst ds =>
      obtain ⟨a1, vs, rfl, h0, h1, l1, s1⟩ := rt_lst z1.tp
      have hS : κ.S C ρ σ a1 := by
        cases κ with
        | fr => exact absurd rfl hk
        | tp => exact h0
        | sh =>
          unfold RPK at z1
          simp only [] at z1
          unfold Rep at z1
          obtain ⟨a2, vs2, e1, e2, _⟩ := z1
          cases e1
          exact e2
      refine ⟨a1, vs, rfl, .inl ⟨SqL.of h1, q _ H1 R1 k1 (by rw [List.length_reverse]; exact l1) fun H2 k => ?_⟩⟩
      have h2 := k.kept a1 _ h1 hS
      have r2 : Reps g.K C.po (fun a => Sv C ρ σ a ∧ H1 a ≠ none) H2 ds vs := s1.monoH (fun _ o e z => ⟨z, by rw [e]; exact nofun⟩) (k.mono fun b z => Kd.S_Sv z)
      have hl := r2.length
      rw [List.length_reverse]
      refine ⟨fun i hi => ⟨by omega, vs, vs[vs.length - 1 - i]'(by omega), SqL.of h2, by simp [show vs.length - 1 - i < vs.length by omega]⟩, by show vs.length ≤ ds.length; omega, fun i x H' hi y => ?_⟩
      obtain ⟨rfl, f⟩ := y
      obtain ⟨d, e1, e2⟩ := r2.get (f _ (SqL.of h2))
      exact ⟨Keep.refl _, fun _ _ z => z, fun z => z, d, by rw [List.getElem?_reverse hi, hl]; exact e1, e2⟩
    | tup ds =>
      obtain ⟨a1, vs, rfl, h1, l1, s1⟩ := rt_tup z1.tp
      refine ⟨a1, vs, rfl, .inr ⟨h1, q _ H1 R1 k1 (by rw [List.length_reverse]; exact l1) fun H2 k => ?_⟩⟩
      have h2 := keep_t k h1
      have r2 : Reps g.K C.po (fun a => Sv C ρ σ a ∧ H1 a ≠ none) H2 ds vs := s1.monoH (fun _ o e z => ⟨z, by rw [e]; exact nofun⟩) (k.mono fun b z => Kd.S_Sv z)
      have hl := r2.length
      rw [List.length_reverse]
      refine ⟨fun i hi => ⟨by omega, vs, vs[vs.length - 1 - i]'(by omega), h2, by simp [show vs.length - 1 - i < vs.length by omega]⟩, by show vs.length ≤ ds.length; omega, fun i x H' hi y => ?_⟩
      obtain ⟨rfl, f⟩ := y
      obtain ⟨d, e1, e2⟩ := r2.get (f _ h2)
      exact ⟨Keep.refl _, fun _ _ z => z, fun z => z, d, by rw [List.getElem?_reverse hi, hl]; exact e1, e2⟩
    | _ => exact q.elim
end
end MS
/-! FB -/
namespace MS
open PySem PySem.Spec PyProof.Rows L2

/-! ### targets -/
inductive Tg | nm (i : Nat) | tp (is : List Nat)
def Tg.ix : Tg → List Nat
  | .nm i => [i]
  | .tp is => is
def setAll : List Nat → List D → Rho → Rho
  | i :: is, d :: ds, ρ => setAll is ds (ρ.set i (.val d))
  | _, _, ρ => ρ
def Tg.set : Tg → D → Rho → Option Rho
  | .nm i, d, ρ => some (ρ.set i (.val d))
  | .tp is, .tup ds, ρ => if ds.length = is.length then some (setAll is ds ρ) else none
  | _, _, _ => none
section
variable {g : G} {C : Ctx} {κ κ1 κ2 κ3 : Kd} {ρ ρ' : Rho} {p p' : PS} {σ σ' : L2.St} {H H' H0 : Hp} {d : D} {v : V} {i : Nat} {a : Addr}
theorem set_at {ρ : Rho} {c c' : Cel} {j : Nat} (e : (ρ.set i c)[j]? = some c') : (i ≠ j ∧ ρ[j]? = some c') ∨ (i = j ∧ i < ρ.length ∧ c' = c) := by
  by_cases hj : i = j
  · subst hj
    by_cases hl : i < ρ.length
    · rw [List.getElem?_set_self hl] at e
      exact .inr ⟨rfl, hl, (Option.some.inj e).symm⟩
    · rw [List.getElem?_eq_none (by rw [List.length_set]; omega)] at e
      cases e
  · rw [List.getElem?_set_ne hj] at e
    exact .inl ⟨hj, e⟩
theorem Own.set_val (h : Own (ρ.set i (.val d)) (σ.set i (some v)) a) : Own ρ σ a := by
  obtain ⟨j, d', e1, e2⟩ := h
  rcases set_at e1 with ⟨h1, h2⟩ | ⟨_, _, h3⟩
  · rw [List.getElem?_set_ne h1] at e2
    exact ⟨j, d', h2, e2⟩
  · cases h3
theorem Sv.set_val (h : Sv C ρ σ a) : Sv C (ρ.set i (.val d)) (σ.set i (some v)) a := ⟨fun z => h.1 z.set_val, h.2⟩
theorem OwnRep.monoH {K : PySem.W.Frag} {po : Option Addr} {S S' : Addr → Prop} {H H' : Hp} {d : D} {a : Addr} (i : ∀ b o, H b = some o → S b → S' b) (e : Keep S H H') (h : OwnRep K po S H d a) (ha : ∀ o, H a = some o → (∃ xs, o = .lst xs) ∨ (∃ kvs, o = .dK kvs) → H' a = some o) : OwnRep K po S' H' d a := by
  unfold OwnRep at h ⊢
  cases d with
  | lst ds =>
    obtain ⟨vs, h1, h2, h3⟩ := h
    exact ⟨vs, ha _ h1 (.inl ⟨_, rfl⟩), h2, h3.monoH i e⟩
  | dct ds =>
    obtain ⟨vs, h1, h2, h3⟩ := h
    exact ⟨vs, ha _ h1 (.inr ⟨_, rfl⟩), h2, h3.monoH i e⟩
  | _ => exact h
/-- a name told a shared thing -/
theorem Rel.setVal (R : Rel g C ρ p σ H) (h : RS g C ρ σ H d v) : Rel g C (ρ.set i (.val d)) p (σ.set i (some v)) H where
  len := by rw [List.length_set, List.length_set]; exact R.len
  ext := R.ext
  pen := R.pen
  pen0 := R.pen0
  tab := R.tab
  val := fun j d' e => by
    rcases set_at e with ⟨h1, h2⟩ | ⟨h1, h2, h3⟩
    · obtain ⟨w, e1, e2⟩ := R.val j d' h2
      exact ⟨w, by rw [List.getElem?_set_ne h1]; exact e1, e2.mono (fun _ z => z.set_val) (Keep.refl H)⟩
    · subst h1
      cases h3
      exact ⟨v, List.getElem?_set_self (by rw [R.len]; exact h2), h.mono (fun _ z => z.set_val) (Keep.refl H)⟩
  own := fun j d' e => by
    rcases set_at e with ⟨h1, h2⟩ | ⟨_, _, h3⟩
    · obtain ⟨b, e1, e2, e3⟩ := R.own j d' h2
      exact ⟨b, by rw [List.getElem?_set_ne h1]; exact e1, e2, e3.mono (fun _ z => z.set_val) (Keep.refl H) fun o q _ => q⟩
    · cases h3
  exs := fun b hb => by
    obtain ⟨h1, h2, h3⟩ := R.exs b hb
    exact ⟨h1, fun z => h2 z.set_val, h3⟩
  inj := fun j k d1 d2 b e1 e2 e3 e4 => by
    rcases set_at e1 with ⟨h1, h2⟩ | ⟨_, _, h3⟩
    · rcases set_at e2 with ⟨h4, h5⟩ | ⟨_, _, h3⟩
      · rw [List.getElem?_set_ne h1] at e3
        rw [List.getElem?_set_ne h4] at e4
        exact R.inj j k d1 d2 b h2 h5 e3 e4
      · cases h3
    · cases h3
/-- told of a target: outside its names all stays -/
structure TgOk (g : G) (C : Ctx) (T : Tg) (ρ ρ' : Rho) (p : PS) (σ σ' : L2.St) (H : Hp) : Prop where
  rel : Rel g C ρ' p σ' H
  len : σ'.length = σ.length
  out : ∀ j, j ∉ T.ix → ρ'[j]? = ρ[j]? ∧ σ'[j]? = σ[j]?
  own : ∀ a, Own ρ' σ' a → Own ρ σ a
structure JG (g : G) (tg : Expr) (T : Tg) : Prop where
  ex : ∃ gt, (∀ X, g.Ok X → PG X tg gt) ∧ ∀ C ρ p σ H d v ρ' (Q : L2.St → Hp → Prop), Rel g C ρ p σ H → RS g C ρ σ H d v → T.set d ρ = some ρ' → (∀ σ', TgOk g C T ρ ρ' p σ σ' H → Q σ' H) → gt v σ H Q
def bindable (g : G) (x : Str) : Prop := Loc g.sc x ∧ (g.fk x = true ∨ g.sc.names.lookup x = some .local)
theorem jg_name {x : Str} {pos : Pos} (hN : g.N.Nodup) (hi : g.N[i]? = some x) (hx : bindable g x) : JG g (.Name x pos) (.nm i) := by
  refine ⟨gName i, fun X o => pg_name (by rw [o.N]; exact hN) (by rw [o.N]; exact hi) (by rw [o.sc]; exact hx.1) (hx.2.elim (fun z => .inl (o.fn _ z)) fun z => .inr (by rw [o.sc]; exact z)), fun C ρ p σ H d v ρ' Q R r e q => ?_⟩
  cases e
  refine q _ ⟨R.setVal r, List.length_set .., fun j hj => ?_, ?_⟩
  have hj : i ≠ j := fun e => hj (by simp [Tg.ix, e])
  exact ⟨List.getElem?_set_ne hj, List.getElem?_set_ne hj⟩
  exact fun a h => h.set_val
/-- names, one after another -/
structure JGs (g : G) (es : List Expr) (is : List Nat) : Prop where
  ex : ∃ gt, (∀ X, g.Ok X → PGs X es gt) ∧ ∀ C ρ p σ H ds vs (Q : L2.St → Hp → Prop), Rel g C ρ p σ H → RSs g C ρ σ H ds vs → ds.length = is.length → (∀ σ', TgOk g C (.tp is) ρ (setAll is ds ρ) p σ σ' H → Q σ' H) → gt vs σ H Q
  each : ∀ env, (assignEach es env).map (·.2) = es.map (fun e => assign e env) ∧ (assignEach es env).length = is.length ∧ (assignEach es env).findIdx? (·.1) = none
theorem jgs_nil : JGs g [] [] := ⟨⟨gNil, fun X _ => pgs_nil, fun C ρ p σ H ds vs Q R r l q => by
  cases ds with
  | cons d ds => simp at l
  | nil => exact ⟨Reps.nil_iff.mp r, q σ ⟨R, rfl, fun _ _ => ⟨rfl, rfl⟩, fun _ h => h⟩⟩⟩, fun env => ⟨rfl, rfl, rfl⟩⟩
theorem jgs_cons {x : Str} {pos : Pos} {es : List Expr} {is : List Nat} (hN : g.N.Nodup) (hi : g.N[i]? = some x) (hx : bindable g x) (h : JGs g es is) : JGs g (.Name x pos :: es) (i :: is) := by
  obtain ⟨gt, q1, q2⟩ := h.ex
  refine ⟨⟨gCons (gName i) gt, fun X o => pgs_cons (pg_name (by rw [o.N]; exact hN) (by rw [o.N]; exact hi) (by rw [o.sc]; exact hx.1) (hx.2.elim (fun z => .inl (o.fn _ z)) fun z => .inr (by rw [o.sc]; exact z))) (q1 X o) rfl, fun C ρ p σ H ds vs Q R r l q => ?_⟩, fun env => ?_⟩
  · cases ds with
    | nil => simp at l
    | cons d ds =>
      obtain ⟨v, vr, rfl, r1, r2⟩ := Reps.cons_iff.mp r
      refine ⟨v, vr, rfl, ?_⟩
      refine q2 C _ p _ H ds vr _ (R.setVal r1) (r2.mono (fun _ z => z.set_val) (Keep.refl H)) (by simpa using l) fun σ' t => q σ' ⟨t.rel, by rw [t.len, List.length_set], fun j hj => ?_, fun a h => (t.own a h).set_val⟩
      simp only [Tg.ix, List.mem_cons, not_or] at hj
      obtain ⟨t1, t2⟩ := t.out j hj.2
      exact ⟨by show (setAll is ds (ρ.set i (.val d)))[j]? = _; rw [t1, List.getElem?_set_ne (Ne.symm hj.1)], by rw [t2, List.getElem?_set_ne (Ne.symm hj.1)]⟩
  · obtain ⟨e1, e2, e3⟩ := h.each env
    refine ⟨by show _ :: (assignEach es env).map (·.2) = _; rw [e1]; rfl, by show (assignEach es env).length + 1 = _; rw [e2]; rfl, ?_⟩
    show ((false, assign (.Name x pos) env) :: assignEach es env).findIdx? (·.1) = none
    rw [List.findIdx?_cons, e3]
    rfl
theorem jg_tup {es : List Expr} {is : List Nat} {k : Nat} {pos : Pos} (h : JGs g es is) : JG g (.Tuple es k pos) (.tp is) := by
  obtain ⟨gt, q1, q2⟩ := h.ex
  refine ⟨gTup g.K is.length gt, fun X o => by have hh := pg_tup (k := k) (pos := pos) o.calm (q1 X o) (h.each X.env).2.1 (h.each X.env).2.2; rw [o.K] at hh; exact hh, fun C ρ p σ H d v ρ' Q R r e q => ?_⟩
  cases d with
  | tup ds =>
    by_cases hl : ds.length = is.length
    · simp only [Tg.set, if_pos hl] at e
      cases e
      unfold Rep at r
      obtain ⟨a, vs, rfl, h1, _, h3⟩ := r
      exact ⟨a, vs, rfl, h1, by rw [← h3.length]; exact hl, q2 C ρ p σ H ds vs Q R h3 hl q⟩
    · simp only [Tg.set, if_neg hl] at e
      cases e
  | _ => cases e

/-! ### a comprehension's block -/
def wipeR (ρ : Rho) : List Nat → Rho
  | [] => ρ
  | v :: vs => (wipeR ρ vs).set v .un
def noOwn (ρ : Rho) (vs : List Nat) : Bool := vs.all fun v => match ρ[v]? with
  | some (.own _) => false
  | _ => true
def G.blk (g : G) (scope : Scope) : G := { g with sc := relS scope g.sc, W := fun _ _ _ _ => False, fk := fun x => scope.names.lookup x == some .cell }
theorem G.Ok.blk {X : Cx} (o : g.Ok X) (scope : Scope) (s : Shared) (H : Hp) (c : Addr) (cl : List (Str × Addr)) (fp : List Addr) : (g.blk scope).Ok (X.blk s H scope (compEnvC scope cl c X.env) fp) where
  prog := o.prog
  w := o.w
  K := o.K
  mg := o.mg
  base := o.base
  N := o.N
  sc := by show relS scope X.env.scope = relS scope g.sc; rw [o.sc]
  calm := o.calm
  room := o.room
  tk := takes0
  po := PassesOwn.never
  fn := fun x h => h
theorem wipeR_len : ∀ {vs : List Nat}, (wipeR ρ vs).length = ρ.length
  | [] => rfl
  | v :: vs => by unfold wipeR; rw [List.length_set]; exact wipeR_len
theorem wipeR_out : ∀ {vs : List Nat}, i ∉ vs → (wipeR ρ vs)[i]? = ρ[i]?
  | [], _ => rfl
  | v :: vs, h => by
    simp only [List.mem_cons, not_or] at h
    unfold wipeR
    rw [List.getElem?_set_ne (Ne.symm h.1)]
    exact wipeR_out h.2
theorem wipeR_in : ∀ {vs : List Nat}, i ∈ vs → (wipeR ρ vs)[i]? = some .un ∨ (wipeR ρ vs)[i]? = none
  | v :: vs, h => by
    unfold wipeR
    by_cases e : v = i
    · subst e
      by_cases hl : v < (wipeR ρ vs).length
      · exact .inl (List.getElem?_set_self hl)
      · exact .inr (List.getElem?_eq_none (by rw [List.length_set]; omega))
    · rw [List.getElem?_set_ne e]
      exact wipeR_in (by simpa [Ne.symm e] using h)
theorem wipe_in {σ : L2.St} : ∀ {vs : List Nat}, i ∈ vs → (wipe σ vs)[i]? = if i < σ.length then some none else none
  | v :: vs, h => by
    unfold wipe
    by_cases e : v = i
    · subst e
      by_cases hl : v < σ.length
      · rw [if_pos hl, List.getElem?_set_self (by rw [wipe_length]; exact hl)]
      · rw [if_neg hl, List.getElem?_eq_none (by rw [List.length_set, wipe_length]; omega)]
    · rw [List.getElem?_set_ne e]
      exact wipe_in (by simpa [Ne.symm e] using h)
theorem wipe_eq {vs : List Nat} (l : σ'.length = σ.length) (h : ∀ j, j ∉ vs → σ'[j]? = σ[j]?) : wipe σ' vs = wipe σ vs := by
  refine List.ext_getElem? fun j => ?_
  by_cases hj : j ∈ vs
  · rw [wipe_in hj, wipe_in hj, l]
  · rw [wipe_out hj, wipe_out hj, h j hj]
theorem wipe_wipe {vs : List Nat} : wipe (wipe σ vs) vs = wipe σ vs := wipe_eq (wipe_length σ vs) fun j hj => wipe_out hj
theorem own_wipe {vs : List Nat} (n : noOwn ρ vs = true) : Own (wipeR ρ vs) (wipe σ vs) a ↔ Own ρ σ a := by
  constructor
  · rintro ⟨j, d, e1, e2⟩
    have hj : j ∉ vs := fun h => by rcases wipeR_in (ρ := ρ) h with z | z <;> rw [z] at e1 <;> cases e1
    rw [wipeR_out hj] at e1
    rw [wipe_out hj] at e2
    exact ⟨j, d, e1, e2⟩
  · rintro ⟨j, d, e1, e2⟩
    have hj : j ∉ vs := fun h => by
      have q := List.all_eq_true.mp n j h
      rw [e1] at q
      cases q
    exact ⟨j, d, by rw [wipeR_out hj]; exact e1, by rw [wipe_out hj]; exact e2⟩
/-- the context of a block whose new list is L -/
def Ctx.blk (C : Ctx) (L : Addr) : Ctx := { C with ex := L :: C.ex }
theorem sv_blk {vs : List Nat} {L : Addr} (n : noOwn ρ vs = true) : Sv (C.blk L) (wipeR ρ vs) (wipe σ vs) a ↔ Sv C ρ σ a ∧ a ≠ L := by
  unfold Sv
  rw [own_wipe n]
  constructor
  · rintro ⟨h1, h2, h3, h4⟩
    have h4 : a ∉ L :: C.ex := h4
    simp only [List.mem_cons, not_or] at h4
    exact ⟨⟨h1, h2, h3, h4.2⟩, h4.1⟩
  · rintro ⟨⟨h1, h2, h3, h4⟩, h5⟩
    refine ⟨h1, h2, h3, ?_⟩
    show a ∉ L :: C.ex
    simp only [List.mem_cons, not_or]
    exact ⟨h5, h4⟩
theorem Rel.block {scope : Scope} {vs : List Nat} {L : Addr} (R : Rel g C ρ p σ H) (n : noOwn ρ vs = true) (hL : H L = none) : Rel (g.blk scope) (C.blk L) (wipeR ρ vs) p (wipe σ vs) (upd H L (.lst [])) where
  len := by rw [wipe_length, wipeR_len]; exact R.len
  ext := R.ext.trans (Keep.new hL)
  pen := R.pen.keepNew hL
  pen0 := R.pen0
  tab := tabs_new R.tab hL
  val := fun j d e => by
    have hj : j ∉ vs := fun h => by rcases wipeR_in (ρ := ρ) h with z | z <;> rw [z] at e <;> cases e
    rw [wipeR_out hj] at e
    obtain ⟨v, e1, e2⟩ := R.val j d e
    exact ⟨v, by rw [wipe_out hj]; exact e1, e2.monoH (fun b o q z => (sv_blk n).mpr ⟨z, ne_of_none q hL⟩) (Keep.new hL)⟩
  own := fun j d e => by
    have hj : j ∉ vs := fun h => by rcases wipeR_in (ρ := ρ) h with z | z <;> rw [z] at e <;> cases e
    rw [wipeR_out hj] at e
    obtain ⟨b, e1, e2, e3⟩ := R.own j d e
    exact ⟨b, by rw [wipe_out hj]; exact e1, e2, e3.monoH (fun b o q z => (sv_blk n).mpr ⟨z, ne_of_none q hL⟩) (Keep.new hL) fun o q _ => by rw [upd_ne (ne_of_none q hL)]; exact q⟩
  exs := fun b hb => by
    have hb : b ∈ L :: C.ex := hb
    rcases List.mem_cons.mp hb with rfl | hb
    · refine ⟨R.ext.there _ hL, fun z => ?_, ⟨_, upd_same⟩⟩
      obtain ⟨o, h1, _⟩ := R.own_there ((own_wipe n).mp z)
      rw [hL] at h1; cases h1
    · obtain ⟨h1, h2, xs, h3⟩ := R.exs b hb
      exact ⟨h1, fun z => h2 ((own_wipe n).mp z), xs, by rw [upd_ne (ne_of_none h3 hL)]; exact h3⟩
  inj := fun j k d1 d2 b e1 e2 e3 e4 => by
    have hj : j ∉ vs := fun h => by rcases wipeR_in (ρ := ρ) h with z | z <;> rw [z] at e1 <;> cases e1
    have hk : k ∉ vs := fun h => by rcases wipeR_in (ρ := ρ) h with z | z <;> rw [z] at e2 <;> cases e2
    rw [wipeR_out hj] at e1
    rw [wipeR_out hk] at e2
    rw [wipe_out hj] at e3
    rw [wipe_out hk] at e4
    exact R.inj j k d1 d2 b e1 e2 e3 e4
/-- lists and dicts don't bear on tables -/
def calmO : HO → Bool
  | .tbl _ => true
  | .ext _ => true
  | _ => false
theorem tabs_cg {T : List (Addr × Str)} (t : LamX.Tabs T H) (e : ∀ b o, H b = some o → calmO o = true → H' b = some o) : LamX.Tabs T H' := fun q hq => by
  obtain ⟨ps, h1, h2, h3⟩ := t q hq
  refine ⟨ps, e _ _ h1 rfl, h2, fun pos cv hc => ?_⟩
  obtain ⟨c, e1, e2⟩ := h3 pos cv hc
  exact ⟨c, e1, e _ _ e2 rfl⟩
/-- the block's list written -/
theorem Rel.exw {L : Addr} {xs ys : List V} (R : Rel g C ρ p σ H) (hL : L ∈ C.ex) (h : H L = some (.lst xs)) : Rel g C ρ p σ (upd H L (.lst ys)) where
  len := R.len
  ext := by
    refine ⟨fun b o e k => ?_, fun b e => R.ext.there b (upd_none' e)⟩
    rw [upd_ne]
    · exact R.ext.kept b o e k
    · rintro rfl
      rw [(R.exs _ hL).1] at e
      cases e
  pen := by
    have hp := R.pen
    unfold PenOk at hp ⊢
    cases q : C.pp with
    | none => rw [q] at hp; cases p <;> exact hp
    | some x =>
      obtain ⟨pa, ca⟩ := x
      rw [q] at hp
      cases p with
      | none => exact hp
      | some pn =>
        obtain ⟨⟨a1, b1⟩, ⟨a2, b2⟩, _⟩ := R.pen0 pa ca q
        obtain ⟨h1, h2, h3, h4⟩ := hp
        have n1 : pa ≠ L := by rintro rfl; rw [(R.exs _ hL).1] at b1; cases b1
        have n2 : ca ≠ L := by rintro rfl; rw [(R.exs _ hL).1] at b2; cases b2
        exact ⟨h1, by rw [upd_ne n1]; exact h2, by rw [upd_ne n2]; exact h3, h4⟩
  pen0 := R.pen0
  tab := tabs_cg R.tab fun b u e c => by
    rw [upd_ne]
    · exact e
    · rintro rfl
      rw [h] at e
      cases e
      cases c
  val := fun j d e => by
    obtain ⟨v, e1, e2⟩ := R.val j d e
    exact ⟨v, e1, e2.mono (fun _ z => z) (Keep.write h fun z => z.2.2.2 hL)⟩
  own := fun j d e => by
    obtain ⟨b, e1, e2, e3⟩ := R.own j d e
    refine ⟨b, e1, e2, e3.mono (fun _ z => z) (Keep.write h fun z => z.2.2.2 hL) fun o q _ => ?_⟩
    rw [upd_ne]
    · exact q
    · rintro rfl
      exact (R.exs _ hL).2.1 ⟨j, d, e, e1⟩
  exs := fun b hb => by
    obtain ⟨h1, h2, zs, h3⟩ := R.exs b hb
    refine ⟨h1, h2, ?_⟩
    by_cases e : b = L
    · subst e; exact ⟨_, upd_same⟩
    · exact ⟨zs, by rw [upd_ne e]; exact h3⟩
  inj := R.inj
end
end MS
/-! FC -/
namespace MS
open PySem PySem.Spec PyProof.Rows L2

/-! ### list comprehensions -/
def M.calm {α : Type} (m : M α) : M α := fun p => match m p with
  | .exc _ _ => .stuck
  | r => r
def lcStep (T : Tg) (mb : Rho → M Bool) (me : Rho → M D) (ρ : Rho) (d : D) : M (Option D) := match T.set d ρ with
  | none => M.stuck
  | some ρ2 => M.calm (M.bind (mb ρ2) fun b => if b = true then M.bind (me ρ2) fun y => M.pure (some y) else M.pure none)
def optCons : Option D → List D → List D
  | some y, r => y :: r
  | none, r => r
def lcLoop (f : D → M (Option D)) : List D → M (List D)
  | [] => M.pure []
  | d :: ds => M.bind (f d) fun o => M.bind (lcLoop f ds) fun r => M.pure (optCons o r)
def lcD (T : Tg) (mb : Rho → M Bool) (me : Rho → M D) (vs : List Nat) (ρ : Rho) (ds : List D) : M D :=
  if noOwn ρ vs = true then M.bind (lcLoop (lcStep T mb me (wipeR ρ vs)) ds) fun l => M.pure (.lst l) else M.stuck
theorem calm_ne {α : Type} {m : M α} {p : PS} {c : Str} {p' : PS} : M.calm m p ≠ .exc c p' := by
  unfold M.calm
  cases m p <;> simp
theorem calm_ok {α : Type} {m : M α} {p p' : PS} {a : α} (h : M.calm m p = .ok a p') : m p = .ok a p' := by
  unfold M.calm at h
  cases e : m p with
  | ok b p1 => rw [e] at h; exact h
  | exc c p1 => rw [e] at h; cases h
  | stuck => rw [e] at h; cases h
theorem lcLoop_ne {T : Tg} {mb : Rho → M Bool} {me : Rho → M D} {ρ : Rho} : ∀ {ds : List D} {p p' : PS} {c : Str}, lcLoop (lcStep T mb me ρ) ds p ≠ .exc c p'
  | [], p, p', c => by simp [lcLoop, M.pure]
  | d :: ds, p, p', c => fun h => by
    unfold lcLoop at h
    cases e : lcStep T mb me ρ d p with
    | ok o p1 =>
      rw [bind_ok e] at h
      cases e2 : lcLoop (lcStep T mb me ρ) ds p1 with
      | ok r p2 => rw [bind_ok e2] at h; cases h
      | exc c' p2 => exact lcLoop_ne e2
      | stuck => rw [bind_stuck e2] at h; cases h
    | exc c' p1 =>
      unfold lcStep at e
      cases hs : T.set d ρ with
      | none => rw [hs] at e; cases e
      | some ρ2 => rw [hs] at e; exact calm_ne e
    | stuck => rw [bind_stuck e] at h; cases h
structure JBs (g : G) (ifs : List Expr) (m : Rho → M Bool) : Prop where
  ex : ∃ t, (∀ X, g.Ok X → PTs X ifs t) ∧ TRB g t m
section
variable {g : G} {C : Ctx} {κ κ1 κ2 κ3 : Kd} {ρ ρ' : Rho} {p p' : PS} {σ σ' : L2.St} {H H' H0 : Hp} {d : D} {v : V} {i : Nat} {a : Addr}
theorem fold_ok {e : Expr} (h : notSet e = true) (env : Env) (x : Value) : foldedSetIterable e env x = pure x := by
  cases e <;> first | rfl | simp [notSet] at h
theorem jbs_nil : JBs g [] (fun _ => M.pure true) := ⟨tYes, fun X _ => pts_nil, fun C ρ p σ H Q R q => q H R (Keep.refl H)⟩
theorem jbs_one {c : Expr} {m : Rho → M Bool} (h : JB g c m) : JBs g [c] m := by
  obtain ⟨t, h1, h2⟩ := h.ex
  exact ⟨t, fun X o => pts_one (h1 X o), h2⟩
theorem sw_comp {elt : Expr} {gs : List Comprehension} {scope : Scope} {pos py : Pos} {y : Str} {l : Nat} {env : Env} : ∃ b : Bool, swapsWith (.ListComp elt gs scope pos) (some (.Name y py)) l env = pure b ∧ (b = true → env.scope.names.lookup y = some .local) := by
  refine ⟨_, rfl, fun h => ?_⟩
  simp only [Bool.and_eq_true] at h
  have h2 := h.1.1.2
  exact eq_of_beq h2
/-- a comprehension as a value, and stored in a name -/
theorem lc_ex {tg iter elt : Expr} {ifs : List Expr} {scope : Scope} {pos : Pos} {own : List (Str × Nat)} {mi : Rho → M (List D)} {T : Tg} {mb : Rho → M Bool} {me : Rho → M D} (hN : g.N.Nodup) (hc : blkC g.N g.sc scope own = true) (hs : notSet iter = true) (hT : ∀ i ∈ T.ix, i ∈ own.map (·.2))
    (hi : JI κ g tg iter mi) (hg : JG (g.blk scope) tg T) (hb : JBs (g.blk scope) ifs mb) (he : JE .sh (g.blk scope) elt me) :
    ∃ t, (∀ X, g.Ok X → PE X (.ListComp elt [⟨tg, iter, ifs, 0⟩] scope pos) t) ∧ (∀ X, g.Ok X → ∀ (i : Nat) (y : Str) (py spos : Pos), g.N[i]? = some y → bindable g y → L2.PS X (.Assign [.Name y py] (.ListComp elt [⟨tg, iter, ifs, 0⟩] scope pos) spos) (tAsg t (gName i))) ∧
      TR .fr g t (fun ρ => M.bind (mi ρ) (lcD T mb me (own.map (·.2)) ρ)) := by
  obtain ⟨wi, i1, i2⟩ := hi.ex
  obtain ⟨gt, g1, g2⟩ := hg.ex
  obtain ⟨tt, b1, b2⟩ := hb.ex
  obtain ⟨te, e1, e2⟩ := he.ex
  have hPE : ∀ X, g.Ok X → PE X (.ListComp elt [⟨tg, iter, ifs, 0⟩] scope pos) (tLc wi gt tt te (own.map (·.2))) := fun X o => pe_lc o.calm (by rw [o.N]; exact hN) (i1 X o) (by rw [o.N, o.sc]; exact blkOk_by hc) (fun s H c cl fp => g1 _ (o.blk scope s H c cl fp)) (fun s H c cl fp => b1 _ (o.blk scope s H c cl fp)) (fun s H c cl fp => e1 _ (o.blk scope s H c cl fp)) (fun x => fold_ok hs X.env x)
  refine ⟨tLc wi gt tt te (own.map (·.2)), hPE, fun X o i y py spos hy hl => ?_, fun C ρ p σ H Q R q => ?_⟩
  · have hl1 : Loc X.env.scope y ∧ (X.fn y = true ∨ X.env.scope.names.lookup y = some .local) := ⟨by rw [o.sc]; exact hl.1, hl.2.elim (fun z => .inl (o.fn _ z)) fun z => .inr (by rw [o.sc]; exact z)⟩
    obtain ⟨b, hb1, hb2⟩ := sw_comp (elt := elt) (gs := [⟨tg, iter, ifs, 0⟩]) (scope := scope) (pos := pos) (py := py) (y := y) (l := spos.line) (env := X.env)
    cases b with
    | false => exact ps_set (by rw [o.N]; exact hN) (by rw [o.N]; exact hy) hl1.1 (hPE X o) hb1 hl1.2
    | true => exact ps_setLc o.calm (by rw [o.N]; exact hN) (by rw [o.N]; exact hy) (hb2 rfl) hb1 (i1 X o) (by rw [o.N, o.sc]; exact blkOk_by hc) (fun s H c cl fp => g1 _ (o.blk scope s H c cl fp)) (fun s H c cl fp => b1 _ (o.blk scope s H c cl fp)) (fun s H c cl fp => e1 _ (o.blk scope s H c cl fp)) (fun x => fold_ok hs X.env x)
  refine i2 C ρ p σ H _ R ?_
  cases e : mi ρ p with
  | exc c p' => simp only [bind_exc e] at q; exact q
  | stuck => simp only [bind_stuck e] at q; exact q.elim
  | ok ds p1 =>
    simp only [bind_ok e] at q
    intro J H1 R1 k1 l1 w1 L hL
    by_cases n : noOwn ρ (own.map (·.2)) = true
    case neg =>
      simp only [lcD, if_neg n] at q
      exact q.elim
    simp only [lcD, if_pos n] at q
    cases et : lcLoop (lcStep T mb me (wipeR ρ (own.map (·.2)))) ds p1 with
    | exc c p2 => exact absurd et lcLoop_ne
    | stuck => simp only [bind_stuck et] at q; exact q.elim
    | ok total pend =>
      simp only [bind_ok et] at q
      generalize hvs : own.map (·.2) = vs at *
      refine ⟨fun i m H2 => m = ds.length - i ∧ i ≤ ds.length ∧ ∃ acc accv rest pi, lcLoop (lcStep T mb me (wipeR ρ vs)) (ds.drop i) pi = .ok rest pend ∧ acc ++ rest = total ∧ acc.length ≤ i ∧ Rel (g.blk scope) (C.blk L) (wipeR ρ vs) pi (wipe σ vs) H2 ∧ Keep C.kp H1 H2 ∧ H2 L = some (.lst accv) ∧ RSs (g.blk scope) (C.blk L) (wipeR ρ vs) (wipe σ vs) H2 acc accv,
        ⟨ds.length, by simp, Nat.zero_le _, [], [], total, p1, et, rfl, Nat.le_refl _, R1.block n hL, Keep.new hL, upd_same, Reps.nil⟩, ?_⟩
      rintro i m H2 ⟨rfl, hi, acc, accv, rest, pi, f1, f2, f3, R2, k2, hD, rA⟩
      obtain ⟨w2, w3, w4⟩ := w1 H2 (k2.mono fun b z => by cases κ with | tp => exact z | fr => exact z.2.1 | sh => exact z.2.1)
      by_cases hlt : i < ds.length
      · refine .inr ⟨w2 i hlt, fun H3 => i + 1 ≤ ds.length ∧ ∃ acc accv rest pi, lcLoop (lcStep T mb me (wipeR ρ vs)) (ds.drop (i + 1)) pi = .ok rest pend ∧ acc ++ rest = total ∧ acc.length ≤ i + 1 ∧ Rel (g.blk scope) (C.blk L) (wipeR ρ vs) pi (wipe σ vs) H3 ∧ Keep C.kp H1 H3 ∧ H3 L = some (.lst accv) ∧ RSs (g.blk scope) (C.blk L) (wipeR ρ vs) (wipe σ vs) H3 acc accv, fun H3 h => ⟨ds.length - (i + 1), by omega, rfl, h⟩, fun x H3 y => ?_⟩
        obtain ⟨k3, pn3, tb3, d, hd, r3⟩ := w4 i x H3 hlt y
        have R3 : Rel (g.blk scope) (C.blk L) (wipeR ρ vs) pi (wipe σ vs) H3 := R2.go k3 (pn3 _ _ R2.pen) (tb3 R2.tab)
        have hdr : ds.drop i = d :: ds.drop (i + 1) := by
          rw [List.drop_eq_getElem_cons hlt]
          have : ds[i] = d := by simpa [hlt] using hd
          rw [this]
        rw [hdr] at f1
        unfold lcLoop at f1
        obtain ⟨o, pi2, h1, h2⟩ := bind_inv f1
        obtain ⟨rest', pi3, h3, h4⟩ := bind_inv h2
        cases h4
        unfold lcStep at h1
        cases hset : T.set d (wipeR ρ vs) with
        | none => rw [hset] at h1; cases h1
        | some ρ2 =>
          rw [hset] at h1
          have h1 := calm_ok h1
          obtain ⟨b, p4, h5, h6⟩ := bind_inv h1
          refine g2 (C.blk L) _ pi _ H3 d x ρ2 _ R3 (r3.monoH (fun b o q z => (sv_blk n).mpr ⟨z.1, fun e => z.2 (by rw [e]; exact hL)⟩) (Keep.refl H3)) hset fun σ2 t => ⟨?_, ?_⟩
          · rw [← wipe_wipe (σ := σ) (vs := vs)]
            refine wipe_eq (by rw [t.len]) fun j hj => (t.out j fun z => hj (by have := hT j z; exact this)).2
          · refine b2 (C.blk L) ρ2 pi σ2 H3 _ t.rel ?_
            rw [h5]
            intro H4 R4 k4
            have R4' : Rel (g.blk scope) (C.blk L) (wipeR ρ vs) p4 (wipe σ vs) H4 := R3.go k4 R4.pen R4.tab
            have hD4 := k4.kept L _ (k3.kept L _ hD (R2.ex_ne List.mem_cons_self)) (R2.ex_ne List.mem_cons_self)
            have rA4 : RSs (g.blk scope) (C.blk L) (wipeR ρ vs) (wipe σ vs) H4 acc accv := Reps.keep (Reps.keep rA k3) k4
            cases b with
            | false =>
              rw [if_neg (by decide)] at h6 ⊢
              cases h6
              exact ⟨hlt, acc, accv, rest', _, h3, f2, by omega, R4', (k2.trans k3).trans k4, hD4, rA4⟩
            | true =>
              rw [if_pos rfl] at h6 ⊢
              obtain ⟨y, p5, h7, h8⟩ := bind_inv h6
              cases h8
              refine e2 (C.blk L) ρ2 p4 σ2 H4 _ R4 ?_
              rw [h7]
              intro yv H5 R5 k5 z5
              have R5' : Rel (g.blk scope) (C.blk L) (wipeR ρ vs) pi2 (wipe σ vs) H5 := R4'.go k5 R5.pen R5.tab
              have hD5 := k5.kept L _ hD4 (R2.ex_ne List.mem_cons_self)
              have rA5 : RSs (g.blk scope) (C.blk L) (wipeR ρ vs) (wipe σ vs) H5 acc accv := Reps.keep rA4 k5
              have zy : Rep g.K C.po (Sv (C.blk L) (wipeR ρ vs) (wipe σ vs)) H5 y yv := by
                refine Rep.mono (fun b z => ⟨fun ⟨j, d', o1, o2⟩ => z.1 ?_, z.2⟩) (Keep.refl H5) z5
                have hj : j ∉ vs := fun h => by rcases wipeR_in (ρ := ρ) h with z | z <;> rw [z] at o1 <;> cases o1
                obtain ⟨t1, t2⟩ := t.out j fun z => hj (hT j z)
                exact ⟨j, d', by rw [t1]; exact o1, by rw [t2]; exact o2⟩
              have kw : Keep (Sv (C.blk L) (wipeR ρ vs) (wipe σ vs)) H5 (upd H5 L (.lst (accv ++ [yv]))) := Keep.write hD5 fun z => z.2.2.2 List.mem_cons_self
              refine ⟨accv, hD5, by rw [← rA5.length]; omega, hlt, acc ++ [y], accv ++ [yv], rest', pi2, h3, by rw [← f2]; simp [optCons], by rw [List.length_append]; simp; omega, R5'.exw List.mem_cons_self hD5, ?_, upd_same, Reps.append (rA5.mono (fun _ z => z) kw) (Reps.cons (zy.mono (fun _ z => z) kw) Reps.nil)⟩
              refine ⟨fun b o q kk => ?_, fun b q => ?_⟩
              · rw [upd_ne (ne_of_none q hL)]
                exact (((k2.trans k3).trans k4).trans k5).kept b o q kk
              · exact (((k2.trans k3).trans k4).trans k5).there b (upd_none' q)
      · have hi' : i = ds.length := by omega
        subst hi'
        rw [List.drop_length] at f1
        cases f1
        rw [List.append_nil] at f2
        subst f2
        refine .inl ⟨w3, q (.ref L) H2 (R1.go k2 R2.pen R2.tab) (k1.trans k2) ⟨rs_lst (R1.fresh_Sv hL) hD (by omega) (rA.mono (fun b z => ((sv_blk n).mp z).1) (Keep.refl H2)), fun b e _ => ?_⟩⟩
        cases e
        exact ⟨k1.there _ hL, (R1.fresh_Sv hL).2.1, accv, hD, by omega, rA.mono (fun b z => (sv_blk n).mp z) (Keep.refl H2)⟩
theorem je_lc {tg iter elt : Expr} {ifs : List Expr} {scope : Scope} {pos : Pos} {own : List (Str × Nat)} {mi : Rho → M (List D)} {T : Tg} {mb : Rho → M Bool} {me : Rho → M D} (hN : g.N.Nodup) (hc : blkC g.N g.sc scope own = true) (hs : notSet iter = true) (hT : ∀ i ∈ T.ix, i ∈ own.map (·.2))
    (hi : JI κ g tg iter mi) (hg : JG (g.blk scope) tg T) (hb : JBs (g.blk scope) ifs mb) (he : JE .sh (g.blk scope) elt me) :
    JE .fr g (.ListComp elt [⟨tg, iter, ifs, 0⟩] scope pos) (fun ρ => M.bind (mi ρ) (lcD T mb me (own.map (·.2)) ρ)) := by
  obtain ⟨t, h1, _, h3⟩ := lc_ex (pos := pos) hN hc hs hT hi hg hb he
  exact ⟨t, h1, h3⟩
end
end MS
/-! FD -/
namespace MS
open PySem PySem.Spec PyProof.Rows L2

/-! ### statements -/
inductive Out | nx (ρ : Rho) | rt (d : D) | bk (ρ : Rho) | ct (ρ : Rho)
/-- from one place to another in a body's run -/
structure Stp (C : Ctx) (ρ : Rho) (σ : L2.St) (H : Hp) (C' : Ctx) (ρ' : Rho) (σ' : L2.St) (H' : Hp) : Prop where
  same : ∃ ex, C' = { C with ex := ex }
  keep : Keep (Sv C ρ σ) H H'
  sv : ∀ a o, H a = some o → Sv C ρ σ a → Sv C' ρ' σ' a
abbrev RSet (C : Ctx) (a : Addr) : Prop := C.po ≠ some a ∧ (C.H0 a = none ∨ C.Sa a)
structure REnd (g : G) (C : Ctx) (p : PS) (H : Hp) (d : D) (v : V) : Prop where
  ext : Keep C.kp C.H0 H
  pen : PenOk C.pp p H
  tab : LamX.Tabs g.T H
  rep : Rep g.K C.po (RSet C) H d v
  stg : ∀ a, v = .ref a → d.ld = true → OwnRep g.K C.po (fun b => RSet C b ∧ b ≠ a) H d a
def PostS (g : G) (C : Ctx) (ρ : Rho) (σ : L2.St) (H : Hp) (r : R Out) (D : Ends) : Prop := match r with
  | .ok (.nx ρ') p' => ∀ C' σ' H', Rel g C' ρ' p' σ' H' → Stp C ρ σ H C' ρ' σ' H' → D.nx σ' H'
  | .ok (.bk ρ') p' => ∀ C' σ' H', Rel g C' ρ' p' σ' H' → Stp C ρ σ H C' ρ' σ' H' → D.bk σ' H'
  | .ok (.ct ρ') p' => ∀ C' σ' H', Rel g C' ρ' p' σ' H' → Stp C ρ σ H C' ρ' σ' H' → D.ct σ' H'
  | .ok (.rt d) p' => ∀ v H', REnd g C p' H' d v → D.rt v H'
  | .exc c p' => ∀ C' ρ' σ' H', Rel g C' ρ' p' σ' H' → Stp C ρ σ H C' ρ' σ' H' → g.W (.ref (He.ga g.K c)) none σ' H'
  | .stuck => False
def TRS (g : G) (t : TS) (m : Rho → M Out) : Prop := ∀ C ρ p σ H D, Rel g C ρ p σ H → PostS g C ρ σ H (m ρ p) D → t D σ H
structure JS (g : G) (st : Stmt) (m : Rho → M Out) : Prop where
  ex : ∃ t, (∀ X, g.Ok X → L2.PS X st t) ∧ TRS g t m
structure JSs (g : G) (sts : List Stmt) (m : Rho → M Out) : Prop where
  ex : ∃ t, (∀ X, g.Ok X → PSs X sts t) ∧ TRS g t m
def thenO (m : M Out) (k : Rho → M Out) : M Out := M.bind m fun o => match o with
  | .nx ρ => k ρ
  | o => M.pure o
section
variable {g : G} {C C' C1 : Ctx} {κ κ1 κ2 κ3 : Kd} {ρ ρ' ρ1 : Rho} {p p' p1 : PS} {σ σ' σ1 : L2.St} {H H' H0 H1 : Hp} {d : D} {v : V} {i : Nat} {a : Addr} {st : Stmt} {sts : List Stmt} {m ms : Rho → M Out} {D : Ends} {e : Expr} {me : Rho → M MS.D} {pos : Pos}
theorem Stp.refl : Stp C ρ σ H C ρ σ H := ⟨⟨C.ex, rfl⟩, Keep.refl H, fun _ _ _ z => z⟩
theorem Stp.trans {C2 : Ctx} {ρ2 : Rho} {σ2 : L2.St} {H2 : Hp} (s : Stp C ρ σ H C1 ρ1 σ1 H1) (t : Stp C1 ρ1 σ1 H1 C2 ρ2 σ2 H2) : Stp C ρ σ H C2 ρ2 σ2 H2 := by
  refine ⟨?_, ⟨fun b o e k => ?_, fun b e => s.keep.there b (t.keep.there b e)⟩, fun b o e z => ?_⟩
  · obtain ⟨ex, rfl⟩ := s.same
    obtain ⟨ex2, rfl⟩ := t.same
    exact ⟨ex2, rfl⟩
  · exact t.keep.kept b o (s.keep.kept b o e k) (keptO_mono (s.sv b o e) k)
  · by_cases h : H1 b = none
    · rw [s.keep.there b h] at e; cases e
    · obtain ⟨o1, e1⟩ := Option.ne_none_iff_exists'.mp h
      exact t.sv b o1 e1 (s.sv b o e z)
theorem Stp.go (k : Keep C.kp H H') : Stp C ρ σ H C ρ σ H' := ⟨⟨C.ex, rfl⟩, k.mono fun a z => z.2.1, fun _ _ _ z => z⟩
theorem REnd.back {ex : List Addr} (r : REnd g { C with ex := ex } p H d v) : REnd g C p H d v := ⟨r.ext, r.pen, r.tab, r.rep, r.stg⟩
theorem PostS.from {r : R Out} (s : Stp C ρ σ H C1 ρ1 σ1 H1) (q : PostS g C ρ σ H r D) : PostS g C1 ρ1 σ1 H1 r D := by
  cases r with
  | ok o p' =>
    cases o with
    | nx ρ' => exact fun C' σ' H' R t => q C' σ' H' R (s.trans t)
    | bk ρ' => exact fun C' σ' H' R t => q C' σ' H' R (s.trans t)
    | ct ρ' => exact fun C' σ' H' R t => q C' σ' H' R (s.trans t)
    | rt d =>
      obtain ⟨ex, rfl⟩ := s.same
      exact fun v H' r => q v H' ⟨r.ext, r.pen, r.tab, r.rep, r.stg⟩
  | exc c p' => exact fun C' ρ' σ' H' R t => q C' ρ' σ' H' R (s.trans t)
  | stuck => exact q
theorem thenO_nx {m : M Out} {k : Rho → M Out} (e : m p = .ok (.nx ρ1) p1) : thenO m k p = k ρ1 p1 := by unfold thenO; rw [bind_ok e]
theorem thenO_exc {m : M Out} {k : Rho → M Out} {c : Str} (e : m p = .exc c p1) : thenO m k p = .exc c p1 := by unfold thenO; rw [bind_exc e]
theorem thenO_stuck {m : M Out} {k : Rho → M Out} (e : m p = .stuck) : thenO m k p = .stuck := by unfold thenO; rw [bind_stuck e]
theorem jss_nil : JSs g [] (fun ρ => M.pure (.nx ρ)) := ⟨tNext, fun X _ => pss_nil, fun C ρ p σ H D R q => q C σ H R .refl⟩
theorem jss_cons (h1 : JS g st m) (h2 : JSs g sts ms) : JSs g (st :: sts) (fun ρ => thenO (m ρ) ms) := by
  obtain ⟨t, a1, a2⟩ := h1.ex
  obtain ⟨u, b1, b2⟩ := h2.ex
  refine ⟨tSeq t u, fun X o => pss_cons (a1 X o) (b1 X o), fun C ρ p σ H D R q => ?_⟩
  refine a2 C ρ p σ H { D with nx := u D } R ?_
  cases e : m ρ p with
  | stuck => simp only [thenO_stuck e] at q; exact q
  | exc c p1 => simp only [thenO_exc e] at q; exact q
  | ok o p1 =>
    cases o with
    | nx ρ1 =>
      simp only [thenO_nx e] at q
      exact fun C1 σ1 H1 R1 s1 => b2 C1 ρ1 p1 σ1 H1 D R1 (PostS.from s1 q)
    | bk ρ1 =>
      have q : PostS g C ρ σ H (thenO (m ρ) ms p) D := q
      unfold thenO at q
      rw [bind_ok e] at q
      exact q
    | ct ρ1 =>
      have q : PostS g C ρ σ H (thenO (m ρ) ms p) D := q
      unfold thenO at q
      rw [bind_ok e] at q
      exact q
    | rt d =>
      have q : PostS g C ρ σ H (thenO (m ρ) ms p) D := q
      unfold thenO at q
      rw [bind_ok e] at q
      exact q
theorem jss_one (h1 : JS g st m) : JSs g [st] m := by
  obtain ⟨t, a1, a2⟩ := h1.ex
  exact ⟨t, fun X o => pss_one (a1 X o), a2⟩
theorem JS.stuck (h : ∀ ρ p, m ρ p = .stuck) : JS g st m := ⟨tNever, fun X _ => ps_never, fun C ρ p σ H D R q => by rw [h] at q; exact q⟩
theorem js_pass : JS g (.Pass pos) (fun ρ => M.pure (.nx ρ)) := ⟨tNext, fun X _ => ps_pass, fun C ρ p σ H D R q => q C σ H R .refl⟩
theorem js_break : JS g (.Break pos) (fun ρ => M.pure (.bk ρ)) := ⟨tBreak, fun X _ => ps_break, fun C ρ p σ H D R q => q C σ H R .refl⟩
theorem js_cont : JS g (.Continue pos) (fun ρ => M.pure (.ct ρ)) := ⟨tCont, fun X _ => ps_continue, fun C ρ p σ H D R q => q C σ H R .refl⟩
/-! an own list becomes one that may be told of -/
def frz1 (ρ : Rho) (i : Nat) : Rho := match ρ[i]? with
  | some (.own d) => ρ.set i (.val d)
  | _ => ρ
theorem own_frz (h : Own (frz1 ρ i) σ a) : Own ρ σ a := by
  unfold frz1 at h
  split at h
  · obtain ⟨j, d', e1, e2⟩ := h
    rcases set_at e1 with ⟨h1, h2⟩ | ⟨_, _, h3⟩
    · exact ⟨j, d', h2, e2⟩
    · cases h3
  · exact h
theorem OwnRep.rep {K : PySem.W.Frag} {po : Option Addr} {S : Addr → Prop} (h : OwnRep K po S H d a) (hs : S a) : Rep K po S H d (.ref a) := by
  unfold OwnRep at h
  cases d with
  | lst ds =>
    obtain ⟨vs, h1, h2, h3⟩ := h
    unfold Rep
    exact ⟨a, vs, rfl, hs, h1, h2, h3⟩
  | dct ds =>
    obtain ⟨vs, h1, h2, h3⟩ := h
    unfold Rep
    exact ⟨a, vs, rfl, hs, h1, h2, h3⟩
  | _ => exact h.elim
theorem Rel.frz1 (R : Rel g C ρ p σ H) (i : Nat) : Rel g C (frz1 ρ i) p σ H := by
  have hsv : ∀ a, Sv C ρ σ a → Sv C (MS.frz1 ρ i) σ a := fun a z => ⟨fun o => z.1 (own_frz o), z.2⟩
  by_cases hh : ∃ d, ρ[i]? = some (.own d)
  case neg =>
    have : MS.frz1 ρ i = ρ := by
      unfold MS.frz1
      split
      · rename_i d e; exact absurd ⟨d, e⟩ hh
      · rfl
    rw [this]; exact R
  obtain ⟨d, hd⟩ := hh
  have ef : MS.frz1 ρ i = ρ.set i (.val d) := by unfold MS.frz1; rw [hd]
  rw [ef] at hsv ⊢
  obtain ⟨a, ha, hn, ho⟩ := R.own i d hd
  have hi : i < ρ.length := (List.getElem?_eq_some_iff.mp hd).1
  exact {
    len := by rw [List.length_set]; exact R.len
    ext := R.ext
    pen := R.pen
    pen0 := R.pen0
    tab := R.tab
    val := fun j d' e => by
      rcases set_at e with ⟨h1, h2⟩ | ⟨h1, h2, h3⟩
      · obtain ⟨w, e1, e2⟩ := R.val j d' h2
        exact ⟨w, e1, e2.mono hsv (Keep.refl H)⟩
      · subst h1
        cases h3
        refine ⟨.ref a, ha, (ho.mono hsv (Keep.refl H) fun o q _ => q).rep ⟨?_, R.po_ne_own ⟨i, d, hd, ha⟩, .inl hn, fun z => (R.exs a z).2.1 ⟨i, d, hd, ha⟩⟩⟩
        rintro ⟨j, d', e1, e2⟩
        rcases set_at e1 with ⟨h1, h2⟩ | ⟨_, _, h3⟩
        · exact h1 (R.inj i j d d' a hd h2 ha e2)
        · cases h3
    own := fun j d' e => by
      rcases set_at e with ⟨h1, h2⟩ | ⟨_, _, h3⟩
      · obtain ⟨b, e1, e2, e3⟩ := R.own j d' h2
        exact ⟨b, e1, e2, e3.mono hsv (Keep.refl H) fun o q _ => q⟩
      · cases h3
    exs := fun b hb => by
      obtain ⟨h1, h2, h3⟩ := R.exs b hb
      exact ⟨h1, fun z => h2 (by rw [← ef] at z; exact own_frz z), h3⟩
    inj := fun j k d1 d2 b e1 e2 e3 e4 => by
      rcases set_at e1 with ⟨h1, h2⟩ | ⟨_, _, h3⟩
      · rcases set_at e2 with ⟨h4, h5⟩ | ⟨_, _, h3⟩
        · exact R.inj j k d1 d2 b h2 h5 e3 e4
        · cases h3
      · cases h3 }
def frz (ρ : Rho) : List Nat → Rho
  | [] => ρ
  | i :: is => frz (frz1 ρ i) is
theorem Rel.frz (R : Rel g C ρ p σ H) : ∀ is : List Nat, Rel g C (frz ρ is) p σ H ∧ Stp C ρ σ H C (MS.frz ρ is) σ H := by
  intro is
  induction is generalizing ρ with
  | nil => exact ⟨R, .refl⟩
  | cons i is ih =>
    obtain ⟨h1, h2⟩ := ih (R.frz1 i)
    exact ⟨h1, Stp.trans ⟨⟨C.ex, rfl⟩, Keep.refl H, fun a o _ z => ⟨fun w => z.1 (own_frz w), z.2⟩⟩ h2⟩
def frzM (is : List Nat) (m : Rho → M Out) (ρ : Rho) : M Out := m (frz ρ is)
theorem JS.frz (is : List Nat) (h : JS g st m) : JS g st (frzM is m) := by
  obtain ⟨t, a1, a2⟩ := h.ex
  exact ⟨t, a1, fun C ρ p σ H D R q => a2 C _ p σ H D (R.frz is).1 (PostS.from (R.frz is).2 q)⟩
/-! tests -/
theorem js_if {c : Expr} {s1 s2 : List Stmt} {mc : Rho → M Bool} {m1 m2 : Rho → M Out} (hc : JB g c mc) (h1 : JSs g s1 m1) (h2 : JSs g s2 m2) : JS g (.If c s1 s2 pos) (fun ρ => M.bind (mc ρ) fun b => if b = true then m1 ρ else m2 ρ) := by
  obtain ⟨tc, c1, c2⟩ := hc.ex
  obtain ⟨t, a1, a2⟩ := h1.ex
  obtain ⟨u, b1, b2⟩ := h2.ex
  refine ⟨tIfS tc t u, fun X o => ps_if (c1 X o) (a1 X o) (b1 X o), fun C ρ p σ H D R q => ?_⟩
  refine c2 C ρ p σ H _ R ?_
  cases e : mc ρ p with
  | stuck => simp only [bind_stuck e] at q; exact q
  | exc c p1 => simp only [bind_exc e] at q; exact fun H' R' k' => q C ρ σ H' R' (.go k')
  | ok b p1 =>
    simp only [bind_ok e] at q
    intro H1 R1 k1
    cases b with
    | true => rw [if_pos rfl] at q ⊢; exact a2 C ρ p1 σ H1 D R1 (PostS.from (.go k1) q)
    | false => rw [if_neg (by decide)] at q ⊢; exact b2 C ρ p1 σ H1 D R1 (PostS.from (.go k1) q)
/-! while -/
def whileF (mc : Rho → M Bool) (mb : Rho → M Out) : Nat → Rho → M Out
  | 0, _ => M.stuck
  | n + 1, ρ => M.bind (mc ρ) fun b => if b = true then M.bind (mb ρ) fun o => match o with
      | .nx ρ' => whileF mc mb n ρ'
      | .ct ρ' => whileF mc mb n ρ'
      | .bk ρ' => M.pure (.nx ρ')
      | .rt d => M.pure (.rt d)
    else M.pure (.nx ρ)
theorem js_while (n : Nat) {c : Expr} {body : List Stmt} {mc : Rho → M Bool} {mb : Rho → M Out} (hc : JB g c mc) (hb : JSs g body mb) : JS g (.While c body [] pos) (fun ρ => whileF mc mb n ρ) := by
  obtain ⟨tc, c1, c2⟩ := hc.ex
  obtain ⟨t, a1, a2⟩ := hb.ex
  refine ⟨tWhile tc t, fun X o => ps_while o.po (c1 X o) (a1 X o), fun C ρ p σ H D R q => ?_⟩
  refine ⟨fun k σ' H' => ∃ C' ρ' p', Rel g C' ρ' p' σ' H' ∧ Stp C ρ σ H C' ρ' σ' H' ∧ PostS g C' ρ' σ' H' (whileF mc mb k ρ' p') D, ⟨n, C, ρ, p, R, .refl, q⟩, ?_⟩
  rintro k σ1 H1 ⟨C1, ρ1, p1, R1, s1, q1⟩
  cases k with
  | zero => exact q1.elim
  | succ k =>
    refine c2 C1 ρ1 p1 σ1 H1 _ R1 ?_
    unfold whileF at q1
    cases e : mc ρ1 p1 with
    | stuck => simp only [bind_stuck e] at q1; exact q1
    | exc c p1 => simp only [bind_exc e] at q1; exact fun H' R' k' => q1 C1 ρ1 σ1 H' R' (.go k')
    | ok b p2 =>
      simp only [bind_ok e] at q1
      intro H2 R2 k2
      cases b with
      | false => rw [if_neg (by decide)] at q1 ⊢; exact q1 C1 σ1 H2 R2 (.go k2)
      | true =>
        rw [if_pos rfl] at q1 ⊢
        refine ⟨fun σ' H' => ∃ C' ρ' p', Rel g C' ρ' p' σ' H' ∧ Stp C ρ σ H C' ρ' σ' H' ∧ PostS g C' ρ' σ' H' (whileF mc mb k ρ' p') D, fun σ' H' h => ⟨k, Nat.lt_succ_self k, h⟩, ?_⟩
        refine a2 C1 ρ1 p2 σ1 H2 _ R2 ?_
        have q2 := PostS.from (.go k2) q1
        cases e2 : mb ρ1 p2 with
        | stuck => simp only [bind_stuck e2] at q2; exact q2
        | exc c p3 => simp only [bind_exc e2] at q2; exact q2
        | ok o p3 =>
          simp only [bind_ok e2] at q2
          cases o with
          | nx ρ3 => exact fun C3 σ3 H3 R3 s3 => ⟨C3, ρ3, p3, R3, (s1.trans (.go k2)).trans s3, PostS.from s3 q2⟩
          | ct ρ3 => exact fun C3 σ3 H3 R3 s3 => ⟨C3, ρ3, p3, R3, (s1.trans (.go k2)).trans s3, PostS.from s3 q2⟩
          | bk ρ3 => exact q2
          | rt d => exact q2
/-! for -/
def forL (T : Tg) (mb : Rho → M Out) : List MS.D → Rho → M Out
  | [], ρ => M.pure (.nx ρ)
  | d :: ds, ρ => match T.set d ρ with
    | none => M.stuck
    | some ρ1 => M.bind (mb ρ1) fun o => match o with
      | .nx ρ' => forL T mb ds ρ'
      | .ct ρ' => forL T mb ds ρ'
      | .bk ρ' => M.pure (.nx ρ')
      | .rt d => M.pure (.rt d)
theorem js_for {tg iter : Expr} {body : List Stmt} {T : Tg} {mi : Rho → M (List MS.D)} {mb : Rho → M Out} (hs : notSet iter = true) (hi : JI .sh g tg iter mi) (hg : JG g tg T) (hb : JSs g body mb) : JS g (.For tg iter body [] pos) (fun ρ => M.bind (mi ρ) fun ds => forL T mb ds ρ) := by
  obtain ⟨wi, i1, i2⟩ := hi.ex
  obtain ⟨gt, g1, g2⟩ := hg.ex
  obtain ⟨t, a1, a2⟩ := hb.ex
  refine ⟨tFor wi gt t, fun X o => ps_for o.po o.calm (i1 X o) (g1 X o) (a1 X o) (fun x => fold_ok hs X.env x), fun C ρ p σ H D R q => ?_⟩
  refine i2 C ρ p σ H _ R ?_
  cases e : mi ρ p with
  | exc c p' => simp only [bind_exc e] at q; exact fun H' R' k' => q C ρ σ H' R' (.go k')
  | stuck => simp only [bind_stuck e] at q; exact q
  | ok ds p1 =>
    simp only [bind_ok e] at q
    intro J H1 R1 k1 l1 w1
    have q0 := PostS.from (.go k1) q
    refine ⟨fun i m σ2 H2 => m = ds.length - i ∧ i ≤ ds.length ∧ ∃ C2 ρ2 p2, Rel g C2 ρ2 p2 σ2 H2 ∧ Stp C ρ σ H1 C2 ρ2 σ2 H2 ∧ PostS g C2 ρ2 σ2 H2 (forL T mb (ds.drop i) ρ2 p2) D, ⟨ds.length, by simp, Nat.zero_le _, C, ρ, p1, R1, .refl, q0⟩, ?_⟩
    rintro i m σ2 H2 ⟨rfl, hi, C2, ρ2, p2, R2, s2, q2⟩
    obtain ⟨w2, w3, w4⟩ := w1 H2 s2.keep
    by_cases hlt : i < ds.length
    · refine .inr ⟨w2 i hlt, fun σ3 H3 => i + 1 ≤ ds.length ∧ ∃ C2 ρ2 p2, Rel g C2 ρ2 p2 σ3 H3 ∧ Stp C ρ σ H1 C2 ρ2 σ3 H3 ∧ PostS g C2 ρ2 σ3 H3 (forL T mb (ds.drop (i + 1)) ρ2 p2) D, fun σ3 H3 h => ⟨ds.length - (i + 1), by omega, rfl, h⟩, fun x H3 y => ?_⟩
      obtain ⟨k3, pn3, tb3, d, hd, r3⟩ := w4 i x H3 hlt y
      have hex : ∃ ex, C2 = { C with ex := ex } := s2.same
      have k3' : Keep C2.kp H2 H3 := by obtain ⟨ex, rfl⟩ := hex; exact k3
      have R3 : Rel g C2 ρ2 p2 σ2 H3 := R2.go k3' (pn3 _ _ R2.pen) (tb3 R2.tab)
      have hdr : ds.drop i = d :: ds.drop (i + 1) := by
        rw [List.drop_eq_getElem_cons hlt]
        have : ds[i] = d := by simpa [hlt] using hd
        rw [this]
      rw [hdr] at q2
      unfold forL at q2
      cases hset : T.set d ρ2 with
      | none => rw [hset] at q2; exact q2.elim
      | some ρ3 =>
        rw [hset] at q2
        have r3' : RS g C2 ρ2 σ2 H3 d x := by
          have hpo : C2.po = C.po := by obtain ⟨ex, rfl⟩ := hex; rfl
          show Rep g.K C2.po _ H3 d x
          rw [hpo]
          refine r3.monoH (fun b o q z => ?_) (Keep.refl H3)
          obtain ⟨o1, e1⟩ := Option.ne_none_iff_exists'.mp z.2
          exact s2.sv b o1 e1 z.1
        refine g2 C2 ρ2 p2 σ2 H3 d x ρ3 _ R3 r3' hset fun σ3 tg3 => ?_
        have s3 : Stp C2 ρ2 σ2 H2 C2 ρ3 σ3 H3 := Stp.trans (.go k3') ⟨⟨C2.ex, rfl⟩, Keep.refl H3, fun b o _ z => ⟨fun w => z.1 (tg3.own b w), z.2⟩⟩
        refine a2 C2 ρ3 p2 σ3 H3 _ tg3.rel ?_
        have q3 := PostS.from s3 q2
        cases e2 : mb ρ3 p2 with
        | stuck => simp only [bind_stuck e2] at q3; exact q3
        | exc c p3 => simp only [bind_exc e2] at q3; exact q3
        | ok o p3 =>
          simp only [bind_ok e2] at q3
          cases o with
          | nx ρ4 => exact fun C4 σ4 H4 R4 s4 => ⟨hlt, C4, ρ4, p3, R4, (s2.trans s3).trans s4, PostS.from s4 q3⟩
          | ct ρ4 => exact fun C4 σ4 H4 R4 s4 => ⟨hlt, C4, ρ4, p3, R4, (s2.trans s3).trans s4, PostS.from s4 q3⟩
          | bk ρ4 => exact q3
          | rt d => exact q3
    · have hi' : i = ds.length := by omega
      subst hi'
      rw [List.drop_length] at q2
      exact .inl ⟨w3, q2 C2 σ2 H2 R2 .refl⟩
end
end MS
/-! FE -/
namespace MS
open PySem PySem.Spec PyProof.Rows L2

section
variable {g : G} {C C' C1 : Ctx} {κ κ1 κ2 κ3 : Kd} {ρ ρ' ρ1 : Rho} {p p' p1 pb : PS} {σ σ' σ1 : L2.St} {H H' H0 H1 Hb : Hp} {d : D} {v : V} {i : Nat} {a : Addr} {st : Stmt} {sts : List Stmt} {m ms : Rho → M Out} {D : Ends} {e : Expr} {me : Rho → M MS.D} {pos : Pos}
theorem Own.set_own {b : Addr} (h : Own (ρ.set i (.own d)) (σ.set i (some (.ref a))) b) : Own ρ σ b ∨ b = a := by
  obtain ⟨j, d', e1, e2⟩ := h
  rcases set_at e1 with ⟨h1, h2⟩ | ⟨h1, h2, h3⟩
  · rw [List.getElem?_set_ne h1] at e2
    exact .inl ⟨j, d', h2, e2⟩
  · subst h1
    by_cases hl : i < σ.length
    · rw [List.getElem?_set_self hl] at e2
      cases e2
      exact .inr rfl
    · rw [List.getElem?_eq_none (by rw [List.length_set]; omega)] at e2
      cases e2
/-- a name told a new list of its own -/
theorem Rel.setOwn (Rb : Rel g C ρ pb σ Hb) (R : Rel g C ρ p σ H) (k : Keep C.kp Hb H) (hn : Hb a = none) (hi : i < ρ.length) (h : OwnRep g.K C.po (fun b => Sv C ρ σ b ∧ b ≠ a) H d a) :
    Rel g C (ρ.set i (.own d)) p (σ.set i (some (.ref a))) H ∧ Stp C ρ σ Hb C (ρ.set i (.own d)) (σ.set i (some (.ref a))) H := by
  have hsv : ∀ b, Sv C ρ σ b → b ≠ a → Sv C (ρ.set i (.own d)) (σ.set i (some (.ref a))) b := fun b z n => ⟨fun w => w.set_own.elim z.1 n, z.2⟩
  have hsv' : ∀ b o, Hb b = some o → Sv C ρ σ b → Sv C (ρ.set i (.own d)) (σ.set i (some (.ref a))) b := fun b o q z => hsv b z (ne_of_none q hn)
  have kS : Keep (Sv C ρ σ) Hb H := k.mono fun b z => z.2.1
  refine ⟨{
    len := by rw [List.length_set, List.length_set]; exact R.len
    ext := R.ext
    pen := R.pen
    pen0 := R.pen0
    tab := R.tab
    val := fun j d' q => by
      rcases set_at q with ⟨h1, h2⟩ | ⟨_, _, h3⟩
      · obtain ⟨w, e1, e2⟩ := Rb.val j d' h2
        exact ⟨w, by rw [List.getElem?_set_ne h1]; exact e1, e2.monoH hsv' kS⟩
      · cases h3
    own := fun j d' q => by
      rcases set_at q with ⟨h1, h2⟩ | ⟨h1, h2, h3⟩
      · obtain ⟨b, e1, e2, e3⟩ := Rb.own j d' h2
        refine ⟨b, by rw [List.getElem?_set_ne h1]; exact e1, e2, e3.monoH hsv' kS fun o q1 q2 => k.kept b o q1 ?_⟩
        have ne := Rb.po_ne_own ⟨j, d', h2, e1⟩
        rcases q2 with ⟨xs, rfl⟩ | ⟨kvs, rfl⟩ <;> exact ne
      · subst h1
        cases h3
        exact ⟨a, List.getElem?_set_self (by rw [R.len]; exact h2), Rb.ext.there a hn, h.mono (fun b z => hsv b z.1 z.2) (Keep.refl H) fun o q _ => q⟩
    exs := fun b hb => by
      obtain ⟨h1, h2, xs, h3⟩ := Rb.exs b hb
      obtain ⟨_, _, h4⟩ := R.exs b hb
      exact ⟨h1, fun z => z.set_own.elim h2 (ne_of_none h3 hn), h4⟩
    inj := fun j k d1 d2 b e1 e2 e3 e4 => by
      rcases set_at e1 with ⟨h1, h2⟩ | ⟨h1, h2, h3⟩
      · rcases set_at e2 with ⟨h4, h5⟩ | ⟨h4, h5, h6⟩
        · rw [List.getElem?_set_ne h1] at e3
          rw [List.getElem?_set_ne h4] at e4
          exact R.inj j k d1 d2 b h2 h5 e3 e4
        · subst h4
          rw [List.getElem?_set_ne h1] at e3
          rw [List.getElem?_set_self (by rw [R.len]; exact h5)] at e4
          cases e4
          obtain ⟨o, q, _⟩ := Rb.own_there ⟨j, d1, h2, e3⟩
          rw [hn] at q; cases q
      · subst h1
        rcases set_at e2 with ⟨h4, h5⟩ | ⟨h4, h5, h6⟩
        · rw [List.getElem?_set_ne h4] at e4
          rw [List.getElem?_set_self (by rw [R.len]; exact h2)] at e3
          cases e3
          obtain ⟨o, q, _⟩ := Rb.own_there ⟨k, d2, h5, e4⟩
          rw [hn] at q; cases q
        · exact h4 }, ⟨⟨C.ex, rfl⟩, kS, hsv'⟩⟩
/-- an own list written -/
theorem Rel.wrOwn {ds ds' : List MS.D} {ws : List V} (R : Rel g C ρ p σ H) (hρ : ρ[i]? = some (.own (.lst ds))) (hσ : σ[i]? = some (some (.ref a))) (hz : ds'.length ≤ sizeLine) (h : RSs g C ρ σ H ds' ws) :
    Rel g C (ρ.set i (.own (.lst ds'))) p σ (upd H a (.lst ws)) ∧ Stp C ρ σ H C (ρ.set i (.own (.lst ds'))) σ (upd H a (.lst ws)) := by
  have hi : i < ρ.length := (List.getElem?_eq_some_iff.mp hρ).1
  have oa : Own ρ σ a := ⟨i, _, hρ, hσ⟩
  have hpo := R.po_ne_own oa
  have hown : ∀ b, Own (ρ.set i (.own (.lst ds'))) σ b → Own ρ σ b := by
    rintro b ⟨j, d', e1, e2⟩
    rcases set_at e1 with ⟨h1, h2⟩ | ⟨h1, h2, h3⟩
    · exact ⟨j, d', h2, e2⟩
    · subst h1
      exact ⟨i, _, hρ, e2⟩
  have hsv : ∀ b, Sv C ρ σ b → Sv C (ρ.set i (.own (.lst ds'))) σ b := fun b z => ⟨fun w => z.1 (hown b w), z.2⟩
  obtain ⟨a', ha', hn, ho⟩ := R.own i _ hρ
  rw [hσ] at ha'; cases ha'
  obtain ⟨vs, hv, _, _⟩ := ho
  have kS : Keep (Sv C ρ σ) H (upd H a (.lst ws)) := Keep.write hv fun z => z.1 oa
  refine ⟨{
    len := by rw [List.length_set]; exact R.len
    ext := by
      refine ⟨fun b o q k => ?_, fun b q => R.ext.there b (upd_none' q)⟩
      rw [upd_ne]
      · exact R.ext.kept b o q k
      · rintro rfl
        rw [hn] at q
        cases q
    pen := by
      have hp := R.pen
      unfold PenOk at hp ⊢
      cases q : C.pp with
      | none => rw [q] at hp; cases p <;> exact hp
      | some x =>
        obtain ⟨pa, ca⟩ := x
        rw [q] at hp
        cases p with
        | none => exact hp
        | some pn =>
          obtain ⟨⟨a1, b1⟩, ⟨a2, b2⟩, _⟩ := R.pen0 pa ca q
          obtain ⟨h1, h2, h3, h4⟩ := hp
          have n1 : pa ≠ a := by rintro rfl; rw [hn] at b1; cases b1
          have n2 : ca ≠ a := by rintro rfl; rw [hn] at b2; cases b2
          exact ⟨h1, by rw [upd_ne n1]; exact h2, by rw [upd_ne n2]; exact h3, h4⟩
    pen0 := R.pen0
    tab := tabs_cg R.tab fun b u q c => by
      rw [upd_ne]
      · exact q
      · rintro rfl
        rw [hv] at q
        cases q
        cases c
    val := fun j d' q => by
      rcases set_at q with ⟨h1, h2⟩ | ⟨_, _, h3⟩
      · obtain ⟨w, e1, e2⟩ := R.val j d' h2
        exact ⟨w, e1, e2.mono hsv kS⟩
      · cases h3
    own := fun j d' q => by
      rcases set_at q with ⟨h1, h2⟩ | ⟨h1, h2, h3⟩
      · obtain ⟨b, e1, e2, e3⟩ := R.own j d' h2
        refine ⟨b, e1, e2, e3.mono hsv kS fun o q1 _ => ?_⟩
        rw [upd_ne]
        · exact q1
        · rintro rfl
          exact h1 (R.inj i j _ _ _ hρ h2 hσ e1)
      · subst h1
        cases h3
        exact ⟨a, hσ, hn, ws, upd_same, hz, h.mono hsv kS⟩
    exs := fun b hb => by
      obtain ⟨h1, h2, xs, h3⟩ := R.exs b hb
      refine ⟨h1, fun z => h2 (hown b z), xs, ?_⟩
      rw [upd_ne]
      · exact h3
      · rintro rfl
        exact h2 oa
    inj := fun j k d1 d2 b e1 e2 e3 e4 => by
      rcases set_at e1 with ⟨h1, h2⟩ | ⟨h1, h2, h3⟩
      · rcases set_at e2 with ⟨h4, h5⟩ | ⟨h4, h5, h6⟩
        · exact R.inj j k d1 d2 b h2 h5 e3 e4
        · subst h4
          exact R.inj j i d1 _ b h2 hρ e3 e4
      · subst h1
        rcases set_at e2 with ⟨h4, h5⟩ | ⟨h4, h5, h6⟩
        · exact R.inj i k _ d2 b hρ h5 e3 e4
        · exact h4 }, ⟨⟨C.ex, rfl⟩, kS, fun b _ _ z => hsv b z⟩⟩

/-! name = e -/
def asgS (i : Nat) (d : MS.D) (ρ : Rho) : M Out := M.pure (.nx (ρ.set i (.val d)))
def asgF (i : Nat) (d : MS.D) (ρ : Rho) : M Out := if d.ld = true then (if i < ρ.length then M.pure (.nx (ρ.set i (.own d))) else M.stuck) else M.pure (.nx (ρ.set i (.val d)))
def notComp : Expr → Bool
  | .ListComp _ _ _ _ => false
  | .SetComp _ _ _ _ => false
  | .DictComp _ _ _ _ _ => false
  | _ => true
theorem swaps_no {e : Expr} (h : notComp e = true) (t : Option Expr) (l : Nat) (env : Env) : swapsWith e t l env = pure false := by
  cases e <;> first | rfl | simp [notComp] at h
theorem asgS_post {Q : Ends} (R1 : Rel g C ρ p σ H1) (k1 : Keep C.kp H H1) (z : RS g C ρ σ H1 d v) (q : PostS g C ρ σ H (asgS i d ρ p) Q) : Q.nx (σ.set i (some v)) H1 :=
  q C _ H1 (R1.setVal z) (Stp.trans (.go k1) ⟨⟨C.ex, rfl⟩, Keep.refl H1, fun b _ _ w => w.set_val⟩)
theorem asgF_post {Q : Ends} (R : Rel g C ρ pb σ H) (R1 : Rel g C ρ p σ H1) (k1 : Keep C.kp H H1) (z : RPK .fr g C ρ σ H H1 d v) (q : PostS g C ρ σ H (asgF i d ρ p) Q) : Q.nx (σ.set i (some v)) H1 := by
  unfold asgF at q
  by_cases hl : d.ld = true
  · rw [if_pos hl] at q
    by_cases hi : i < ρ.length
    · rw [if_pos hi] at q
      have hv : ∃ a, v = .ref a := by
        have r := z.1
        cases d with
        | lst ds => unfold Rep at r; obtain ⟨a, _, e, _⟩ := r; exact ⟨a, e⟩
        | dct ds => unfold Rep at r; obtain ⟨a, _, e, _⟩ := r; exact ⟨a, e⟩
        | _ => cases hl
      obtain ⟨a, rfl⟩ := hv
      obtain ⟨h1, _, h3⟩ := z.2 a rfl hl
      obtain ⟨r1, r2⟩ := Rel.setOwn R R1 k1 h1 hi h3
      exact q C _ H1 r1 r2
    · rw [if_neg hi] at q
      exact q.elim
  · rw [if_neg hl] at q
    exact q C _ H1 (R1.setVal z.1) (Stp.trans (.go k1) ⟨⟨C.ex, rfl⟩, Keep.refl H1, fun b _ _ w => w.set_val⟩)
section
variable {x : Str} {px : Pos}
theorem g_loc {X : Cx} (o : g.Ok X) (hx : bindable g x) : Loc X.env.scope x ∧ (X.fn x = true ∨ X.env.scope.names.lookup x = some .local) := ⟨by rw [o.sc]; exact hx.1, hx.2.elim (fun z => .inl (o.fn _ z)) fun z => .inr (by rw [o.sc]; exact z)⟩
theorem ps_name {te : TE} (hN : g.N.Nodup) (hi : g.N[i]? = some x) (hx : bindable g x) (hc : notComp e = true) (h : ∀ X, g.Ok X → PE X e te) : ∀ X, g.Ok X → L2.PS X (.Assign [.Name x px] e pos) (tAsg te (gName i)) := fun X o =>
  ps_set (by rw [o.N]; exact hN) (by rw [o.N]; exact hi) (g_loc o hx).1 (h X o) (swaps_no hc _ _ _) (g_loc o hx).2
theorem js_setS (hN : g.N.Nodup) (hi : g.N[i]? = some x) (hx : bindable g x) (hc : notComp e = true) (h : JE .sh g e me) : JS g (.Assign [.Name x px] e pos) (fun ρ => M.bind (me ρ) fun d => asgS i d ρ) := by
  obtain ⟨t, a1, a2⟩ := h.ex
  refine ⟨tAsg t (gName i), ps_name hN hi hx hc a1, fun C ρ p σ H D R q => ?_⟩
  refine a2 C ρ p σ H _ R ?_
  cases e1 : me ρ p with
  | stuck => simp only [bind_stuck e1] at q; exact q
  | exc c p1 => simp only [bind_exc e1] at q; exact fun H' R' k' => q C ρ σ H' R' (.go k')
  | ok d p1 =>
    simp only [bind_ok e1] at q
    exact fun v H1 R1 k1 z => asgS_post R1 k1 z q
theorem js_setF (hN : g.N.Nodup) (hi : g.N[i]? = some x) (hx : bindable g x) (hc : notComp e = true) (h : JE .fr g e me) : JS g (.Assign [.Name x px] e pos) (fun ρ => M.bind (me ρ) fun d => asgF i d ρ) := by
  obtain ⟨t, a1, a2⟩ := h.ex
  refine ⟨tAsg t (gName i), ps_name hN hi hx hc a1, fun C ρ p σ H D R q => ?_⟩
  refine a2 C ρ p σ H _ R ?_
  cases e1 : me ρ p with
  | stuck => simp only [bind_stuck e1] at q; exact q
  | exc c p1 => simp only [bind_exc e1] at q; exact fun H' R' k' => q C ρ σ H' R' (.go k')
  | ok d p1 =>
    simp only [bind_ok e1] at q
    exact fun v H1 R1 k1 z => asgF_post R R1 k1 z q
end
end
end MS
/-! FF -/
namespace MS
open PySem PySem.Spec PyProof.Rows L2

section
variable {g : G} {C C' C1 : Ctx} {κ κ1 κ2 κ3 : Kd} {ρ ρ' ρ1 : Rho} {p p' p1 pb : PS} {σ σ' σ1 : L2.St} {H H' H0 H1 Hb : Hp} {d : D} {v : V} {i : Nat} {a : Addr} {st : Stmt} {sts : List Stmt} {m ms : Rho → M Out} {D : Ends} {e : Expr} {me : Rho → M MS.D} {pos px p2 : Pos} {x : Str}
/-- name = [..] -/
theorem js_setLc {tg iter elt : Expr} {ifs : List Expr} {scope : Scope} {lpos : Pos} {own : List (Str × Nat)} {mi : Rho → M (List MS.D)} {T : Tg} {mb : Rho → M Bool} {me : Rho → M MS.D} (hN : g.N.Nodup) (hx0 : g.N[i]? = some x) (hx : bindable g x) (hc : blkC g.N g.sc scope own = true) (hs : notSet iter = true) (hT : ∀ i ∈ T.ix, i ∈ own.map (·.2))
    (hi : JI κ g tg iter mi) (hg : JG (g.blk scope) tg T) (hb : JBs (g.blk scope) ifs mb) (he : JE .sh (g.blk scope) elt me) :
    JS g (.Assign [.Name x px] (.ListComp elt [⟨tg, iter, ifs, 0⟩] scope lpos) pos) (fun ρ => M.bind (M.bind (mi ρ) (lcD T mb me (own.map (·.2)) ρ)) fun d => asgF i d ρ) := by
  obtain ⟨t, _, h2, h3⟩ := lc_ex (pos := lpos) hN hc hs hT hi hg hb he
  refine ⟨tAsg t (gName i), fun X o => h2 X o i x px pos hx0 hx, fun C ρ p σ H D R q => ?_⟩
  refine h3 C ρ p σ H _ R ?_
  show Post .fr g C ρ σ H (M.bind (mi ρ) (lcD T mb me (own.map (·.2)) ρ) p) _
  have q : PostS g C ρ σ H (M.bind (M.bind (mi ρ) (lcD T mb me (own.map (·.2)) ρ)) (fun d => asgF i d ρ) p) D := q
  generalize M.bind (mi ρ) (lcD T mb me (own.map (·.2)) ρ) = mm at q ⊢
  cases e1 : mm p with
  | stuck => simp only [bind_stuck e1] at q; exact q
  | exc c p1 => simp only [bind_exc e1] at q; exact fun H' R' k' => q C ρ σ H' R' (.go k')
  | ok d p1 =>
    simp only [bind_ok e1] at q
    exact fun v H1 R1 k1 z => asgF_post R R1 k1 z q
/-! (a, b) = e -/
def asgT (T : Tg) (d : MS.D) (ρ : Rho) : M Out := match T.set d ρ with
  | some ρ' => M.pure (.nx ρ')
  | none => M.stuck
def notDisp : Expr → Bool
  | .Tuple _ _ _ => false
  | _ => true
theorem js_setT {es : List Expr} {kk : Nat} {tp : Pos} {T : Tg} (hd : notDisp e = true) (hg : JG g (.Tuple es kk tp) T) (h : JE .sh g e me) : JS g (.Assign [.Tuple es kk tp] e pos) (fun ρ => M.bind (me ρ) fun d => asgT T d ρ) := by
  obtain ⟨t, a1, a2⟩ := h.ex
  obtain ⟨gt, g1, g2⟩ := hg.ex
  refine ⟨tAsg t gt, fun X o => ps_asg (a1 X o) (g1 X o) (by cases e <;> rfl) (by cases e <;> first | rfl | simp [notDisp] at hd) rfl, fun C ρ p σ H D R q => ?_⟩
  refine a2 C ρ p σ H _ R ?_
  cases e1 : me ρ p with
  | stuck => simp only [bind_stuck e1] at q; exact q
  | exc c p1 => simp only [bind_exc e1] at q; exact fun H' R' k' => q C ρ σ H' R' (.go k')
  | ok d p1 =>
    simp only [bind_ok e1] at q
    intro v H1 R1 k1 z
    unfold asgT at q
    cases hs : T.set d ρ with
    | none => rw [hs] at q; exact q.elim
    | some ρ' =>
      rw [hs] at q
      exact g2 C ρ p1 σ H1 d v ρ' _ R1 z hs fun σ' t => q C σ' H1 t.rel (Stp.trans (.go k1) ⟨⟨C.ex, rfl⟩, Keep.refl H1, fun b _ _ w => ⟨fun z => w.1 (t.own b z), w.2⟩⟩)
/-! return -/
def retS (d : MS.D) : M Out := if d.ld = true then M.stuck else M.pure (.rt d)
theorem sv_rset (h : Sv C ρ σ a) : RSet C a := ⟨h.2.1, h.2.2.1⟩
theorem REnd.of (R : Rel g C ρ p σ H) (z : RS g C ρ σ H d v) (s : ∀ a, v = .ref a → d.ld = true → OwnRep g.K C.po (fun b => Sv C ρ σ b ∧ b ≠ a) H d a) : REnd g C p H d v :=
  ⟨R.ext, R.pen, R.tab, z.mono (fun _ w => sv_rset w) (Keep.refl H), fun a e l => (s a e l).mono (fun _ w => ⟨sv_rset w.1, w.2⟩) (Keep.refl H) fun o q _ => q⟩
theorem js_retS (h : JE .sh g e me) : JS g (.Return (some e) pos) (fun ρ => M.bind (me ρ) retS) := by
  obtain ⟨t, a1, a2⟩ := h.ex
  refine ⟨tRet t, fun X o => ps_ret (a1 X o), fun C ρ p σ H D R q => ?_⟩
  refine a2 C ρ p σ H _ R ?_
  cases e1 : me ρ p with
  | stuck => simp only [bind_stuck e1] at q; exact q
  | exc c p1 => simp only [bind_exc e1] at q; exact fun H' R' k' => q C ρ σ H' R' (.go k')
  | ok d p1 =>
    simp only [bind_ok e1] at q
    intro v H1 R1 k1 z
    unfold retS at q
    by_cases hl : d.ld = true
    · rw [if_pos hl] at q; exact q.elim
    · rw [if_neg hl] at q
      exact q v H1 (.of R1 z fun a _ w => absurd w hl)
theorem js_retF (h : JE .fr g e me) : JS g (.Return (some e) pos) (fun ρ => M.bind (me ρ) fun d => M.pure (.rt d)) := by
  obtain ⟨t, a1, a2⟩ := h.ex
  refine ⟨tRet t, fun X o => ps_ret (a1 X o), fun C ρ p σ H D R q => ?_⟩
  refine a2 C ρ p σ H _ R ?_
  cases e1 : me ρ p with
  | stuck => simp only [bind_stuck e1] at q; exact q
  | exc c p1 => simp only [bind_exc e1] at q; exact fun H' R' k' => q C ρ σ H' R' (.go k')
  | ok d p1 =>
    simp only [bind_ok e1] at q
    exact fun v H1 R1 k1 z => q v H1 (.of R1 z.1 fun a w l => (z.2 a w l).2.2)
def retN (ρ : Rho) (i : Nat) : M Out := match ρ[i]? with
  | some (.own d) => M.pure (.rt d)
  | some (.val d) => retS d
  | _ => M.stuck
theorem js_retN (hN : g.N[i]? = some x) (hv : Vis g.sc x) (hd : (x == ("__debug__" : Str)) = false) (hcd : (x == ("__classdict__" : Str)) = false) : JS g (.Return (some (.Name x px)) pos) (fun ρ => retN ρ i) := by
  refine ⟨tRet (tVar i), fun X o => ps_ret (pe_var (by rw [o.N]; exact hN) (by rw [o.sc]; exact hv) hd hcd), fun C ρ p σ H D R q => ?_⟩
  simp only [retN] at q
  cases e : ρ[i]? with
  | none => rw [e] at q; exact q.elim
  | some s =>
    rw [e] at q
    cases s with
    | un => exact q.elim
    | own d =>
      obtain ⟨a, e1, e2, e3⟩ := R.own i d e
      refine ⟨.ref a, e1, q (.ref a) H ⟨R.ext, R.pen, R.tab, ?_, fun b w l => ?_⟩⟩
      · exact (e3.mono (fun _ w => sv_rset w) (Keep.refl H) fun o q _ => q).rep ⟨R.po_ne_own ⟨i, d, e, e1⟩, .inl e2⟩
      · cases w
        exact e3.mono (fun b w => ⟨sv_rset w, fun z => w.1 ⟨i, d, e, by rw [z]; exact e1⟩⟩) (Keep.refl H) fun o q _ => q
    | val d =>
      obtain ⟨v, e1, e2⟩ := R.val i d e
      simp only [retS] at q
      by_cases hl : d.ld = true
      · rw [if_pos hl] at q; exact q.elim
      · rw [if_neg hl] at q
        exact ⟨v, e1, q v H (.of R e2 fun a _ w => absurd w hl)⟩
theorem js_ret0 : JS g (.Return none pos) (fun ρ => M.pure (.rt .non)) := ⟨tRetN, fun X o => ps_retN, fun C ρ p σ H D R q => q .non H (.of R rs_non fun a e => by cases e)⟩
/-! an expression whose value is dropped -/
theorem js_expr (hc : notComp e = true) (h : JE κ g e me) : JS g (.Expr e pos) (fun ρ => M.bind (me ρ) fun _ => M.pure (.nx ρ)) := by
  obtain ⟨t, a1, a2⟩ := h.ex
  refine ⟨tDrop t, fun X o => ps_expr (a1 X o) (swaps_no hc _ _ _), fun C ρ p σ H D R q => ?_⟩
  refine a2 C ρ p σ H _ R ?_
  cases e1 : me ρ p with
  | stuck => simp only [bind_stuck e1] at q; exact q
  | exc c p1 => simp only [bind_exc e1] at q; exact fun H' R' k' => q C ρ σ H' R' (.go k')
  | ok d p1 =>
    simp only [bind_ok e1] at q
    exact fun v H1 R1 k1 z => q C σ H1 R1 (.go k1)
theorem js_doc {j : Nat} {s : Str} : JS g (.Expr (.Constant (.str s) j px) pos) (fun ρ => M.pure (.nx ρ)) := ⟨tNext, fun X _ => ps_doc, fun C ρ p σ H D R q => q C σ H R .refl⟩
/-! raise C('..') -/
structure ExOk (g : G) (x : Str) : Prop where
  ex : ∃ (B newId initId : String) (bmB : List Value), ExcBaseFacts B newId initId bmB ∧ PySem.W.excIn g.K (He.ga g.K x) bmB newId = true
  mg : g.mg x = some (.ref (He.ga g.K x))
  kp : PySem.W.keepIn g.K (.ref (He.ga g.K x)) = true
  sub : PySem.W.subIn g.K (.ref (He.ga g.K x)) (.type "BaseException") = some true
  ty : PySem.W.typeIn g.K (.ref (He.ga g.K x)) = some (.type "type")
theorem js_raise {s : Str} {j : Nat} {p3 : Pos} (F : ExOk g x) (hg : g.sc.names.lookup x = some .globalImplicit) (hdb : (x == ("__debug__" : Str)) = false) :
    JS g (.Raise (some (.Call (.Name x px) [.Constant (.str s) j p2] [] p3)) none pos) (fun _ => M.throw x) := by
  obtain ⟨B, newId, initId, bmB, F1, F2⟩ := F.ex
  refine ⟨fun _ σ H => g.W (.ref (He.ga g.K x)) none σ H, fun X o => ?_, fun C ρ p σ H D R q => q C ρ σ H R .refl⟩
  exact ps_raise o.calm o.tk (pmk_own F1 (by rw [o.K]; exact F2) (by rw [o.mg]; exact F.mg) (by rw [o.K]; exact F.kp) (raises_own (by rw [o.K]; exact F.sub) (by rw [o.K]; exact F.ty)) (by show X.env.scope.names.lookup _ = _; rw [o.sc]; exact hg) hdb)
/-! own lists written -/
def ownUpd (ρ : Rho) (i : Nat) (f : List MS.D → M (List MS.D)) : M Out := match ρ[i]? with
  | some (.own (.lst ds)) => M.bind (f ds) fun ds' => if ds'.length ≤ sizeLine then M.pure (.nx (ρ.set i (.own (.lst ds')))) else M.stuck
  | _ => M.stuck
theorem js_own1 {nm : Str} {id : String} {r : V → List V → Hp → VK → Prop} {f : List MS.D → MS.D → Option (List MS.D)} {apos cpos : Pos} (slot : Slot "list" nm id) (hty : typeOf (.builtin id) = pure (.type "method_descriptor")) (rule : ∀ X, MtR X id r)
    (hr : ∀ {C ρ σ H a vs w ds d ds'} (Q : VK), H a = some (.lst vs) → RSs g C ρ σ H ds vs → RS g C ρ σ H d w → f ds d = some ds' → (∀ ws', RSs g C ρ σ H ds' ws' → Q .non (upd H a (.lst ws'))) → ds.length ≤ sizeLine → ds'.length ≤ sizeLine → r (.ref a) [w] H Q)
    (hN : g.N[i]? = some x) (hv : Vis g.sc x) (hd : (x == ("__debug__" : Str)) = false) (hcd : (x == ("__classdict__" : Str)) = false) (hs : notStar e = true) (hb : ∀ env, attributeBase (.Name x px) nm env (eval (.Name x px) env) = eval (.Name x px) env) (hl : (apos.endLine == cpos.line) = true) (h : JE .sh g e me) :
    JS g (.Expr (.Call (.Attribute (.Name x px) nm apos) [e] [] cpos) pos) (fun ρ => ownUpd ρ i fun ds => M.bind (me ρ) fun d => M.ofO (f ds d)) := by
  obtain ⟨t, a1, a2⟩ := h.ex
  refine ⟨tDrop (tBM g.K "list" r (tVar i) (tCons t tNil)), fun X o => ps_expr (by
    have hh := pe_bm (cpos := cpos) (apos := apos) PySem.F.plainAttrs_list slot hty (rule X) (pe_var (pos := px) (by rw [o.N]; exact hN) (by rw [o.sc]; exact hv) hd hcd) (pa_cons (a1 X o) pa_nil (star_ok hs _)) (hb _) (by rw [star_ok hs]; rfl) hl (star_ok hs _) (plain_tail rfl _ _)
    rw [o.K] at hh
    exact hh) rfl, fun C ρ p σ H D R q => ?_⟩
  simp only [ownUpd] at q
  cases e0 : ρ[i]? with
  | none => rw [e0] at q; exact q.elim
  | some s =>
    rw [e0] at q
    cases s with
    | un => exact q.elim
    | val d => exact q.elim
    | own d =>
      cases d with
      | lst ds =>
        obtain ⟨a, e1, e2, e3⟩ := R.own i _ e0
        have hh := e3
        obtain ⟨vs, h1, h2, h3⟩ := hh
        refine ⟨.ref a, e1, .inl ⟨rfl, vs, SqL.of h1⟩, a2 C ρ p σ H _ R ?_⟩
        cases e4 : me ρ p with
        | stuck => simp only [M.bind, e4] at q; exact q
        | exc c p1 => simp only [M.bind, e4] at q; exact fun H' R' k' => q C ρ σ H' R' (.go k')
        | ok d p1 =>
          simp only [M.bind, e4] at q
          intro w H1 R1 k1 z
          cases e5 : f ds d with
          | none => rw [e5] at q; exact q.elim
          | some ds' =>
            rw [e5] at q
            simp only [M.ofO, M.pure] at q
            by_cases hz : ds'.length ≤ sizeLine
            · rw [if_pos hz] at q
              obtain ⟨a', e1', _, e3'⟩ := R1.own i _ e0
              rw [e1] at e1'; cases e1'
              obtain ⟨vs', h1', h2', h3'⟩ := e3'
              refine hr (d := d) (ds' := ds') _ h1' h3' z e5 (fun ws' rr => ?_) h2' hz
              obtain ⟨r1, r2⟩ := Rel.wrOwn R1 e0 e1 hz rr
              exact q C σ _ r1 (Stp.trans (.go k1) r2)
            · rw [if_neg hz] at q; exact q.elim
      | _ => exact q.elim
def appD (ds : List MS.D) (d : MS.D) : Option (List MS.D) := if ds.length < sizeLine then some (ds ++ [d]) else none
def extD (ds : List MS.D) (d : MS.D) : Option (List MS.D) := match d with
  | .lst es => if ds.length + es.length ≤ sizeLine then some (ds ++ es) else none
  | _ => none
theorem js_append {apos cpos : Pos} (hN : g.N[i]? = some x) (hv : Vis g.sc x) (hd : (x == ("__debug__" : Str)) = false) (hcd : (x == ("__classdict__" : Str)) = false) (hs : notStar e = true) (hl : (apos.endLine == cpos.line) = true) (h : JE .sh g e me) :
    JS g (.Expr (.Call (.Attribute (.Name x px) "append" apos) [e] [] cpos) pos) (fun ρ => ownUpd ρ i fun ds => M.bind (me ρ) fun d => M.ofO (appD ds d)) :=
  js_own1 PySem.F.slot_list_append PySem.F.type_list_append (fun X => mt_append) (fun {C ρ σ H a vs w ds d ds'} Q h1 h2 h3 h4 h5 h6 h7 => by
    unfold appD at h4
    by_cases hz : ds.length < sizeLine
    · rw [if_pos hz] at h4
      cases h4
      exact ⟨a, vs, w, rfl, rfl, h1, by rw [← h2.length]; exact hz, h5 _ (Reps.append h2 (Reps.cons h3 Reps.nil))⟩
    · rw [if_neg hz] at h4; cases h4) hN hv hd hcd hs (fun _ => rfl) hl h
theorem js_extend {apos cpos : Pos} (hN : g.N[i]? = some x) (hv : Vis g.sc x) (hd : (x == ("__debug__" : Str)) = false) (hcd : (x == ("__classdict__" : Str)) = false) (hs : notStar e = true) (hl : (apos.endLine == cpos.line) = true) (h : JE .sh g e me) :
    JS g (.Expr (.Call (.Attribute (.Name x px) "extend" apos) [e] [] cpos) pos) (fun ρ => ownUpd ρ i fun ds => M.bind (me ρ) fun d => M.ofO (extD ds d)) :=
  js_own1 PySem.F.slot_list_extend PySem.F.type_list_extend (fun X => mt_extend) (fun {C ρ σ H a vs w ds d ds'} Q h1 h2 h3 h4 h5 h6 h7 => by
    unfold extD at h4
    cases d with
    | lst es =>
      simp only [] at h4
      by_cases hz : ds.length + es.length ≤ sizeLine
      · rw [if_pos hz] at h4
        cases h4
        unfold RS at h3
        unfold Rep at h3
        obtain ⟨b, ws, rfl, _, h8, _, h9⟩ := h3
        exact ⟨a, b, vs, ws, rfl, rfl, h1, h8, by rw [← h2.length, ← h9.length]; exact hz, h5 _ (Reps.append h2 h9)⟩
      · rw [if_neg hz] at h4; cases h4
    | _ => cases h4) hN hv hd hcd hs (fun _ => rfl) hl h
end
end MS
/-! FG -/
namespace MS
open PySem PySem.Spec PyProof.Rows L2

/-! ### the pen -/
def penGet (ρ : Rho) (i : Nat) (j : Int) : M D := fun p => match ρ[i]?, p with
  | some (.val .pen), some pn => if j = 1 then .ok (.int pn.at_) p else if j = 2 then .ok (.int pn.rest) p else .stuck
  | _, _ => .stuck
def penLen (ρ : Rho) (i : Nat) : M D := fun p => match ρ[i]?, p with
  | some (.val .pen), some pn => .ok (.int pn.cells.length) p
  | _, _ => .stuck
def penAt (d : D) : M D := fun p => match p, d with
  | some pn, .int k => (match atI pn.cells k with
    | some c => .ok (.int c) p
    | none => .stuck)
  | _, _ => .stuck
def penCell (ρ : Rho) (i : Nat) (m : M D) : M D := fun p => match ρ[i]?, p with
  | some (.val .pen), some pn => M.bind m penAt (some pn)
  | _, _ => .stuck
def penSet (ρ : Rho) (i : Nat) (j : Int) (d : D) : M Out := fun p => match ρ[i]?, p, d with
  | some (.val .pen), some pn, .int k => if j = 1 then .ok (.nx ρ) (some { pn with at_ := k }) else if j = 2 then .ok (.nx ρ) (some { pn with rest := k }) else .stuck
  | _, _, _ => .stuck
section
variable {g : G} {C C' C1 : Ctx} {κ κ1 κ2 κ3 : Kd} {ρ ρ' ρ1 : Rho} {p p' p1 pb : PS} {σ σ' σ1 : L2.St} {H H' H0 H1 Hb : Hp} {d : D} {v : V} {i : Nat} {a : Addr} {st : Stmt} {sts : List Stmt} {m ms : Rho → M Out} {D : Ends} {e : Expr} {me : Rho → M MS.D} {pos px p2 p3 p4 : Pos} {x : Str}
/-- what stands at the pen -/
theorem Rel.pens {pn : Pen} (R : Rel g C ρ (some pn) σ H) (e : ρ[i]? = some (.val .pen)) : ∃ pa ca, C.pp = some (pa, ca) ∧ σ[i]? = some (some (.ref pa)) ∧ ca ≠ pa ∧ H pa = some (.lst [.ref ca, .int pn.at_, .int pn.rest]) ∧ H ca = some (.lst (pn.cells.map V.int)) ∧ pn.cells.length ≤ sizeLine := by
  obtain ⟨v, e1, e2⟩ := R.val i _ e
  unfold Rep at e2
  obtain ⟨a, rfl, e3⟩ := e2
  have hp := R.pen
  unfold Ctx.po at e3
  unfold PenOk at hp
  cases q : C.pp with
  | none => rw [q] at e3; cases e3
  | some y =>
    obtain ⟨pa, ca⟩ := y
    rw [q] at e3 hp
    obtain rfl : pa = a := Option.some.inj e3
    exact ⟨pa, ca, rfl, e1, hp⟩
theorem pe_pen (hN : g.N[i]? = some x) (hv : Vis g.sc x) (hd : (x == ("__debug__" : Str)) = false) (hcd : (x == ("__classdict__" : Str)) = false) {j : Int} {jj} : ∀ X, g.Ok X → PE X (.Subscript (.Name x px) (.Constant (.int j) jj p2) p3) (tOp (rIx g.K) (tVar i) (tC (.int j))) := fun X o => by
  have hh := pe_ix (X := X) (pos := p3) ix_seq (pe_var (pos := px) (by rw [o.N]; exact hN) (by rw [o.sc]; exact hv) hd hcd) (pe_int (i := j) (j := jj) (pos := p2)) (plainIx rfl)
  rw [o.K] at hh
  exact hh
theorem je_penGet (hN : g.N[i]? = some x) (hv : Vis g.sc x) (hd : (x == ("__debug__" : Str)) = false) (hcd : (x == ("__classdict__" : Str)) = false) {j : Int} {jj} : JE .fr g (.Subscript (.Name x px) (.Constant (.int j) jj p2) p3) (fun ρ => penGet ρ i j) := by
  refine ⟨_, pe_pen hN hv hd hcd, fun C ρ p σ H Q R q => ?_⟩
  simp only [penGet] at q
  split at q
  · rename_i pn e0
    obtain ⟨pa, ca, h1, h2, h3, h4, h5, h6⟩ := R.pens e0
    refine ⟨.ref pa, h2, .inl ⟨pa, [.ref ca, .int pn.at_, .int pn.rest], j, ?_⟩⟩
    by_cases h : j = 1
    · subst h
      rw [if_pos rfl] at q
      exact ⟨_, rfl, rfl, SqL.of h4, rfl, Post.ret R q fr_int⟩
    · rw [if_neg h] at q
      by_cases h : j = 2
      · subst h
        rw [if_pos rfl] at q
        exact ⟨_, rfl, rfl, SqL.of h4, rfl, Post.ret R q fr_int⟩
      · rw [if_neg h] at q
        exact q.elim
  · exact q.elim
theorem je_penLen (hl : GlOk g "len") (hN : g.N[i]? = some x) (hv : Vis g.sc x) (hd : (x == ("__debug__" : Str)) = false) (hcd : (x == ("__classdict__" : Str)) = false) {jj} {p1 pos : Pos} : JE .fr g (.Call (.Name "len" p1) [.Subscript (.Name x px) (.Constant (.int 0) jj p2) p3] [] pos) (fun ρ => penLen ρ i) := by
  refine ⟨_, fun X o => hp_blt (r := fun xs H Q => ∃ x n, xs = [x] ∧ LenV g.K x H n ∧ Q (.int n) H) hl rfl (fun X o => by rw [← o.K]; exact call_len) (by decide +kernel) (by decide) (by decide) X o _ (pa_cons (pe_pen hN hv hd hcd X o) pa_nil (star_ok rfl _)), fun C ρ p σ H Q R q => ?_⟩
  simp only [penLen] at q
  split at q
  · rename_i pn e0
    obtain ⟨pa, ca, h1, h2, h3, h4, h5, h6⟩ := R.pens e0
    exact ⟨.ref pa, h2, .inl ⟨pa, _, 0, .ref ca, rfl, rfl, SqL.of h4, rfl, _, _, rfl, .inl ⟨_, SqL.of h5, by rw [List.length_map]⟩, Post.ret R q fr_int⟩⟩
  · exact q.elim
theorem je_penCell (hN : g.N[i]? = some x) (hv : Vis g.sc x) (hd : (x == ("__debug__" : Str)) = false) (hcd : (x == ("__classdict__" : Str)) = false) {jj} (hb : notSlice e = true) (h : JE κ g e me) : JE .fr g (.Subscript (.Subscript (.Name x px) (.Constant (.int 0) jj p2) p3) e p4) (fun ρ => penCell ρ i (me ρ)) := by
  obtain ⟨t, a1, a2⟩ := h.ex
  refine ⟨tOp (rIx g.K) (tOp (rIx g.K) (tVar i) (tC (.int 0))) t, fun X o => by
    have hh := pe_ix (X := X) (pos := p4) ix_seq (pe_pen (px := px) (p2 := p2) (p3 := p3) (j := 0) (jj := jj) hN hv hd hcd X o) (a1 X o) (plainIx hb)
    rw [o.K] at hh
    exact hh, fun C ρ p σ H Q R q => ?_⟩
  simp only [penCell] at q
  split at q
  · rename_i pn e0
    obtain ⟨pa, ca, h1, h2, _, h4, _, _⟩ := R.pens e0
    refine ⟨.ref pa, h2, .inl ⟨pa, [.ref ca, .int pn.at_, .int pn.rest], 0, .ref ca, rfl, rfl, SqL.of h4, rfl, ?_⟩⟩
    refine a2 C ρ (some pn) σ H _ R ?_
    cases e1 : me ρ (some pn) with
    | stuck => simp only [bind_stuck e1] at q; exact q
    | exc c p1 => simp only [bind_exc e1] at q; exact q
    | ok d p1 =>
      simp only [bind_ok e1] at q
      intro w H1 R1 k1 z
      unfold penAt at q
      cases p1 with
      | none => exact q.elim
      | some pn1 =>
        cases d with
        | int k =>
          simp only [] at q
          obtain ⟨pa', ca', g1, g2, g3, g4, g5, g6⟩ := R1.pens e0
          rw [h1] at g1; cases g1
          cases e5 : atI pn1.cells k with
          | none => rw [e5] at q; exact q.elim
          | some c =>
            rw [e5] at q
            rw [rt_int z.tp]
            refine .inl ⟨ca, pn1.cells.map V.int, k, .int c, rfl, rfl, SqL.of g5, ?_, q _ H1 R1 k1 fr_int⟩
            unfold atI at e5 ⊢
            rw [List.length_map]
            cases e6 : ixN pn1.cells.length k with
            | none => rw [e6] at e5; cases e5
            | some j =>
              rw [e6] at e5
              simp only [Option.bind_some] at e5 ⊢
              rw [List.getElem?_map, e5]
              rfl
        | _ => exact q.elim
  · exact q.elim
theorem js_penSet (hN : g.N[i]? = some x) (hv : Vis g.sc x) (hd : (x == ("__debug__" : Str)) = false) (hcd : (x == ("__classdict__" : Str)) = false) {j : Int} {jj} (h : JE .fr g e me) : JS g (.Assign [.Subscript (.Name x px) (.Constant (.int j) jj p2) p3] e pos) (fun ρ => M.bind (me ρ) (penSet ρ i j)) := by
  obtain ⟨t, a1, a2⟩ := h.ex
  refine ⟨tAsg t (gSub (tVar i) (tC (.int j)) rSetL), fun X o => ps_asg (a1 X o) (pg_sub (pe_var (by rw [o.N]; exact hN) (by rw [o.sc]; exact hv) hd hcd) pe_int set_list) (by cases e <;> rfl) (by cases e <;> rfl) rfl, fun C ρ p σ H D R q => ?_⟩
  refine a2 C ρ p σ H _ R ?_
  cases e1 : me ρ p with
  | stuck => simp only [bind_stuck e1] at q; exact q
  | exc c p1 => simp only [bind_exc e1] at q; exact fun H' R' k' => q C ρ σ H' R' (.go k')
  | ok d p1 =>
    simp only [bind_ok e1] at q
    intro w H1 R1 k1 z
    unfold penSet at q
    cases e0 : ρ[i]? with
    | none => rw [e0] at q; exact q.elim
    | some s =>
      rw [e0] at q
      split at q
      · rename_i pn k e7
        cases e7
        obtain ⟨pa, ca, g1, g2, g3, g4, g5, g6⟩ := R1.pens e0
        rw [rt_int z.tp]
        have hpo : C.po = some pa := by unfold Ctx.po; rw [g1]; rfl
        have hpa : ∀ ws, Keep C.kp H1 (upd H1 pa (.lst ws)) := fun ws => Keep.write g4 fun z => z hpo
        have tb : ∀ ws, LamX.Tabs g.T (upd H1 pa (.lst ws)) := fun ws => tabs_cg R1.tab fun b u q c => by
          rw [upd_ne]
          · exact q
          · rintro rfl
            rw [g4] at q
            cases q
            cases c
        have pk : ∀ at' rest', PenOk C.pp (some ⟨pn.cells, at', rest'⟩) (upd H1 pa (.lst [.ref ca, .int at', .int rest'])) := fun at' rest' => by
          unfold PenOk
          rw [g1]
          exact ⟨g3, upd_same, by rw [upd_ne g3]; exact g5, g6⟩
        by_cases h : j = 1
        · subst h
          rw [if_pos rfl] at q
          exact ⟨.ref pa, g2, pa, _, 1, 1, rfl, rfl, g4, rfl, q C σ _ (R1.go (hpa _) (pk _ _) (tb _)) (Stp.trans (.go k1) (.go (hpa _)))⟩
        · rw [if_neg h] at q
          by_cases h : j = 2
          · subst h
            rw [if_pos rfl] at q
            exact ⟨.ref pa, g2, pa, _, 2, 2, rfl, rfl, g4, rfl, q C σ _ (R1.go (hpa _) (pk _ _) (tb _)) (Stp.trans (.go k1) (.go (hpa _)))⟩
          · rw [if_neg h] at q
            exact q.elim
      · exact q.elim
end
end MS
/-! FH -/
namespace MS
open PySem PySem.Spec PyProof.Rows L2

/-! ### a def's promise from its body -/
structure Bs where
  P : Program
  w : World
  K : PySem.W.Frag
  mg : Str → Option Value
  base : Heap
  T : List (Addr × Str)
def Bs.g (b : Bs) (N : List Str) (sc : Scope) (k : Nat) (W : WX) : G := { P := b.P, w := b.w, K := b.K, mg := b.mg, base := b.base, N := N, sc := sc, k := k, T := b.T, W := W }
def startR (n : Nat) (ds : List D) : Rho := ds.map .val ++ List.replicate (n - ds.length) .un
def runDef (n : Nat) (m : Rho → M Out) (ds : List D) : M D := M.bind (m (startR n ds)) fun o => match o with
  | .nx _ => M.pure .non
  | .rt d => M.pure d
  | _ => M.stuck
theorem startR_get {n : Nat} {ds : List D} {i : Nat} {c : Cel} (h : (startR n ds)[i]? = some c) : (∃ d, ds[i]? = some d ∧ c = .val d) ∨ c = .un := by
  unfold startR at h
  by_cases hi : i < ds.length
  · rw [List.getElem?_append_left (by simpa using hi), List.getElem?_map] at h
    cases e : ds[i]? with
    | none => rw [e] at h; cases h
    | some d => rw [e] at h; exact .inl ⟨d, rfl, (Option.some.inj h).symm⟩
  · rw [List.getElem?_append_right (by simpa using hi)] at h
    have := List.mem_of_getElem? h
    exact .inr (List.eq_of_mem_replicate this)
theorem not_own_start {n : Nat} {ds : List D} {σ : L2.St} {a : Addr} : ¬ Own (startR n ds) σ a := by
  rintro ⟨j, d, e1, _⟩
  rcases startR_get e1 with ⟨d', _, h⟩ | h <;> cases h
theorem FOk.up {b : Bs} {N N' : List Str} {sc sc' : Scope} {k k' : Nat} {W W' : WX} {x : Str} {n : Nat} {m : List D → M D} (h : k ≤ k') (F : FOk (b.g N sc k W) x n m) : FOk (b.g N' sc' k' W') x n m := by
  obtain ⟨fd, ps, e, h1, h2⟩ := F.ok
  exact ⟨F.mg, F.kp, fd, ps, e, h1.mono h, h2⟩
theorem FOk.blk {g : G} {scope : Scope} {x : Str} {n : Nat} {m : List D → M D} (F : FOk g x n m) : FOk (g.blk scope) x n m := ⟨F.mg, F.kp, F.ok⟩
theorem FOk.setW {g : G} {W : WX} {x : Str} {n : Nat} {m : List D → M D} (F : FOk g x n m) : FOk { g with W := W } x n m := ⟨F.mg, F.kp, F.ok⟩
theorem fok_of {b : Bs} {x : Str} {params : Arguments} {body : List Stmt} {scope : Scope} {fd : FuncData} {N N' ps : List Str} {sc' : Scope} {W' : WX} {k : Nat} {m0 : Rho → M Out} (F : FunD b.K x x params body scope [] [] (He.ga b.K x) fd) (S : FnScope N ps scope) (hb : Binds b.K fd ps [])
    (hg : b.mg x = some (.ref (He.ga b.K x))) (hm : ∀ W, JSs (b.g N scope k W) body m0) : FOk (b.g N' sc' (k + 1) W') x ps.length (runDef N.length m0) := by
  refine ⟨hg, F.kp, fd, ps, rfl, F.ok S (fun vs H Q E h => ?_) (fun cdv A outer s H vs Q E hr h => ?_), hb⟩
  · obtain ⟨_, _, _, _, h, _⟩ := h
    exact h
  · obtain ⟨pp, Sa, ds, p, hl, pre, post⟩ := h
    obtain ⟨t, a1, a2⟩ := (hm (fun cls d _ H' => E cls d H')).ex
    refine ⟨t, a1 _ ⟨rfl, rfl, rfl, rfl, rfl, rfl, rfl, rfl, hr, takes_of rfl rfl rfl rfl, passes_of (X := cxOf (L2.CX b.P b.w) b.P b.w b.K b.mg b.base N x scope (He.ga b.K x) cdv A outer s H E) rfl, fun _ _ => rfl⟩, ?_⟩
    have hdl : ds.length = vs.length := pre.args.length
    have hpl : ps.length ≤ N.length := by have := congrArg List.length S.pre; rw [List.length_take] at this; omega
    have R : Rel (b.g N scope k (fun cls d _ H' => E cls d H')) { pp := pp, H0 := H, Sa := Sa } (startR N.length ds) p (L2.start N vs) H := {
      len := by unfold L2.start startR; simp; omega
      ext := Keep.refl H
      pen := pre.pen
      pen0 := fun pa ca e => by
        have hp := pre.pen
        obtain rfl : pp = some (pa, ca) := e
        unfold PenOk at hp
        cases p with
        | none => exact hp.elim
        | some pn => exact ⟨⟨_, hp.2.1⟩, ⟨_, hp.2.2.1⟩, hp.1⟩
      tab := pre.tab
      val := fun i d e => by
        rcases startR_get e with ⟨d', h1, h2⟩ | h2
        · cases h2
          obtain ⟨v, h3, h4⟩ := pre.args.getD h1
          refine ⟨v, ?_, h4.mono (fun a z => ⟨not_own_start, pre.sa a z, .inr z, fun h => by cases h⟩) (Keep.refl H)⟩
          have hi : i < vs.length := (List.getElem?_eq_some_iff.mp h3).1
          unfold L2.start
          rw [List.getElem?_append_left (by simpa using hi), List.getElem?_map, h3]
          rfl
        · cases h2
      own := fun i d e => by
        rcases startR_get e with ⟨d', _, h2⟩ | h2 <;> cases h2
      exs := fun a ha => by cases ha
      inj := fun i j d d' a e => by
        rcases startR_get e with ⟨d', _, h2⟩ | h2 <;> cases h2 }
    refine a2 _ _ p _ H _ R ?_
    unfold FPost at post
    unfold runDef at post
    cases e : m0 (startR N.length ds) p with
    | stuck => rw [bind_stuck e] at post; exact post
    | exc c p1 =>
      rw [bind_exc e] at post
      intro C' ρ' σ' H' R' s'
      obtain ⟨ex, rfl⟩ := s'.same
      exact post H' R'.ext R'.pen R'.tab
    | ok o p1 =>
      rw [bind_ok e] at post
      cases o with
      | nx ρ' =>
        intro C' σ' H' R' s'
        obtain ⟨ex, rfl⟩ := s'.same
        exact post .non H' R'.ext R'.pen R'.tab (by unfold Rep; rfl) fun a w => by cases w
      | rt d => exact fun v H' r => post v H' r.ext r.pen r.tab r.rep r.stg
      | bk ρ' => exact post.elim
      | ct ρ' => exact post.elim
end MS
/-! FI -/
namespace MS
open PySem PySem.Spec PyProof.Rows L2

/-! ### short forms -/
structure Nm (g : G) (i : Nat) (x : Str) : Prop where
  hN : g.N[i]? = some x
  hv : Vis g.sc x
  hd : (x == ("__debug__" : Str)) = false
  hcd : (x == ("__classdict__" : Str)) = false
def visB (sc : Scope) (x : Str) : Bool := match sc.names.lookup x with
  | some .local => true
  | some .cell => true
  | some .free => true
  | _ => false
def nmB (N : List Str) (sc : Scope) (i : Nat) (x : Str) : Bool := decide (N[i]? = some x) && visB sc x && !(x == ("__debug__" : Str)) && !(x == ("__classdict__" : Str))
theorem vis_of {sc : Scope} {x : Str} (h : visB sc x = true) : Vis sc x := by
  unfold visB at h
  split at h
  · exact .inl (by assumption)
  · exact .inr (.inl (by assumption))
  · exact .inr (.inr (by assumption))
  · cases h
theorem nm {g : G} {i : Nat} {x : Str} (h : nmB g.N g.sc i x = true) : Nm g i x := by
  unfold nmB at h
  simp only [Bool.and_eq_true, decide_eq_true_eq, Bool.not_eq_true'] at h
  exact ⟨h.1.1.1, vis_of h.1.1.2, h.1.2, h.2⟩
structure Bd (g : G) (i : Nat) (x : Str) : Prop where
  nd : g.N.Nodup
  hi : g.N[i]? = some x
  hx : bindable g x
def bdB (N : List Str) (sc : Scope) (fk : Str → Bool) (i : Nat) (x : Str) : Bool := decide N.Nodup && decide (N[i]? = some x) && (match sc.names.lookup x with
  | some .local => true
  | some .cell => fk x
  | _ => false)
theorem bd {g : G} {i : Nat} {x : Str} (h : bdB g.N g.sc g.fk i x = true) : Bd g i x := by
  unfold bdB at h
  simp only [Bool.and_eq_true, decide_eq_true_eq] at h
  refine ⟨h.1.1, h.1.2, ?_⟩
  have h2 := h.2
  split at h2
  · exact ⟨.inl (by assumption), .inr (by assumption)⟩
  · exact ⟨.inr (by assumption), .inl h2⟩
  · cases h2
def glB (sc : Scope) (x : Str) : Bool := decide (sc.names.lookup x = some .globalImplicit)
theorem gl {g : G} {x : Str} (h : glB g.sc x = true) : g.sc.names.lookup x = some .globalImplicit := of_decide_eq_true h
theorem glo {g : G} {x : Str} (h : glB g.sc x = true) (h2 : g.mg x = none) : GlOk g x := ⟨gl h, h2⟩
section
variable {g : G} {κ κ1 κ2 : Kd} {i : Nat} {x : Str} {pos px p1 p2 p3 p4 apos cpos : Pos} {e a b : Expr} {es : List Expr} {me ma mb : Rho → M MS.D} {ms : Rho → M (List MS.D)} {n : Nat} {m : List D → M D}
theorem kS (h : Nm g i x) : JE .sh g (.Name x pos) (fun ρ => getS ρ i) := je_nameS h.hN h.hv h.hd h.hcd
theorem kT (h : Nm g i x) : JE .tp g (.Name x pos) (fun ρ => getT ρ i) := je_nameT h.hN h.hv h.hd h.hcd
theorem kStr {s : Str} {j : Nat} (h : (decide (s.length ≤ sizeLine) && PyData.strOk s) = true) : JE .fr g (.Constant (.str s) j pos) (fun _ => M.pure (.str s)) := by
  simp only [Bool.and_eq_true, decide_eq_true_eq] at h
  exact je_str h.1 h.2
theorem kA1 (hs : notStar e = true) (h : JE κ g e me) : JA κ g [e] (fun ρ => M.bind (me ρ) fun d => M.bind (M.pure []) fun ds => M.pure (d :: ds)) := JA.cons (star_ok hs) h JA.nil
theorem kA (hs : notStar e = true) (h : JE κ g e me) (t : JA κ g es ms) : JA κ g (e :: es) (fun ρ => M.bind (me ρ) fun d => M.bind (ms ρ) fun ds => M.pure (d :: ds)) := JA.cons (star_ok hs) h t
def okCall (sc : Scope) (x : Str) (es : List Expr) : Bool := glB sc x && es.all notStar && !(x == ("__debug__" : Str))
theorem kCallT (c : okCall g.sc x (e :: es) = true) (F : FOk g x n m) (h : JA .tp g (e :: es) ms) : JE .fr g (.Call (.Name x p1) (e :: es) [] pos) (fun ρ => M.bind (ms ρ) (callT n m)) := by
  unfold okCall at c
  simp only [Bool.and_eq_true, Bool.not_eq_true', List.all_cons] at c
  exact je_callT (gl c.1.1) F c.1.2.1 c.1.2.2 c.2 h
theorem kCallF (c : okCall g.sc x (e :: es) = true) (F : FOk g x n m) (h : JA .sh g (e :: es) ms) : JE .fr g (.Call (.Name x p1) (e :: es) [] pos) (fun ρ => M.bind (ms ρ) (callF n m)) := by
  unfold okCall at c
  simp only [Bool.and_eq_true, Bool.not_eq_true', List.all_cons] at c
  exact je_callF (gl c.1.1) F c.1.2.1 c.1.2.2 c.2 h
theorem kCallS (c : okCall g.sc x (e :: es) = true) (F : FOk g x n m) (h : JA .sh g (e :: es) ms) : JE .sh g (.Call (.Name x p1) (e :: es) [] pos) (fun ρ => M.bind (ms ρ) (callD n m)) := by
  unfold okCall at c
  simp only [Bool.and_eq_true, Bool.not_eq_true', List.all_cons] at c
  exact je_callS (gl c.1.1) F c.1.2.1 c.1.2.2 c.2 h
theorem kCall0 (c : okCall g.sc x [] = true) (F : FOk g x 0 m) : JE .fr g (.Call (.Name x p1) [] [] pos) (fun _ => call0 m) := by
  unfold okCall at c
  simp only [Bool.and_eq_true, Bool.not_eq_true', List.all_nil] at c
  exact je_call0 (gl c.1.1) F c.2
theorem kGet (h : Nm g i x) {j : Int} {jj} : JE .fr g (.Subscript (.Name x px) (.Constant (.int j) jj p2) p3) (fun ρ => penGet ρ i j) := je_penGet h.hN h.hv h.hd h.hcd
theorem kLenP (hl : GlOk g "len") (h : Nm g i x) {jj} {p1 pos : Pos} : JE .fr g (.Call (.Name "len" p1) [.Subscript (.Name x px) (.Constant (.int 0) jj p2) p3] [] pos) (fun ρ => penLen ρ i) := je_penLen hl h.hN h.hv h.hd h.hcd
theorem kCell (h : Nm g i x) {jj} (hb : notSlice e = true) (h2 : JE κ g e me) : JE .fr g (.Subscript (.Subscript (.Name x px) (.Constant (.int 0) jj p2) p3) e p4) (fun ρ => penCell ρ i (me ρ)) := je_penCell h.hN h.hv h.hd h.hcd hb h2
theorem sPen (h : Nm g i x) {j : Int} {jj} (h2 : JE .fr g e me) : JS g (.Assign [.Subscript (.Name x px) (.Constant (.int j) jj p2) p3] e pos) (fun ρ => M.bind (me ρ) (penSet ρ i j)) := js_penSet h.hN h.hv h.hd h.hcd h2
theorem sSetS (h : Bd g i x) (hc : notComp e = true) (h2 : JE .sh g e me) : JS g (.Assign [.Name x px] e pos) (fun ρ => M.bind (me ρ) fun d => asgS i d ρ) := js_setS h.nd h.hi h.hx hc h2
theorem sSetF (h : Bd g i x) (hc : notComp e = true) (h2 : JE .fr g e me) : JS g (.Assign [.Name x px] e pos) (fun ρ => M.bind (me ρ) fun d => asgF i d ρ) := js_setF h.nd h.hi h.hx hc h2
theorem sRetN (h : Nm g i x) : JS g (.Return (some (.Name x px)) pos) (fun ρ => retN ρ i) := js_retN h.hN h.hv h.hd h.hcd
theorem sApp (h : Nm g i x) (hs : notStar e = true) (hl : (apos.endLine == cpos.line) = true) (h2 : JE .sh g e me) : JS g (.Expr (.Call (.Attribute (.Name x px) "append" apos) [e] [] cpos) pos) (fun ρ => ownUpd ρ i fun ds => M.bind (me ρ) fun d => M.ofO (appD ds d)) := js_append h.hN h.hv h.hd h.hcd hs hl h2
theorem sExt (h : Nm g i x) (hs : notStar e = true) (hl : (apos.endLine == cpos.line) = true) (h2 : JE .sh g e me) : JS g (.Expr (.Call (.Attribute (.Name x px) "extend" apos) [e] [] cpos) pos) (fun ρ => ownUpd ρ i fun ds => M.bind (me ρ) fun d => M.ofO (extD ds d)) := js_extend h.hN h.hv h.hd h.hcd hs hl h2
theorem gNm (h : Bd g i x) : JG g (.Name x pos) (.nm i) := jg_name h.nd h.hi h.hx
theorem gCons1 {is : List Nat} (h : Bd g i x) (t : JGs g es is) : JGs g (.Name x pos :: es) (i :: is) := jgs_cons h.nd h.hi h.hx t
theorem kLc {tg iter elt : Expr} {ifs : List Expr} {scope : Scope} {mi : Rho → M (List MS.D)} {T : Tg} {mb : Rho → M Bool} {me : Rho → M MS.D} (own : List (Str × Nat)) (hc : (decide g.N.Nodup && blkC g.N g.sc scope own && notSet iter && T.ix.all fun i => (own.map (·.2)).contains i) = true)
    (hi : JI κ g tg iter mi) (hg : JG (g.blk scope) tg T) (hb : JBs (g.blk scope) ifs mb) (he : JE .sh (g.blk scope) elt me) : JE .fr g (.ListComp elt [⟨tg, iter, ifs, 0⟩] scope pos) (fun ρ => M.bind (mi ρ) (lcD T mb me (own.map (·.2)) ρ)) := by
  simp only [Bool.and_eq_true, decide_eq_true_eq, List.all_eq_true, List.contains_iff_mem] at hc
  exact je_lc hc.1.1.1 hc.1.1.2 hc.1.2 hc.2 hi hg hb he
theorem sSetLc {tg iter elt : Expr} {ifs : List Expr} {scope : Scope} {lpos : Pos} {mi : Rho → M (List MS.D)} {T : Tg} {mb : Rho → M Bool} {me : Rho → M MS.D} (own : List (Str × Nat)) (h : Bd g i x) (hc : (decide g.N.Nodup && blkC g.N g.sc scope own && notSet iter && T.ix.all fun i => (own.map (·.2)).contains i) = true)
    (hi : JI κ g tg iter mi) (hg : JG (g.blk scope) tg T) (hb : JBs (g.blk scope) ifs mb) (he : JE .sh (g.blk scope) elt me) :
    JS g (.Assign [.Name x px] (.ListComp elt [⟨tg, iter, ifs, 0⟩] scope lpos) pos) (fun ρ => M.bind (M.bind (mi ρ) (lcD T mb me (own.map (·.2)) ρ)) fun d => asgF i d ρ) := by
  simp only [Bool.and_eq_true, decide_eq_true_eq, List.all_eq_true, List.contains_iff_mem] at hc
  exact js_setLc h.nd h.hi h.hx hc.1.1.2 hc.1.2 hc.2 hi hg hb he
theorem shNe : Kd.sh ≠ Kd.fr := nofun
theorem tpNe : Kd.tp ≠ Kd.fr := nofun
end
end MS
/-! FJ -/
namespace MS
open PySem PySem.Spec PyProof.Rows L2

def sc0 : Scope := { kind := .function, names := [], isGenerator := false, isCoroutine := false }
def W0 : WX := fun _ _ _ _ => False
def fuelW : Nat := 16777216
theorem ExOk.up {b : Bs} {N N' : List Str} {sc sc' : Scope} {k k' : Nat} {W W' : WX} {x : Str} (F : ExOk (b.g N sc k W) x) : ExOk (b.g N' sc' k' W') x := ⟨F.ex, F.mg, F.kp, F.sub, F.ty⟩
theorem ConstOk.up {b : Bs} {N N' : List Str} {sc sc' : Scope} {k k' : Nat} {W W' : WX} {x : Str} {d : D} (F : ConstOk (b.g N sc k W) x d) : ConstOk (b.g N' sc' k' W') x d := F
theorem ConstOk.blk {g : G} {scope : Scope} {x : Str} {d : D} (F : ConstOk g x d) : ConstOk (g.blk scope) x d := F
/-! return f(..) -/
section
variable {g : G} {C C' C1 : Ctx} {κ κ1 κ2 κ3 : Kd} {ρ ρ' ρ1 : Rho} {p p' p1 pb : PS} {σ σ' σ1 : L2.St} {H H' H0 H1 Hb : Hp} {d : D} {v : V} {i n : Nat} {a : Addr} {m : List D → M D} {ms : Rho → M (List D)} {D : Ends} {e : Expr} {es : List Expr} {pos px p2 p3 : Pos} {x : Str}
theorem js_retC (c : okCall g.sc x (e :: es) = true) (F : FOk g x n m) (h : JA .sh g (e :: es) ms) : JS g (.Return (some (.Call (.Name x p2) (e :: es) [] p3)) pos) (fun ρ => M.bind (M.bind (ms ρ) (callD n m)) fun d => M.pure (.rt d)) := by
  unfold okCall at c
  simp only [Bool.and_eq_true, Bool.not_eq_true', List.all_cons] at c
  obtain ⟨t, q1, r1⟩ := h.ex
  refine ⟨tRet (tCallS (FSp g.K g.T n m) (WE g.W) t), fun X o => ps_ret (pe_fn (gl c.1.1) F c.1.2.1 c.1.2.2 c.2 q1 X o), fun C ρ p σ H D R q => ?_⟩
  refine r1 C ρ p σ H _ R ?_
  cases e1 : ms ρ p with
  | stuck => simp only [M.bind, e1] at q; exact q
  | exc c p1 => simp only [M.bind, e1] at q; exact fun H' R' k' => q C ρ σ H' R' (.go k')
  | ok ds p1 =>
    simp only [M.bind, e1] at q
    intro vs H1 R1 k1 l z
    unfold callD at q
    by_cases hn : ds.length = n
    · rw [if_pos hn] at q
      refine ⟨C.pp, Sv C ρ σ, ds, p1, by rw [← l]; exact hn, R1.pre (reps_of_all l z) (fun a h => h.2.1), ?_⟩
      unfold FPost
      cases e2 : m ds p1 with
      | stuck => rw [e2] at q; exact q
      | exc c p2 =>
        rw [e2] at q
        exact fun H' k hp ht => q C ρ σ H' (R1.go k hp ht) (Stp.trans (.go k1) (.go k))
      | ok d p2 =>
        rw [e2] at q
        intro v H' k hp ht r rs
        have R2 := R1.go k hp ht
        exact q v H' ⟨R2.ext, hp, ht, r.mono (fun b w => ⟨w.1, w.2.elim (fun z => .inl (R1.ext.there b z)) fun z => z.2.2.1⟩) (Keep.refl H'), fun b e1 e2 => (rs b e1 e2).mono (fun b' w => ⟨⟨w.1.1, w.1.2.elim (fun z => .inl (R1.ext.there b' z)) fun z => z.2.2.1⟩, w.2⟩) (Keep.refl H') fun o q _ => q⟩
    · rw [if_neg hn] at q; exact q.elim
end
/-! ''.join(xs).replace(..) != y.replace(..) -/
def PEG (X : Cx) (e : Expr) (t : TE) : Prop := ∀ (pins : List (Addr × Obj)) (s : Shared) (σ : L2.St) (H : Hp) (Q : VK), Inv X pins σ H s → t σ H Q → wpAny (model X.prog X.w) X.A (eval e X.env) (fun v s' => 1 ≤ s'.toks ∧ EP X pins σ Q v s') X.xe s
section
variable {X : Cx} {o e : Expr} {te to : TE} {y z : Str} {j k : Nat} {c0 c1 apos pos p p' : Pos}
theorem peg_m1c {id : String} {name s0 : Str} {r : V → List V → Hp → VK → Prop} (slot : Slot "str" name id) (ty : typeOf (.builtin id) = pure (.type "method_descriptor")) (rule : MtR X id r) (he : PE X e te)
    (hs : starEach [e] X.env = [(false, eval e X.env)]) (hline : (apos.endLine == pos.line) = true) :
    PEG X (.Call (.Attribute (.Constant (.str s0) j c0) name apos) [e] [] pos) (tM1 r (tC (.str s0)) te) := by
  intro pins s σ H Q I h
  refine PySem.Call_method1 rfl hs hline (Calls.Constant_str ?_)
  obtain ⟨_, q1⟩ := h
  refine ⟨"str", _, PySem.F.plainAttrs_str, slot, ty, typeIs_str _ _ _, (fun _ e => nomatch e), Calls.callWith_builtin rfl (Calls.evalArgs_plain (Calls.spliced_cons ?_))⟩
  refine wpAny_mono (PySem.wpAny_toks_of (n := 1) (by show 1 ≤ s.toks + 1; omega) (he.run pins _ σ H _ (I.tok _) q1)) (fun u s2 q => ?_) fun _ _ z => z.2
  obtain ⟨hk, y, H2, I2, r2, q2⟩ := q
  exact Calls.spliced_nil (wpAny_mono (PySem.wpAny_toks_of hk (rule pins s2 σ H2 (.str s0) [y] _ [u] Q I2 ⟨_, rfl⟩ (.cons r2 .nil) q2)) (fun _ _ z => z) fun _ _ z => z.2)
theorem peg_repl (ho : PEG X o to) (hyz : (y == z) = false)
    (hbase : attributeBase o "replace" X.env (eval o X.env) = eval o X.env) (hline : (apos.endLine == pos.line) = true) :
    PEG X (.Call (.Attribute o "replace" apos) [.Constant (.str y) j c0, .Constant (.str z) k c1] [] pos) (CwR.tReplC to y z) := by
  intro pins s σ H Q I h
  refine PySem.Call_method2 hbase rfl hline (wpAny_mono (ho pins s σ H _ I h) (fun v s1 q => ?_) fun _ _ z => z)
  obtain ⟨hk, v', H1, I1, r1, x, e1, hb, q⟩ := q
  subst e1
  obtain ⟨tx, e2⟩ := r1
  subst e2
  refine ⟨"str", _, PySem.F.plainAttrs_str, PySem.F.slot_str_replace, PySem.F.type_str_replace, typeIs_str _ _ _, (fun _ e => nomatch e), Calls.callWith_builtin rfl (Calls.evalArgs_plain (Calls.spliced_cons ?_))⟩
  refine Calls.Constant_str (Calls.spliced_cons (Calls.Constant_str (Calls.spliced_nil ?_)))
  refine wpAny_mono (PySem.wpAny_toks_of (n := 1) (Q := EP X pins σ Q) (by show 1 ≤ s1.toks + 1 + 1; omega) ?_) (fun _ _ z => z) fun _ _ z => z.2
  exact PySem.SC.replace (by show s1.toks ≠ 0; omega) (by show s1.toks + 1 ≠ 0; omega) (by show s1.toks ≠ s1.toks + 1; omega) hyz hb fun t' k => ⟨.str (Txt.replace x y z), H1, I1.tok k, ⟨t', rfl⟩, q⟩
theorem pt_cmpG {a b : Expr} {ta tb : TE} {op : CmpOp} {r : R2} (ho : OpR X (compareOp op) r) (ha : PEG X a ta) (hb : PET X b tb) (hm : behindInMarks op b = false) : PT X (.Compare a [op] [b] pos) (tTest (tOp r ta tb)) := by
  refine ⟨fun pins s σ H Q I h => ?_⟩
  refine wpAny_isTrue_Compare1 (wpAny_mono (ha pins s σ H _ I h) (fun v s1 ⟨hk, x, H1, I1, r1, q1⟩ => thn (hb pins s1 σ H1 _ hk I1 q1) fun u s2 ⟨y, H2, I2, r2, q2⟩ =>
    thn (ho pins s2 σ H2 x y v u _ I2 r1 r2 q2) fun c s3 ⟨z, H3, I3, r3, k, e, q3⟩ => ?_) fun _ _ z => z) hm
  subst e
  cases r3
  exact wpAny_truthy_bool ⟨H3, I3, q3⟩
end
section
variable {g : G} {κ κ1 κ2 : Kd} {a b : Expr} {ma mb : Rho → M D}
theorem tr_m1 {r : V → List V → Hp → VK → Prop} {f : D → D → M D} {ta tb : TE}
    (hf : ∀ C ρ p σ H0 H x y v w Q, Rel g C ρ p σ H → RPK κ1 g C ρ σ H0 H x v → RPK κ2 g C ρ σ H0 H y w → Post .fr g C ρ σ H (f x y p) Q → (∃ a, v = .str a) ∧ r v [w] H Q)
    (r1 : TR κ1 g ta ma) (r2 : TR κ2 g tb mb) (hstr : ∀ ρ p d p', ma ρ p = .ok d p' → ∃ s, d = .str s) : TR .fr g (tM1 r ta tb) (fun ρ => M.bind (ma ρ) fun x => M.bind (mb ρ) fun y => f x y) := fun C ρ p σ H Q R q => by
  refine r1 C ρ p σ H _ R ?_
  cases e1 : ma ρ p with
  | exc c p' => simp only [bind_exc e1] at q; exact q
  | stuck => simp only [bind_stuck e1] at q; exact q
  | ok x p1 =>
    obtain ⟨s, rfl⟩ := hstr ρ p x p1 e1
    simp only [bind_ok e1] at q
    intro v H1 R1 k1 z1
    refine ⟨⟨s, (rt_str z1.tp).1⟩, r2 C ρ p1 σ H1 _ R1 ?_⟩
    cases e2 : mb ρ p1 with
    | exc c p' => simp only [bind_exc e2] at q; exact fun H' R' k' => q H' R' (k1.trans k')
    | stuck => simp only [bind_stuck e2] at q; exact q
    | ok y p2 =>
      simp only [bind_ok e2] at q
      intro w H2 R2 k2 z2
      exact (hf C ρ p2 σ H H2 _ y v w Q R2 (z1.keep k2) (z2.from k1) (Post.from (k1.trans k2) q)).2
def rJoin (K : PySem.W.Frag) : V → List V → Hp → VK → Prop := fun x xs H Q => ∃ a p, ∃ ys : List Str, x = .str a ∧ xs = [.ref p] ∧ (SqL K H p (ys.map V.str) ∨ SqT K H p (ys.map V.str)) ∧
    (ys.map (·.length)).sum + ys.length * a.length ≤ 16777216 ∧ Q (.str (Txt.join a ys)) H
theorem join_hf : ∀ C ρ p σ H0 H x y v w Q, Rel g C ρ p σ H → RPK κ1 g C ρ σ H0 H x v → RPK κ2 g C ρ σ H0 H y w → Post .fr g C ρ σ H (dJoin x y p) Q → (∃ a, v = .str a) ∧ rJoin g.K v [w] H Q := by
  intro C ρ p σ H0 H x y v w Q R z1 z2 q
  have fin : ∀ {a : Str} {ss : List Str} {xs : List D} {ws : List V}, PyData.strOk a = true → RSs g C ρ σ H xs ws → strsOf xs = some ss → (ss.map (·.length)).sum + ss.length * a.length ≤ sizeLine → Post .fr g C ρ σ H (.ok (.str (Str.join a ss)) p) Q → Q (.str (Txt.join a ss)) H := fun {a ss xs ws} o1 r e hz q => by
    obtain ⟨_, h2⟩ := strsOf_rep r e
    rw [txt_join]
    exact Post.ret R q (fr_str (Nat.le_trans (StrLaws.join_length_le a ss) hz) (join_ok o1 fun s hs => (h2 s hs).2))
  cases x with
  | str s =>
    obtain ⟨rfl, l1, o1⟩ := rt_str z1.tp
    cases y with
    | lst ds =>
      obtain ⟨a1, vs, rfl, _, h1, _, s1⟩ := rt_lst z2.tp
      simp only [dJoin] at q
      cases e : strsOf ds with
      | none => rw [e] at q; exact q.elim
      | some ss =>
        rw [e] at q
        simp only [] at q
        split at q
        · rename_i hz
          obtain ⟨h2, _⟩ := strsOf_rep s1 e
          subst h2
          exact ⟨⟨_, rfl⟩, s, a1, ss, rfl, rfl, .inl (SqL.of h1), by rw [← sizeLine_eq]; exact hz, fin o1 s1 e hz q⟩
        · exact q.elim
    | tup ds =>
      obtain ⟨a1, vs, rfl, h1, _, s1⟩ := rt_tup z2.tp
      simp only [dJoin] at q
      cases e : strsOf ds with
      | none => rw [e] at q; exact q.elim
      | some ss =>
        rw [e] at q
        simp only [] at q
        split at q
        · rename_i hz
          obtain ⟨h2, _⟩ := strsOf_rep s1 e
          subst h2
          exact ⟨⟨_, rfl⟩, s, a1, ss, rfl, rfl, .inr h1, by rw [← sizeLine_eq]; exact hz, fin o1 s1 e hz q⟩
        · exact q.elim
    | _ => exact q.elim
  | _ => exact q.elim
/-- x.replace(y, z) of texts -/
def dRepl (y z : Str) (x : D) : M D := match x with
  | .str a => if a.length + (a.length + 1) * z.length ≤ 16777216 ∧ PyData.strOk (Txt.replace a y z) = true then M.pure (.str (Txt.replace a y z)) else M.stuck
  | _ => M.stuck
theorem tr_repl {t : TE} {y z : Str} (h : TR κ g t ma) : TR .fr g (CwR.tReplC t y z) (fun ρ => M.bind (ma ρ) (dRepl y z)) := TR.seq (k := fun _ v H1 Q => ∃ x, v = .str x ∧ x.length + (x.length + 1) * z.length ≤ 16777216 ∧ Q (.str (Txt.replace x y z)) H1) (f := fun _ x => dRepl y z x) h fun C ρ p σ H0 H x v Q R _ zz q => by
  cases x with
  | str s =>
    obtain ⟨rfl, l1, o1⟩ := rt_str zz.tp
    unfold dRepl at q
    simp only [] at q
    split at q
    · rename_i hh
      exact ⟨s, rfl, hh.1, Post.ret R q (fr_str (Nat.le_trans (TK.replace_len s y z) (by rw [sizeLine_eq]; exact hh.1)) hh.2)⟩
    · exact q.elim
  | _ => exact q.elim
def replNe (s0 y z y2 z2 : Str) (m0 m1 : M D) : M Bool := M.bind (M.bind (M.bind (isStr (M.pure (.str s0))) fun x => M.bind m0 fun l => dJoin x l) (dRepl y z)) fun a => M.bind (M.bind m1 (dRepl y2 z2)) fun b => cmpD .NotEq a b
theorem jb_replNe {s0 y z y2 z2 : Str} {j0 j1 j2 j3 j4 : Nat} {p0 p1 p2 p3 p4 ap1 cp1 ap2 cp2 ap3 cp3 pos : Pos}
    (hc : (decide (s0.length ≤ sizeLine) && PyData.strOk s0 && !(y == z) && !(y2 == z2) && notStar a && notSup b && (ap1.endLine == cp1.line) && (ap2.endLine == cp2.line) && (ap3.endLine == cp3.line)) = true) (ha : JE κ1 g a ma) (hb : JE κ2 g b mb) :
    JB g (.Compare (.Call (.Attribute (.Call (.Attribute (.Constant (.str s0) j0 p0) "join" ap1) [a] [] cp1) "replace" ap2) [.Constant (.str y) j1 p1, .Constant (.str z) j2 p2] [] cp2) [.NotEq] [.Call (.Attribute b "replace" ap3) [.Constant (.str y2) j3 p3, .Constant (.str z2) j4 p4] [] cp3] pos)
      (fun ρ => replNe s0 y z y2 z2 (ma ρ) (mb ρ)) := by
  simp only [Bool.and_eq_true, Bool.not_eq_true', decide_eq_true_eq] at hc
  obtain ⟨⟨⟨⟨⟨⟨⟨⟨h1, h2⟩, h3⟩, h4⟩, h5⟩, h6⟩, h7⟩, h8⟩, h9⟩ := hc
  obtain ⟨ta, a1, a2⟩ := ha.ex
  obtain ⟨tb, b1, b2⟩ := hb.ex
  have rs : TR .fr g (tC (.str s0)) (fun _ => isStr (M.pure (.str s0))) := fun C ρ p σ H Q R q => Post.ret R q (fr_str h1 h2)
  have rj := tr_repl (y := y) (z := z) (tr_m1 (ma := fun _ => isStr (M.pure (.str s0))) join_hf rs a2 (fun ρ p d p' => isStr_str))
  have rb := tr_repl (y := y2) (z := z2) b2
  refine ⟨tTest (tOp (rCmp g.K .NotEq) (CwR.tReplC (tM1 (rJoin g.K) (tC (.str s0)) ta) y z) (CwR.tReplC tb y2 z2)), fun X o => ?_, fun C ρ p σ H Q R q => ?_⟩
  · have hj : PEG X (.Call (.Attribute (.Constant (.str s0) j0 p0) "join" ap1) [a] [] cp1) (tM1 (rJoin g.K) (tC (.str s0)) ta) := peg_m1c PySem.F.slot_str_join PySem.F.type_str_join (by rw [← o.K]; exact mt_join) (a1 X o) (by rw [star_ok h5]; rfl) h7
    exact pt_cmpG (cmpR_ok X o) (peg_repl hj h3 rfl h8) (CwR.pet_replC (b1 X o) h4 rfl (attr_ok h6 _ _) h9) rfl
  · refine TR.op2 (r := rCmp g.K .NotEq) (f := fun x y => M.bind (cmpD .NotEq x y) fun r => M.pure (.bl r)) (κ := .fr) rj rb (fun C ρ p σ H0 H x y v w Q R z1 z2 q => ?_) C ρ p σ H _ R ?_
    · rcases cmpD_cases .NotEq x y p with e | ⟨r, e1, e2⟩
      · simp only [bind_stuck e] at q; exact q.elim
      · simp only [bind_ok e2] at q
        exact cmpR.tells C ρ p σ H x y v w Q r R z1.tp z2.tp e1 (Post.ret R q fr_bl)
    · unfold replNe at q
      show Post .fr g C ρ σ H (M.bind (M.bind (M.bind (isStr (M.pure (.str s0))) fun x => M.bind (ma ρ) fun l => dJoin x l) (dRepl y z)) (fun a => M.bind (M.bind (mb ρ) (dRepl y2 z2)) fun b => M.bind (cmpD .NotEq a b) fun r => M.pure (.bl r)) p) _
      cases e1 : (M.bind (M.bind (isStr (M.pure (.str s0))) fun x => M.bind (ma ρ) fun l => dJoin x l) (dRepl y z)) p with
      | stuck => simp only [bind_stuck e1] at q; exact q.elim
      | exc c p1 => simp only [bind_exc e1] at q ⊢; exact q
      | ok x p1 =>
        simp only [bind_ok e1] at q ⊢
        cases e2 : M.bind (mb ρ) (dRepl y2 z2) p1 with
        | stuck => simp only [bind_stuck e2] at q; exact q.elim
        | exc c p2 => simp only [bind_exc e2] at q ⊢; exact q
        | ok y p2 =>
          simp only [bind_ok e2] at q ⊢
          cases e3 : cmpD .NotEq x y p2 with
          | stuck => rw [e3] at q; exact q.elim
          | exc c p3 => rw [e3] at q; simp only [bind_exc e3]; exact q
          | ok r p3 =>
            rw [e3] at q
            simp only [bind_ok e3]
            intro v H' R' k' z
            rw [rt_bl z.tp]
            exact ⟨r, rfl, q H' R' k'⟩
end
end MS
/-! FK -/
namespace MS
open PySem PySem.Spec PyProof.Rows L2

/-! ### the script's pen -/
def rLi (K : PySem.W.Frag) : List V → Hp → VK → Prop := fun xs H Q => ∃ p ys, xs = [.ref p] ∧ (SqL K H p ys ∨ SqT K H p ys) ∧ ∀ l, H l = none → Q (.ref l) (upd H l (.lst ys))
def tPen (K : PySem.W.Frag) : TS := tRet (tLst (tCons (tCB (rLi K) (tCons (tSl (rSlL K) (tVar 0) tNoPart (tPart (tC (.int 63)))) tNil)) (tCons (tC (.int 0)) (tCons (tC (.int 0)) tNil))))
def spPen (K : PySem.W.Frag) : Sp := fun vs H Q _ => ∃ (a : Addr) (ns : List Int), vs = [.ref a] ∧ SqL K H a (ns.map V.int) ∧ ns.length ≤ 63 ∧
  ∀ (pa ca : Addr) (H' : Hp), ca ≠ pa → H' pa = some (.lst [.ref ca, .int 0, .int 0]) → H' ca = some (.lst (ns.map V.int)) → Q (.ref pa) H'
theorem cut63 {xs : List V} (h : xs.length ≤ 63) : cutV xs none (some 63) = xs := by
  unfold cutV
  have h1 : HT.sIx xs.length 0 none = 0 := by unfold HT.sIx; rfl
  have h2 : HT.sIx xs.length xs.length (some 63) = xs.length := by
    unfold HT.sIx
    simp
    omega
  rw [h1, h2]
  simp
theorem tPen_of {K : PySem.W.Frag} {vs : List V} {H : Hp} {Q : VK} {E : XK} (h : spPen K vs H Q E) : tPen K { nx := fun _ H' => Q .non H', rt := Q } (L2.start ["script"] vs) H := by
  obtain ⟨a, ns, rfl, hs, hl, q⟩ := h
  refine ⟨.ref a, rfl, 63, rfl, a, ns.map V.int, rfl, hs, fun p1 n1 => ⟨p1, cutV (ns.map V.int) none (some 63), rfl, .inl (SqL.of upd_same), fun p2 n2 => ⟨by show 3 ≤ sizeLine; rw [sizeLine_eq]; decide, fun p3 n3 => ?_⟩⟩⟩
  have e : p2 ≠ p3 := fun e => by
    subst e
    rw [upd_same] at n3
    cases n3
  exact q p3 p2 _ e upd_same (by rw [upd_ne e, upd_same, cut63 (by rw [List.length_map]; exact hl)])
theorem fn_pen {b : Bs} {params : Arguments} {body : List Stmt} {scope : Scope} {f : Addr} {fd : FuncData} {k : Nat} (F : FunD b.K "_law_pen" "_law_pen" params body scope [] [] f fd) (S : FnScope ["script"] ["script"] scope)
    (hm : ∀ W X, (b.g ["script"] scope k W).Ok X → PSs X body (tPen b.K)) : FnOk b.P b.w b.K b.mg b.base (L2.CX b.P b.w) (k + 1) f fd ["script"] (spPen b.K) := by
  refine F.ok S (fun vs H Q E h => ?_) (fun cdv A outer s H vs Q E hr h => ⟨tPen b.K, hm (fun cls d _ H' => E cls d H') _ ⟨rfl, rfl, rfl, rfl, rfl, rfl, rfl, rfl, hr, takes_of rfl rfl rfl rfl, passes_of (X := cxOf (L2.CX b.P b.w) b.P b.w b.K b.mg b.base ["script"] "_law_pen" scope f cdv A outer s H E) rfl, fun _ _ => rfl⟩, tPen_of h⟩)
  obtain ⟨_, _, rfl, _⟩ := h
  rfl
/-! ### the law's def -/
def spLaw (K : PySem.W.Frag) : Sp := fun vs H Q _ => ∃ (a : Addr) (ns : List Int), vs = [.ref a] ∧ SqL K H a (ns.map V.int) ∧ ns.length ≤ 63 ∧ ∀ H', Q (.bl true) H'
def lawR (n : Nat) : Rho := .un :: .val .pen :: List.replicate (n - 2) .un
theorem fn_law {b : Bs} {params : Arguments} {rest : List Stmt} {s0 : Stmt} {scope : Scope} {f fP : Addr} {fd fdP : FuncData} {k : Nat} {N : List Str} {p0 p3 px p1 p2 : Pos} {m : Rho → M Out} (hT : b.T = []) (F : FunD b.K "law" "law" params (s0 :: rest) scope [] [] f fd) (S : FnScope ("script" :: "pen" :: N) ["script"] scope)
    (hs0 : s0 = .Assign [.Name "pen" px] (.Call (.Name "_law_pen" p1) [.Name "script" p2] [] p0) p3)
    (FP : FnOk b.P b.w b.K b.mg b.base (L2.CX b.P b.w) k fP fdP ["script"] (spPen b.K)) (hP : b.mg "_law_pen" = some (.ref fP)) (kP : PySem.W.keepIn b.K (.ref fP) = true) (bP : Binds b.K fdP ["script"] []) (hg : scope.names.lookup ("_law_pen" : Str) = some .globalImplicit)
    (hv : visB scope "script" = true) (hb : bdB ("script" :: "pen" :: N) scope (fun _ => true) 1 "pen" = true)
    (hm : ∀ W, JSs (b.g ("script" :: "pen" :: N) scope k W) rest m)
    (law : ∀ ns : List Int, ns.length ≤ 63 → ∃ p', m (lawR (N.length + 2)) (some ⟨ns, 0, 0⟩) = .ok (.rt (.bl true)) p') :
    FnOk b.P b.w b.K b.mg b.base CX0 (k + 1) f fd ["script"] (spLaw b.K) := by
  subst hs0
  refine F.ok S (fun vs H Q E h => ?_) (fun cdv A outer s H vs Q E hr h => ?_)
  · obtain ⟨_, _, rfl, _⟩ := h
    rfl
  obtain ⟨t, a1, a2⟩ := (hm (fun _ _ _ _ => False)).ex
  have o : (b.g ("script" :: "pen" :: N) scope k (fun _ _ _ _ => False)).Ok (cxOf CX0 b.P b.w b.K b.mg b.base ("script" :: "pen" :: N) "law" scope f cdv A outer s H E) := ⟨rfl, rfl, rfl, rfl, rfl, rfl, rfl, rfl, hr, takes0, passes_of (X := cxOf CX0 b.P b.w b.K b.mg b.base ("script" :: "pen" :: N) "law" scope f cdv A outer s H E) rfl, fun _ _ => rfl⟩
  have B : Bd (b.g ("script" :: "pen" :: N) scope k (fun _ _ _ _ => False)) 1 "pen" := bd hb
  refine ⟨tSeq (tAsg (tCallS (spPen b.K) (WE fun _ _ _ _ => False) (tCons (tVar 0) tNil)) (gName 1)) t, pss_cons (ps_set B.nd B.hi (g_loc o B.hx).1 (pe_callS FP hr hg hP kP bP (fun σ => passAt o.tk σ) (pa_cons (pe_var rfl (vis_of hv) (by decide) (by decide)) pa_nil) (by decide)) (swaps_no rfl _ _ _) (g_loc o B.hx).2) (a1 _ o), ?_⟩
  obtain ⟨a, ns, rfl, hS, hl, q⟩ := h
  refine ⟨.ref a, rfl, a, ns, rfl, hS, hl, fun pa ca H' hne h1 h2 => ?_⟩
  obtain ⟨p', hlaw⟩ := law ns hl
  have R : Rel (b.g ("script" :: "pen" :: N) scope k (fun _ _ _ _ => False)) { pp := some (pa, ca), H0 := H', Sa := fun _ => False } (lawR (N.length + 2)) (some ⟨ns, 0, 0⟩) ((L2.start ("script" :: "pen" :: N) [.ref a]).set 1 (some (.ref pa))) H' := {
    len := by unfold L2.start lawR; simp
    ext := Keep.refl H'
    pen := ⟨hne, h1, h2, Nat.le_trans hl (by rw [sizeLine_eq]; decide)⟩
    pen0 := fun pa' ca' e => by cases e; exact ⟨⟨_, h1⟩, ⟨_, h2⟩, hne⟩
    tab := fun q hq => by rw [show (b.g ("script" :: "pen" :: N) scope k (fun _ _ _ _ => False)).T = [] from hT] at hq; cases hq
    val := fun i d e => by
      match i with
      | 0 => cases e
      | 1 =>
        cases e
        exact ⟨.ref pa, rfl, by unfold Rep; exact ⟨pa, rfl, rfl⟩⟩
      | i + 2 =>
        have := List.mem_of_getElem? (show (List.replicate (N.length + 2 - 2) Cel.un)[i]? = some (.val d) from e)
        have := List.eq_of_mem_replicate this
        cases this
    own := fun i d e => by
      match i with
      | 0 => cases e
      | 1 => cases e
      | i + 2 =>
        have := List.mem_of_getElem? (show (List.replicate (N.length + 2 - 2) Cel.un)[i]? = some (.own d) from e)
        have := List.eq_of_mem_replicate this
        cases this
    exs := fun a ha => by cases ha
    inj := fun i j d d' a e => by
      match i with
      | 0 => cases e
      | 1 => cases e
      | i + 2 =>
        have := List.mem_of_getElem? (show (List.replicate (N.length + 2 - 2) Cel.un)[i]? = some (.own d) from e)
        have := List.eq_of_mem_replicate this
        cases this }
  refine a2 _ _ _ _ H' _ R ?_
  rw [hlaw]
  intro v H1 r
  have := r.rep
  unfold Rep at this
  subst this
  exact q H1
end MS
/-! FP -/
namespace MS
open PySem PySem.Spec PyProof.Rows L2

/-! ### running mirrors -/
section
variable {α β γ : Type} {m : M α} {f : α → M β} {h : β → M γ} {a : α} {p p' : PS} {ρ ρ' : Rho} {d : D} {k : Rho → M Out} {i j : Nat}
@[simp] theorem pure_bind' : M.bind (M.pure a) f = f a := id rfl
@[simp] theorem stuck_bind : M.bind (M.stuck : M α) f = M.stuck := id rfl
@[simp] theorem throw_bind {c : Str} : M.bind (M.throw c : M α) f = M.throw c := id rfl
@[simp] theorem bind_bind' : M.bind (M.bind m f) h = M.bind m fun x => M.bind (f x) h := by
  funext p
  unfold M.bind
  cases m p <;> rfl
@[simp] theorem ite_bind {c : Prop} [Decidable c] {m m' : M α} : M.bind (if c then m else m') f = if c then M.bind m f else M.bind m' f := by split <;> rfl
@[simp] theorem thenO_nx' : thenO (M.pure (.nx ρ)) k = k ρ := id rfl
@[simp] theorem thenO_rt : thenO (M.pure (.rt d)) k = M.pure (.rt d) := id rfl
@[simp] theorem thenO_bk : thenO (M.pure (.bk ρ)) k = M.pure (.bk ρ) := id rfl
@[simp] theorem thenO_ct : thenO (M.pure (.ct ρ)) k = M.pure (.ct ρ) := id rfl
@[simp] theorem thenO_throw {c : Str} : thenO (M.throw c) k = M.throw c := id rfl
@[simp] theorem thenO_bind {f : α → M Out} : thenO (M.bind m f) k = M.bind m fun x => thenO (f x) k := by unfold thenO; rw [bind_bind']
@[simp] theorem thenO_thenO {m : M Out} {k k' : Rho → M Out} : thenO (thenO m k) k' = thenO m fun ρ => thenO (k ρ) k' := by
  funext p
  unfold thenO M.bind
  cases m p with
  | ok o p' => cases o <;> rfl
  | exc c p' => rfl
  | stuck => rfl
@[simp] theorem thenO_ite {c : Prop} [Decidable c] {m m' : M Out} : thenO (if c then m else m') k = if c then thenO m k else thenO m' k := by split <;> rfl
@[simp] theorem getT_0 : getT (.val d :: ρ) 0 = M.pure d := id rfl
@[simp] theorem getT_0o : getT (.own d :: ρ) 0 = M.pure d := id rfl
@[simp] theorem getT_s {c : Cel} : getT (c :: ρ) (i + 1) = getT ρ i := id rfl
@[simp] theorem getS_0 : getS (.val d :: ρ) 0 = M.pure d := id rfl
@[simp] theorem getS_s {c : Cel} : getS (c :: ρ) (i + 1) = getS ρ i := id rfl
@[simp] theorem retN_0 : retN (.own d :: ρ) 0 = M.pure (.rt d) := id rfl
@[simp] theorem retN_0v : retN (.val d :: ρ) 0 = retS d := id rfl
@[simp] theorem retN_s {c : Cel} : retN (c :: ρ) (i + 1) = retN ρ i := id rfl
@[simp] theorem asgS_def : asgS i d ρ = M.pure (.nx (ρ.set i (.val d))) := id rfl
@[simp] theorem asgF_lst {xs : List D} : asgF i (.lst xs) ρ = if i < ρ.length then M.pure (.nx (ρ.set i (.own (.lst xs)))) else M.stuck := id rfl
@[simp] theorem asgF_str {s : Str} : asgF i (.str s) ρ = M.pure (.nx (ρ.set i (.val (.str s)))) := id rfl
@[simp] theorem asgF_int {s : Int} : asgF i (.int s) ρ = M.pure (.nx (ρ.set i (.val (.int s)))) := id rfl
@[simp] theorem asgF_bl {s : Bool} : asgF i (.bl s) ρ = M.pure (.nx (ρ.set i (.val (.bl s)))) := id rfl
@[simp] theorem asgF_non : asgF i .non ρ = M.pure (.nx (ρ.set i (.val .non))) := id rfl
@[simp] theorem asgF_tup {s : List D} : asgF i (.tup s) ρ = M.pure (.nx (ρ.set i (.val (.tup s)))) := id rfl
@[simp] theorem retS_str {s : Str} : retS (.str s) = M.pure (.rt (.str s)) := id rfl
@[simp] theorem retS_int {s : Int} : retS (.int s) = M.pure (.rt (.int s)) := id rfl
@[simp] theorem retS_bl {s : Bool} : retS (.bl s) = M.pure (.rt (.bl s)) := id rfl
@[simp] theorem retS_non : retS .non = M.pure (.rt .non) := id rfl
@[simp] theorem retS_tup {s : List D} : retS (.tup s) = M.pure (.rt (.tup s)) := id rfl
@[simp] theorem isStr_def {s : Str} : isStr (M.pure (.str s)) = M.pure (.str s) := id rfl
@[simp] theorem ofO_some : M.ofO (some a) = M.pure a := id rfl
@[simp] theorem dTru_bl {b : Bool} : dTru (.bl b) = M.pure b := id rfl
@[simp] theorem dLen_lst {xs : List D} : dLen (.lst xs) = M.pure (.int xs.length) := id rfl
@[simp] theorem dLen_tup {xs : List D} : dLen (.tup xs) = M.pure (.int xs.length) := id rfl
@[simp] theorem dLen_str {s : Str} : dLen (.str s) = M.pure (.int s.length) := id rfl
@[simp] theorem dAdd_int {x y : Int} : dAdd (.int x) (.int y) = M.pure (.int (x + y)) := id rfl
@[simp] theorem dSub_int {x y : Int} : dSub (.int x) (.int y) = M.pure (.int (x - y)) := id rfl
@[simp] theorem itemsD_lst {xs : List D} : itemsD (.lst xs) = M.pure xs := id rfl
@[simp] theorem itemsD_tup {xs : List D} : itemsD (.tup xs) = M.pure xs := id rfl
@[simp] theorem asInt_int {x : Int} : asInt (.int x) = M.pure (some x) := id rfl
@[simp] theorem dIsi_def {T : Ty} : dIsi T d = M.ofO ((isi T d).map .bl) := id rfl
@[simp] theorem cmp_lt {x y : Int} : cmpD .Lt (.int x) (.int y) = M.pure (decide (x < y)) := id rfl
@[simp] theorem cmp_le {x y : Int} : cmpD .LtE (.int x) (.int y) = M.pure (decide (x ≤ y)) := id rfl
@[simp] theorem cmp_gt {x y : Int} : cmpD .Gt (.int x) (.int y) = M.pure (decide (y < x)) := id rfl
@[simp] theorem cmp_ge {x y : Int} : cmpD .GtE (.int x) (.int y) = M.pure (decide (y ≤ x)) := id rfl
@[simp] theorem cmp_eqi {x y : Int} : cmpD .Eq (.int x) (.int y) = M.pure (decide (x = y)) := by
  show M.ofO (some (x == y)) = _
  rfl
@[simp] theorem cmp_eqs {x y : Str} : cmpD .Eq (.str x) (.str y) = M.pure (decide (x = y)) := by
  show M.ofO (some (x == y)) = _
  rfl
@[simp] theorem cmp_nes {x y : Str} : cmpD .NotEq (.str x) (.str y) = M.pure (!decide (x = y)) := by
  show M.ofO (some (!(x == y))) = _
  rfl
@[simp] theorem cmp_nei {x y : Int} : cmpD .NotEq (.int x) (.int y) = M.pure (!decide (x = y)) := by
  show M.ofO (some (!(x == y))) = _
  rfl
@[simp] theorem calm_pure : M.calm (M.pure a) = M.pure a := id rfl
@[simp] theorem optCons_none {r : List D} : optCons none r = r := id rfl
@[simp] theorem optCons_some {r : List D} : optCons (some d) r = d :: r := id rfl
theorem lcLoop_pure {f : D → M (Option D)} {g : D → Option D} : ∀ {ds : List D}, (∀ d ∈ ds, f d = M.pure (g d)) → lcLoop f ds = M.pure (ds.filterMap g)
  | [], _ => rfl
  | d :: ds, h => by
    unfold lcLoop
    rw [h d (by simp), pure_bind', lcLoop_pure fun x hx => h x (by simp [hx]), pure_bind', List.filterMap_cons]
    cases g d <;> rfl
theorem lcLoop_strs {f : D → M (Option D)} {g : Str → Option D} : ∀ {l : List Str}, (∀ w ∈ l, f (.str w) = M.pure (g w)) → lcLoop f (l.map .str) = M.pure (l.filterMap g)
  | [], _ => rfl
  | d :: ds, h => by
    simp only [List.map_cons]
    unfold lcLoop
    rw [h d (by simp), pure_bind', lcLoop_strs fun x hx => h x (by simp [hx]), pure_bind', List.filterMap_cons]
    cases g d <;> rfl
theorem lcLoop_filter {f : D → M (Option D)} {q : Str → Bool} : ∀ {l : List Str}, (∀ w ∈ l, f (.str w) = M.pure (if q w = true then some (.str w) else none)) → lcLoop f (l.map .str) = M.pure ((l.filter q).map .str)
  | [], _ => rfl
  | d :: ds, h => by
    simp only [List.map_cons]
    unfold lcLoop
    rw [h d (by simp), pure_bind', lcLoop_filter fun x hx => h x (by simp [hx]), pure_bind', List.filter_cons]
    cases q d <;> rfl
theorem lcLoop_map {f : D → M (Option D)} {g : D → D} : ∀ {l : List D}, (∀ w ∈ l, f w = M.pure (some (g w))) → lcLoop f l = M.pure (l.map g)
  | [], _ => rfl
  | d :: ds, h => by
    unfold lcLoop
    rw [h d (by simp), pure_bind', lcLoop_map fun x hx => h x (by simp [hx]), pure_bind']
    rfl
@[simp] theorem callT_def {n : Nat} {m : List D → M D} {ds : List D} : callT n m ds = if ds.length = n then M.bind (m ds) (fun d => if d.noL = true then M.pure d else M.stuck) else M.stuck := id rfl
@[simp] theorem callF_def {n : Nat} {m : List D → M D} {ds : List D} : callF n m ds = if ds.length = n ∧ noLs ds = true then m ds else M.stuck := id rfl
@[simp] theorem callD_def {n : Nat} {m : List D → M D} {ds : List D} : callD n m ds = if ds.length = n then m ds else M.stuck := id rfl
@[simp] theorem noLs_nil : noLs [] = true := id rfl
@[simp] theorem noLs_cons {ds : List D} : noLs (d :: ds) = (d.noL && noLs ds) := id rfl
@[simp] theorem noL_str {s : Str} : (D.str s).noL = true := id rfl
@[simp] theorem noL_int {s : Int} : (D.int s).noL = true := id rfl
@[simp] theorem noL_bl {s : Bool} : (D.bl s).noL = true := id rfl
@[simp] theorem noL_non : D.non.noL = true := id rfl
@[simp] theorem noL_pen : D.pen.noL = true := id rfl
@[simp] theorem noL_tup {ds : List D} : (D.tup ds).noL = noLs ds := id rfl
@[simp] theorem forL_nil {T : Tg} {mb : Rho → M Out} : forL T mb [] ρ = M.pure (.nx ρ) := id rfl
@[simp] theorem forL_nm {mb : Rho → M Out} {ds : List D} : forL (.nm i) mb (d :: ds) ρ = M.bind (mb (ρ.set i (.val d))) fun o => match o with
      | .nx ρ' => forL (.nm i) mb ds ρ'
      | .ct ρ' => forL (.nm i) mb ds ρ'
      | .bk ρ' => M.pure (.nx ρ')
      | .rt d => M.pure (.rt d) := id rfl
theorem noLs_map_str {l : List Str} : noLs (l.map D.str) = true := by
  induction l with
  | nil => rfl
  | cons x l ih => simpa using ih
end
end MS
/-! FQ -/
namespace MS
open PySem PySem.Spec PyProof.Rows L2

/-! ### the pen's draws -/
def m_draw : Rho → M Out := fun ρ =>
  thenO (M.bind (M.bind (penGet ρ 0 2) fun x => M.bind (M.pure (.int 0)) fun y => cmpD .Gt x y) fun b => if b = true then (thenO (M.bind (M.bind (penGet ρ 0 2) fun x => M.bind (getT ρ 1) fun y => dMod x y) fun d => asgF 5 d ρ) fun ρ =>
  thenO (M.bind (M.bind (penGet ρ 0 2) fun x => M.bind (getT ρ 1) fun y => dDiv x y) (penSet ρ 0 2)) fun ρ =>
  retN ρ 5) else (M.pure (.nx ρ))) fun ρ =>
  thenO (M.bind (penGet ρ 0 1) fun d => asgF 2 d ρ) fun ρ =>
  thenO (M.bind (M.bind (getT ρ 2) fun x => M.bind (M.pure (.int 1)) fun y => dAdd x y) (penSet ρ 0 1)) fun ρ =>
  thenO (M.bind (M.pure (.int 7)) fun d => asgF 3 d ρ) fun ρ =>
  thenO (M.bind (M.bind (penLen ρ 0) fun x => M.bind (M.pure (.int 0)) fun y => cmpD .Gt x y) fun b => if b = true then (M.bind (penCell ρ 0 (M.bind (getT ρ 2) fun x => M.bind (penLen ρ 0) fun y => dMod x y)) fun d => asgF 3 d ρ) else (M.pure (.nx ρ))) fun ρ =>
  thenO (M.bind (M.bind (M.bind (getT ρ 2) fun x => M.bind (penLen ρ 0) fun y => cmpD .Lt x y) fun r => if r = true then (M.bind (getT ρ 3) fun x => M.bind (M.bind (M.pure (.int 10)) fun x => M.bind (M.pure (.int 18)) fun y => dPow x y) fun y => cmpD .GtE x y) else M.pure false) fun b => if b = true then (thenO (M.bind (M.bind (getT ρ 3) fun x => M.bind (getT ρ 1) fun y => dDiv x y) (penSet ρ 0 2)) fun ρ =>
  M.bind (M.bind (getT ρ 3) fun x => M.bind (getT ρ 1) fun y => dMod x y) fun d => M.pure (.rt d)) else (M.pure (.nx ρ))) fun ρ =>
  thenO (M.bind (M.bind (M.bind (M.bind (M.bind (getT ρ 3) fun x => M.bind (M.pure (.int 2147483629)) fun y => dMod x y) fun x => M.bind (M.pure (.int 11)) fun y => dAdd x y) fun x => M.bind (M.bind (M.bind (M.bind (getT ρ 2) fun x => M.bind (getT ρ 2) fun y => dMulS x y) fun x => M.bind (M.bind (M.pure (.int 5)) fun x => M.bind (getT ρ 2) fun y => dMulS x y) fun y => dAdd x y) fun x => M.bind (M.pure (.int 3)) fun y => dAdd x y) fun y => dMulS x y) fun x => M.bind (M.pure (.int 2147483647)) fun y => dMod x y) fun d => asgF 4 d ρ) fun ρ =>
  M.bind (M.bind (M.bind (M.bind (M.bind (M.bind (M.bind (M.bind (getT ρ 4) fun x => M.bind (M.pure (.int 3)) fun y => dPow x y) fun x => M.bind (M.bind (M.pure (.int 69621)) fun x => M.bind (getT ρ 2) fun y => dMulS x y) fun y => dAdd x y) fun x => M.bind (M.pure (.int 2147483587)) fun y => dMod x y) fun x => M.bind (M.pure (.int 40692)) fun y => dMulS x y) fun x => M.bind (M.pure (.int 2147483399)) fun y => dMod x y) fun x => M.bind (M.pure (.int 64)) fun y => dDiv x y) fun x => M.bind (getT ρ 1) fun y => dMod x y) fun d => M.pure (.rt d)
def M_draw : List D → M D := runDef 6 m_draw
/-- the pen has been asked at most b times -/
def PB (b : Nat) (p : PS) : Prop := ∃ pn : Pen, p = some pn ∧ 0 ≤ pn.at_ ∧ pn.at_ ≤ (b : Int)
/-- m ends well: the answer is as P says, the pen asked at most c times more -/
def Wl {α : Type} (m : M α) (b c : Nat) (P : α → Prop) : Prop := ∀ p, PB b p → ∃ a p', m p = .ok a p' ∧ P a ∧ PB (b + c) p'
theorem PB.mono {b b' : Nat} {p : PS} (h : PB b p) (l : b ≤ b') : PB b' p := by
  obtain ⟨pn, e, h1, h2⟩ := h
  exact ⟨pn, e, h1, by omega⟩
section
variable {α β : Type} {m : M α} {f : α → M β} {a : α} {P : α → Prop} {Q : β → Prop} {b c c' : Nat}
theorem Wl.pure (h : P a) : Wl (M.pure a) b 0 P := fun p hp => ⟨a, p, rfl, h, hp⟩
theorem Wl.bind (h : Wl m b c P) (k : ∀ a, P a → Wl (f a) (b + c) c' Q) : Wl (M.bind m f) b (c + c') Q := fun p hp => by
  obtain ⟨a, p1, e, h1, h2⟩ := h p hp
  obtain ⟨y, p2, e2, h3, h4⟩ := k a h1 p1 h2
  exact ⟨y, p2, by rw [bind_ok e]; exact e2, h3, by rw [← Nat.add_assoc]; exact h4⟩
theorem Wl.mono {P' : α → Prop} (h : Wl m b c P) (l : c ≤ c') (k : ∀ a, P a → P' a) : Wl m b c' P' := fun p hp => by
  obtain ⟨a, p1, e, h1, h2⟩ := h p hp
  exact ⟨a, p1, e, k a h1, h2.mono (by omega)⟩
theorem Wl.le (h : Wl m b c P) (l : c ≤ c') : Wl m b c' P := h.mono l fun _ z => z
theorem Wl.from {b' : Nat} (h : Wl m b c P) (l : b' ≤ b) : Wl m b' (b - b' + c) P := fun p hp => by
  obtain ⟨a, p1, e, h1, h2⟩ := h p (hp.mono l)
  exact ⟨a, p1, e, h1, h2.mono (by omega)⟩
end
section
variable {ρ : Rho} {pn : Pen} {α : Type} {f : D → M α} {fo : Out → M α} {m : M D} {k i j : Int}
@[simp] theorem penGet2 : M.bind (penGet (.val .pen :: ρ) 0 2) f (some pn) = f (.int pn.rest) (some pn) := id rfl
@[simp] theorem penGet1 : M.bind (penGet (.val .pen :: ρ) 0 1) f (some pn) = f (.int pn.at_) (some pn) := id rfl
@[simp] theorem penLen_b : M.bind (penLen (.val .pen :: ρ) 0) f (some pn) = f (.int pn.cells.length) (some pn) := id rfl
@[simp] theorem penSet1 : M.bind (penSet (.val .pen :: ρ) 0 1 (.int k)) fo (some pn) = fo (.nx (.val .pen :: ρ)) (some { pn with at_ := k }) := id rfl
@[simp] theorem penSet2 : M.bind (penSet (.val .pen :: ρ) 0 2 (.int k)) fo (some pn) = fo (.nx (.val .pen :: ρ)) (some { pn with rest := k }) := id rfl
@[simp] theorem penSet1t {kk : Rho → M Out} : thenO (penSet (.val .pen :: ρ) 0 1 (.int k)) kk (some pn) = kk (.val .pen :: ρ) (some { pn with at_ := k }) := id rfl
@[simp] theorem penSet2t {kk : Rho → M Out} : thenO (penSet (.val .pen :: ρ) 0 2 (.int k)) kk (some pn) = kk (.val .pen :: ρ) (some { pn with rest := k }) := id rfl
@[simp] theorem penSet1b {kk : Rho → M Out} : M.bind (thenO (penSet (.val .pen :: ρ) 0 1 (.int k)) kk) fo (some pn) = M.bind (kk (.val .pen :: ρ)) fo (some { pn with at_ := k }) := id rfl
@[simp] theorem penSet2b {kk : Rho → M Out} : M.bind (thenO (penSet (.val .pen :: ρ) 0 2 (.int k)) kk) fo (some pn) = M.bind (kk (.val .pen :: ρ)) fo (some { pn with rest := k }) := id rfl
@[simp] theorem penCell_b : M.bind (penCell (.val .pen :: ρ) 0 m) f (some pn) = M.bind m (fun d => M.bind (penAt d) f) (some pn) := by
  show M.bind (fun p => penCell (.val .pen :: ρ) 0 m p) f (some pn) = _
  rw [← bind_bind']
  rfl
theorem penAt_b {c : Int} (h : atI pn.cells k = some c) : M.bind (penAt (.int k)) f (some pn) = f (.int c) (some pn) := by
  unfold M.bind penAt
  simp [h]
@[simp] theorem ite_app {c : Prop} [Decidable c] {m m' : M α} {p : PS} : (if c then m else m') p = if c then m p else m' p := by split <;> rfl
theorem dMod_i (h : j ≠ 0) : dMod (.int i) (.int j) = M.pure (.int (i.fmod j)) := if_pos h
theorem dDiv_i (h : j ≠ 0 ∧ j.natAbs < 1073741824) : dDiv (.int i) (.int j) = M.pure (.int (i.fdiv j)) := if_pos h
theorem dPow_i (h : 0 ≤ j ∧ j ≤ 1000000 ∧ i.natAbs < 2 ^ 64) : dPow (.int i) (.int j) = M.pure (.int (i ^ j.toNat)) := if_pos h
theorem dMul_i (h : (-(2 ^ 64) < i ∧ i < 2 ^ 64) ∨ (-(2 ^ 64) < j ∧ j < 2 ^ 64)) : dMulS (.int i) (.int j) = M.pure (.int (i * j)) := if_pos h
@[simp] theorem pure_app {d : D} {p : PS} : (M.pure d) p = .ok d p := id rfl
end
theorem fmod_nat {i : Int} {m : Nat} (h : 0 < m) : ∃ r : Nat, i.fmod (m : Int) = (r : Int) ∧ r < m := by
  have h1 := Int.fmod_nonneg_of_pos i (show (0 : Int) < (m : Int) by omega)
  have h2 := Int.fmod_lt_of_pos i (show (0 : Int) < (m : Int) by omega)
  exact ⟨(i.fmod (m : Int)).toNat, by omega, by omega⟩
theorem atI_mod {cells : List Int} {k : Int} (h : 0 < cells.length) : ∃ c, atI cells (k.fmod cells.length) = some c := by
  obtain ⟨r, e, l⟩ := fmod_nat (i := k) h
  rw [e]
  unfold atI ixN
  rw [if_pos (by omega), if_pos (by omega)]
  exact ⟨cells[r], by simp [l]⟩
theorem draw_ok {many b : Nat} (h1 : 0 < many) (h2 : many < 1000000) (hb : b ≤ 2 ^ 60) : Wl (M_draw [.pen, .int (many : Int)]) b 1 (fun d => ∃ r : Nat, d = .int r ∧ r < many) := by
  rintro p ⟨⟨cells, at_, rest⟩, rfl, h3, h4⟩
  simp only [] at h3 h4
  have hm : (many : Int) ≠ 0 := by omega
  have hmd : (many : Int) ≠ 0 ∧ (many : Int).natAbs < 1073741824 := ⟨hm, by omega⟩
  by_cases hr : 0 < rest
  · obtain ⟨r, e1, e2⟩ := fmod_nat (i := rest) h1
    refine ⟨.int r, some ⟨cells, at_, rest.fdiv many⟩, ?_, ⟨r, rfl, e2⟩, ⟨_, rfl, h3, by simp only []; omega⟩⟩
    simp [M_draw, runDef, m_draw, startR, hr, dMod_i hm, dDiv_i hmd, e1]
  · have h10 : dPow (.int 10) (.int 18) = M.pure (.int 1000000000000000000) := (dPow_i (by decide)).trans (by rfl)
    have ha1 : dMulS (.int at_) (.int at_) = M.pure (.int (at_ * at_)) := dMul_i (.inl ⟨by omega, by omega⟩)
    have ha2 : dMulS (.int 5) (.int at_) = M.pure (.int (5 * at_)) := dMul_i (.inl ⟨by decide, by decide⟩)
    have ha3 : dMulS (.int 69621) (.int at_) = M.pure (.int (69621 * at_)) := dMul_i (.inl ⟨by decide, by decide⟩)
    have hd1 : ∀ i : Int, dMod (.int i) (.int 2147483629) = M.pure (.int (i.fmod 2147483629)) := fun i => dMod_i (by decide)
    have hd2 : ∀ i : Int, dMod (.int i) (.int 2147483647) = M.pure (.int (i.fmod 2147483647)) := fun i => dMod_i (by decide)
    have hd3 : ∀ i : Int, dMod (.int i) (.int 2147483587) = M.pure (.int (i.fmod 2147483587)) := fun i => dMod_i (by decide)
    have hd4 : ∀ i : Int, dMod (.int i) (.int 2147483399) = M.pure (.int (i.fmod 2147483399)) := fun i => dMod_i (by decide)
    have hd5 : ∀ i : Int, dDiv (.int i) (.int 64) = M.pure (.int (i.fdiv 64)) := fun i => dDiv_i (by decide)
    have hm1 : ∀ i x : Int, dMulS (.int (i.fmod 2147483629 + 11)) (.int x) = M.pure (.int ((i.fmod 2147483629 + 11) * x)) := fun i x => by
      have q1 := Int.fmod_nonneg_of_pos i (show (0 : Int) < 2147483629 by decide)
      have q2 := Int.fmod_lt_of_pos i (show (0 : Int) < 2147483629 by decide)
      exact dMul_i (.inl ⟨by omega, by omega⟩)
    have hm2 : ∀ i : Int, dMulS (.int i) (.int 40692) = M.pure (.int (i * 40692)) := fun i => dMul_i (.inr ⟨by decide, by decide⟩)
    have hp3 : ∀ i : Int, dPow (.int (i.fmod 2147483647)) (.int 3) = M.pure (.int ((i.fmod 2147483647) ^ 3)) := fun i => by
      have q1 := Int.fmod_nonneg_of_pos i (show (0 : Int) < 2147483647 by decide)
      have q2 := Int.fmod_lt_of_pos i (show (0 : Int) < 2147483647 by decide)
      exact dPow_i ⟨by decide, by decide, by omega⟩
    have fin : ∀ x : Int, ∃ r : Nat, x.fmod many = r ∧ r < many := fun x => fmod_nat h1
    by_cases hc : 0 < cells.length
    · obtain ⟨c, e3⟩ := atI_mod (k := at_) hc
      have hl : (cells.length : Int) ≠ 0 := by omega
      have e3' : ∀ {α : Type} (a r : Int) (f : D → M α), M.bind (penAt (.int (at_.fmod cells.length))) f (some ⟨cells, a, r⟩) = f (.int c) (some ⟨cells, a, r⟩) := fun a r f => penAt_b e3
      by_cases hat : at_ < (cells.length : Int)
      · by_cases hbig : (1000000000000000000 : Int) ≤ c
        · obtain ⟨r, e4, e5⟩ := fin c
          refine ⟨.int r, some ⟨cells, at_ + 1, c.fdiv many⟩, ?_, ⟨r, rfl, e5⟩, ⟨_, rfl, by simp only []; omega, by simp only []; omega⟩⟩
          simp [M_draw, runDef, m_draw, startR, hr, dMod_i hm, dDiv_i hmd, dMod_i hl, hc, e3', h10, hat, hbig, e4]
        · obtain ⟨r, e4, e5⟩ := fin (((((((c.fmod 2147483629 + 11) * (at_ * at_ + 5 * at_ + 3)).fmod 2147483647) ^ 3 + 69621 * at_).fmod 2147483587 * 40692).fmod 2147483399).fdiv 64)
          refine ⟨.int r, some ⟨cells, at_ + 1, rest⟩, ?_, ⟨r, rfl, e5⟩, ⟨_, rfl, by simp only []; omega, by simp only []; omega⟩⟩
          simp [M_draw, runDef, m_draw, startR, hr, dMod_i hm, dDiv_i hmd, dMod_i hl, hc, e3', h10, hat, hbig, hd1, hd2, hd3, hd4, hd5, ha1, ha2, ha3, hm1, hm2, hp3, e4]
      · obtain ⟨r, e4, e5⟩ := fin (((((((c.fmod 2147483629 + 11) * (at_ * at_ + 5 * at_ + 3)).fmod 2147483647) ^ 3 + 69621 * at_).fmod 2147483587 * 40692).fmod 2147483399).fdiv 64)
        refine ⟨.int r, some ⟨cells, at_ + 1, rest⟩, ?_, ⟨r, rfl, e5⟩, ⟨_, rfl, by simp only []; omega, by simp only []; omega⟩⟩
        simp [M_draw, runDef, m_draw, startR, hr, dMod_i hm, dDiv_i hmd, dMod_i hl, hc, e3', h10, hat, hd1, hd2, hd3, hd4, hd5, ha1, ha2, ha3, hm1, hm2, hp3, e4]
    · obtain ⟨r, e4, e5⟩ := fin ((((((18 * (at_ * at_ + 5 * at_ + 3)).fmod 2147483647) ^ 3 + 69621 * at_).fmod 2147483587 * 40692).fmod 2147483399).fdiv 64)
      have h18 : ∀ x : Int, dMulS (.int 18) (.int x) = M.pure (.int (18 * x)) := fun x => dMul_i (.inl ⟨by decide, by decide⟩)
      have hat : ¬ at_ < (cells.length : Int) := by omega
      refine ⟨.int r, some ⟨cells, at_ + 1, rest⟩, ?_, ⟨r, rfl, e5⟩, ⟨_, rfl, by simp only []; omega, by simp only []; omega⟩⟩
      simp [M_draw, runDef, m_draw, startR, hr, dMod_i hm, dDiv_i hmd, hc, h10, hat, hd1, hd2, hd3, hd4, hd5, ha1, ha2, ha3, h18, hm2, hp3, e4]
theorem draw_okI {many : Int} {b : Nat} (h1 : 0 < many) (h2 : many < 1000000) (hb : b ≤ 2 ^ 60) : Wl (M_draw [.pen, .int many]) b 1 (fun d => ∃ r : Nat, d = .int r ∧ (r : Int) < many) := by
  obtain ⟨m, rfl⟩ : ∃ m : Nat, many = (m : Int) := ⟨many.toNat, by omega⟩
  exact (draw_ok (many := m) (by omega) (by omega) hb).mono (Nat.le_refl _) fun d ⟨r, e, l⟩ => ⟨r, e, by omega⟩
theorem Wl.calm {α : Type} {m : M α} {b c : Nat} {P : α → Prop} (h : Wl m b c P) : Wl (M.calm m) b c P := fun p hp => by
  obtain ⟨a, p', e, h1, h2⟩ := h p hp
  exact ⟨a, p', by unfold M.calm; rw [e], h1, h2⟩
theorem wl_lc {f : D → M (Option D)} {P : D → Prop} {c B : Nat} : ∀ (ds : List D) (b : Nat), (∀ d ∈ ds, ∀ b', b' ≤ B → Wl (f d) b' c (fun o => ∃ y, o = some y ∧ P y)) → b + c * ds.length ≤ B → Wl (lcLoop f ds) b (c * ds.length) (fun l => l.length = ds.length ∧ ∀ y ∈ l, P y)
  | [], b, _, _ => fun p hp => ⟨[], p, rfl, ⟨rfl, by simp⟩, hp⟩
  | d :: ds, b, h, hb => by
    have hb' : b + c * ds.length + c ≤ B := by rw [List.length_cons, Nat.mul_succ] at hb; omega
    unfold lcLoop
    refine Wl.le (Wl.bind (h d (by simp) b (by omega)) (c' := c * ds.length) fun o ⟨y, e, py⟩ => ?_) (by rw [List.length_cons, Nat.mul_succ]; omega)
    subst e
    refine Wl.le (Wl.bind (wl_lc ds (b + c) (fun x hx => h x (by simp [hx])) (by omega)) (c' := 0) fun l ⟨h1, h2⟩ => Wl.pure ⟨by simp [optCons, h1], fun z hz => ?_⟩) (by omega)
    simp only [optCons, List.mem_cons] at hz
    rcases hz with rfl | hz
    · exact py
    · exact h2 z hz
theorem dIx_lst {ds : List D} {k : Nat} (h : k < ds.length) : dIx (.lst ds) (.int (k : Int)) = M.pure ds[k] := by
  unfold dIx atI ixN
  simp only []
  rw [if_pos (by omega), if_pos (by omega)]
  simp [h]
end MS
/-! H33 -/
namespace H33
open PySem PySem.Spec PyProof.Rows L2
abbrev PW : Program := PySem.Challenge.pw_mastershow_k33_whole_rows_lose_no_word
def top (i : Nat) : Stmt := PW.main.body.getD i (.Pass ⟨0, 0, 0, 0⟩)

abbrev s_is_whole : Stmt := top 4
def d_is_whole : He.DefD := ⟨("is_whole", none), "is_whole", "is_whole", defArgs s_is_whole, defBody s_is_whole, defScope s_is_whole, [], []⟩
abbrev s_words_in : Stmt := top 6
def d_words_in : He.DefD := ⟨("words_in", none), "words_in", "words_in", defArgs s_words_in, defBody s_words_in, defScope s_words_in, [], []⟩
abbrev s_rows_in : Stmt := top 7
def d_rows_in : He.DefD := ⟨("rows_in", none), "rows_in", "rows_in", defArgs s_rows_in, defBody s_rows_in, defScope s_rows_in, [], []⟩
abbrev s_wrapped : Stmt := top 8
def d_wrapped : He.DefD := ⟨("wrapped", none), "wrapped", "wrapped", defArgs s_wrapped, defBody s_wrapped, defScope s_wrapped, [], []⟩
abbrev s_must_be_wide : Stmt := top 9
def d_must_be_wide : He.DefD := ⟨("must_be_wide", none), "must_be_wide", "must_be_wide", defArgs s_must_be_wide, defBody s_must_be_wide, defScope s_must_be_wide, [], []⟩
abbrev s_rows_of : Stmt := top 10
def d_rows_of : He.DefD := ⟨("rows_of", none), "rows_of", "rows_of", defArgs s_rows_of, defBody s_rows_of, defScope s_rows_of, [], []⟩
abbrev s__law_pen : Stmt := top 12
def d__law_pen : He.DefD := ⟨("_law_pen", none), "_law_pen", "_law_pen", defArgs s__law_pen, defBody s__law_pen, defScope s__law_pen, [], []⟩
abbrev s__law_draw : Stmt := top 13
def d__law_draw : He.DefD := ⟨("_law_draw", none), "_law_draw", "_law_draw", defArgs s__law_draw, defBody s__law_draw, defScope s__law_draw, [], []⟩
abbrev s__law_line : Stmt := top 14
def d__law_line : He.DefD := ⟨("_law_line", none), "_law_line", "_law_line", defArgs s__law_line, defBody s__law_line, defScope s__law_line, [], []⟩
abbrev s__law_lines : Stmt := top 15
def d__law_lines : He.DefD := ⟨("_law_lines", none), "_law_lines", "_law_lines", defArgs s__law_lines, defBody s__law_lines, defScope s__law_lines, [], []⟩
abbrev s__law_worth : Stmt := top 16
def d__law_worth : He.DefD := ⟨("_law_worth", none), "_law_worth", "_law_worth", defArgs s__law_worth, defBody s__law_worth, defScope s__law_worth, [], []⟩
abbrev s__law_line_right : Stmt := top 17
def d__law_line_right : He.DefD := ⟨("_law_line_right", none), "_law_line_right", "_law_line_right", defArgs s__law_line_right, defBody s__law_line_right, defScope s__law_line_right, [], []⟩
abbrev s_law : Stmt := top 18
def d_law : He.DefD := ⟨("law", none), "law", "law", defArgs s_law, defBody s_law, defScope s_law, [], []⟩
def fn : List He.DefD := [d_is_whole, d_words_in, d_rows_in, d_wrapped, d_must_be_wide, d_rows_of, d__law_pen, d__law_draw, d__law_line, d__law_lines, d__law_worth, d__law_line_right, d_law]
def fa : List He.Fa := [.glo "is_whole", .glo "words_in", .glo "rows_in", .glo "wrapped", .glo "must_be_wide", .glo "rows_of", .glo "_law_pen", .glo "_law_draw", .glo "_law_line", .glo "_law_lines", .glo "_law_worth", .glo "_law_line_right", .glo "law", .glo "DeckError", .glo "NoRoom", .free "bool", .free "int", .free "isinstance", .free "len", .free "list", .free "min", .free "range", .free "tuple", .exc "DeckError", .exc "NoRoom"]
abbrev R : PySem.W.OpenRow := PySem.W.OpenLaw.row PySem.Challenge.rw_mastershow_k33_whole_rows_lose_no_word
abbrev hk : PySem.W.Hook := He.hookD 5 fa fn
def ob (s : PySem.W.SharedT) : He.AlD := He.obsDG 5 fa fn (HandSHeadRun.getT s)
theorem ob_eq (s : PySem.W.SharedT) : ob s = hk.obs s.abs := He.obsDG_eq (HandSHeadRun.getT_eq s)
def loose0 : List PySem.Str := ["DeckError", "NoRoom", "is_whole", "words_in", "rows_in", "wrapped", "must_be_wide", "rows_of", "_law_pen", "_law_draw", "_law_line", "_law_lines", "_law_worth", "_law_line_right"]
def loose : List PySem.Str := loose0
theorem runF (w : World) : HandSHeadRun.RunEq R (PySem.W.view R.prog [18]) hk ob 20000 loose (w.withFollow "special-get-raises" false) := by
  intro os
  kernel_rfl
theorem runT (w : World) : HandSHeadRun.RunEq R (PySem.W.view R.prog [18]) hk ob 20000 loose (w.withFollow "special-get-raises" true) := by
  intro os
  kernel_rfl
theorem run (w : World) : HandSHeadRun.RunEq R (PySem.W.view R.prog [18]) hk ob 20000 loose w := PySem.W.byRow2 "special-get-raises" (P := fun w => HandSHeadRun.RunEq R (PySem.W.view R.prog [18]) hk ob 20000 loose w) runF runT w
end H33
/-! L33 -/
namespace L33
open PySem PySem.Spec PyProof.Rows L2 MS
structure GF (b : Bs) : Prop where
  b_bool : b.mg "bool" = none
  b_int : b.mg "int" = none
  b_isinstance : b.mg "isinstance" = none
  b_len : b.mg "len" = none
  b_list : b.mg "list" = none
  b_min : b.mg "min" = none
  b_range : b.mg "range" = none
  b_tuple : b.mg "tuple" = none
  x_NoRoom : ExOk (b.g [] sc0 0 W0) "NoRoom"
def N_is_whole : List Str := ["thing"]
def m_is_whole : Rho → M Out := fun ρ =>
  M.bind (M.bind (M.bind (getT ρ 0) fun x => dIsi .int x) fun x => M.bind (dTru x) fun r => if r = true then (M.bind (M.bind (getT ρ 0) fun x => dIsi .bool x) fun x => M.bind (dTru x) fun b => M.pure (.bl (!b))) else M.pure x) retS
def M_is_whole : List D → M D := runDef 1 m_is_whole
theorem j_is_whole {b : Bs} (G : GF b) {k : Nat}  (W : WX) : JSs (b.g N_is_whole (defScope H33.s_is_whole) k W) (defBody H33.s_is_whole) m_is_whole :=
  (jss_one (js_retS (je_and shNe (JE.weaken (κ := .sh) (je_isi (T := .int) (gl (by kernel_rfl)) (gl (by kernel_rfl)) (G.b_isinstance) (G.b_int) rfl (kT (nm (by kernel_rfl))))) (je_one (JE.weaken (κ := .sh) (je_not (je_isi (T := .bool) (gl (by kernel_rfl)) (gl (by kernel_rfl)) (G.b_isinstance) (G.b_bool) rfl (kT (nm (by kernel_rfl))))))))))
theorem sc_is_whole : FnScope N_is_whole ["thing"] (defScope H33.s_is_whole) := ⟨rfl, rfl, rfl, by decide +kernel, rfl, by decide +kernel, by decide +kernel⟩
theorem ok_is_whole {b : Bs} (G : GF b) {k : Nat}  {fd : FuncData} (F : FunD b.K "is_whole" "is_whole" (defArgs H33.s_is_whole) (defBody H33.s_is_whole) (defScope H33.s_is_whole) [] [] (He.ga b.K "is_whole") fd) (hg : b.mg "is_whole" = some (.ref (He.ga b.K "is_whole"))) : FOk (b.g [] sc0 (k + 1) W0) "is_whole" 1 M_is_whole :=
  fok_of F sc_is_whole (F.bindsN fun _ _ _ _ _ _ us hl => match us, hl with | [_], _ => rfl) hg (fun W => j_is_whole G  W)
def N_words_in : List Str := ["line", "word"]
def m_words_in : Rho → M Out := fun ρ =>
  M.bind (M.bind (M.bind (M.bind (isStr (getT ρ 0)) fun x => M.bind (M.pure (.str " ")) fun y => dSplit x y) itemsD) (lcD (.nm 1) (fun ρ => M.bind (getT ρ 1) fun x => M.bind (M.pure (.str "")) fun y => cmpD .NotEq x y) (fun ρ => getS ρ 1) [1] ρ)) fun d => M.pure (.rt d)
def M_words_in : List D → M D := runDef 2 m_words_in
theorem j_words_in {b : Bs} (G : GF b) {k : Nat}  (W : WX) : JSs (b.g N_words_in (defScope H33.s_words_in) k W) (defBody H33.s_words_in) m_words_in :=
  (jss_one (js_retF (kLc [("word", 1)] (by kernel_rfl) (ji_any shNe (JE.weaken (κ := .sh) (je_split rfl rfl rfl (kT (nm (by kernel_rfl))) (kStr (by kernel_rfl))))) (gNm (bd (by kernel_rfl))) (jbs_one (jb_cmp rfl (kT (nm (by kernel_rfl))) (kStr (by kernel_rfl)))) (kS (nm (by kernel_rfl))))))
theorem sc_words_in : FnScope N_words_in ["line"] (defScope H33.s_words_in) := ⟨rfl, rfl, rfl, by decide +kernel, rfl, by decide +kernel, by decide +kernel⟩
theorem ok_words_in {b : Bs} (G : GF b) {k : Nat}  {fd : FuncData} (F : FunD b.K "words_in" "words_in" (defArgs H33.s_words_in) (defBody H33.s_words_in) (defScope H33.s_words_in) [] [] (He.ga b.K "words_in") fd) (hg : b.mg "words_in" = some (.ref (He.ga b.K "words_in"))) : FOk (b.g [] sc0 (k + 1) W0) "words_in" 1 M_words_in :=
  fok_of F sc_words_in (F.bindsN fun _ _ _ _ _ _ us hl => match us, hl with | [_], _ => rfl) hg (fun W => j_words_in G  W)
def N_rows_in : List Str := ["line", "wide", "found", "row", "word"]
def m_rows_in_t1 : Rho → M Bool := fun ρ =>
  M.bind (M.bind (getT ρ 3) dLen) fun x => M.bind (getT ρ 1) fun y => cmpD .Gt x y
def m_rows_in_b2 : Rho → M Out := fun ρ =>
  thenO (ownUpd ρ 2 fun ds => M.bind (M.bind (getT ρ 3) fun x => M.bind (M.pure none) fun l => M.bind (M.bind (getT ρ 1) asInt) fun h => dSlice x l h) fun d => M.ofO (appD ds d)) fun ρ =>
  M.bind (M.bind (getT ρ 3) fun x => M.bind (M.bind (getT ρ 1) asInt) fun l => M.bind (M.pure none) fun h => dSlice x l h) fun d => asgF 3 d ρ
def m_rows_in_b3 : Rho → M Out := fun ρ =>
  M.bind (M.bind (M.bind (getT ρ 3) fun x => M.bind (M.pure (.str "")) fun y => cmpD .NotEq x y) fun r => if r = true then (M.bind (M.bind (M.bind (M.bind (getT ρ 3) dLen) fun x => M.bind (M.pure (.int 1)) fun y => dAdd x y) fun x => M.bind (M.bind (getT ρ 4) dLen) fun y => dAdd x y) fun x => M.bind (getT ρ 1) fun y => cmpD .LtE x y) else M.pure false) fun b => if b = true then (M.bind (M.bind (M.bind (getT ρ 3) fun x => M.bind (M.pure (.str " ")) fun y => dAdd x y) fun x => M.bind (getT ρ 4) fun y => dAdd x y) fun d => asgF 3 d ρ) else (thenO (M.bind (M.bind (getT ρ 3) fun x => M.bind (M.pure (.str "")) fun y => cmpD .NotEq x y) fun b => if b = true then (ownUpd ρ 2 fun ds => M.bind (getS ρ 3) fun d => M.ofO (appD ds d)) else (M.pure (.nx ρ))) fun ρ =>
  thenO (M.bind (getS ρ 4) fun d => asgS 3 d ρ) fun ρ =>
  whileF m_rows_in_t1 m_rows_in_b2 fuelW ρ)
def m_rows_in : Rho → M Out := fun ρ =>
  thenO (M.bind (M.bind (M.pure []) fun ds => if ds.length ≤ sizeLine then M.pure (.lst ds) else M.stuck) fun d => asgF 2 d ρ) fun ρ =>
  thenO (M.bind (M.pure (.str "")) fun d => asgF 3 d ρ) fun ρ =>
  thenO (M.bind (M.bind (M.bind (M.bind (getS ρ 0) fun d => M.bind (M.pure []) fun ds => M.pure (d :: ds)) (callF 1 M_words_in)) itemsD) fun ds => forL (.nm 4) m_rows_in_b3 ds ρ) fun ρ =>
  M.bind (M.bind (getT ρ 2) fun x => M.bind (M.bind (M.bind (getS ρ 3) fun d => M.bind (M.pure []) fun ds => M.pure (d :: ds)) fun ds => if ds.length ≤ sizeLine then M.pure (.lst ds) else M.stuck) fun y => dAdd x y) fun d => M.pure (.rt d)
def M_rows_in : List D → M D := runDef 5 m_rows_in
theorem j_rows_in {b : Bs} (G : GF b) {k : Nat} (f_words_in : FOk (b.g [] sc0 k W0) "words_in" 1 M_words_in) (W : WX) : JSs (b.g N_rows_in (defScope H33.s_rows_in) k W) (defBody H33.s_rows_in) m_rows_in :=
  (jss_cons (sSetF (bd (by kernel_rfl)) rfl (je_lst JA.nil))
  (jss_cons (sSetF (bd (by kernel_rfl)) rfl (kStr (by kernel_rfl)))
  (jss_cons (js_for rfl (ji_any shNe (JE.weaken (κ := .sh) (kCallF (by kernel_rfl) (f_words_in.up (Nat.le_refl _)) (kA rfl (kS (nm (by kernel_rfl))) JA.nil)))) (gNm (bd (by kernel_rfl))) (jss_one (js_if (JW.jb (jw_and (jb_cmp rfl (kT (nm (by kernel_rfl))) (kStr (by kernel_rfl))) (jw_and1 (jb_cmp rfl (je_add (je_add (je_len (glo (by kernel_rfl) (G.b_len)) rfl (kT (nm (by kernel_rfl)))) je_int) (je_len (glo (by kernel_rfl) (G.b_len)) rfl (kT (nm (by kernel_rfl))))) (kT (nm (by kernel_rfl))))))) (jss_one (sSetF (bd (by kernel_rfl)) rfl (je_add (je_add (kT (nm (by kernel_rfl))) (kStr (by kernel_rfl))) (kT (nm (by kernel_rfl)))))) (jss_cons (js_if (jb_cmp rfl (kT (nm (by kernel_rfl))) (kStr (by kernel_rfl))) (jss_one (sApp (nm (by kernel_rfl)) rfl rfl (kS (nm (by kernel_rfl))))) jss_nil)
  (jss_cons (sSetS (bd (by kernel_rfl)) rfl (kS (nm (by kernel_rfl))))
  (jss_one (js_while fuelW (jb_cmp rfl (je_len (glo (by kernel_rfl) (G.b_len)) rfl (kT (nm (by kernel_rfl)))) (kT (nm (by kernel_rfl)))) (jss_cons (sApp (nm (by kernel_rfl)) rfl rfl (JE.weaken (κ := .sh) (je_slice (kT (nm (by kernel_rfl))) jo_none (jo_some (kT (nm (by kernel_rfl)))))))
  (jss_one (sSetF (bd (by kernel_rfl)) rfl (je_slice (kT (nm (by kernel_rfl))) (jo_some (kT (nm (by kernel_rfl)))) jo_none)))))))))))
  (jss_one (js_retF (je_add (kT (nm (by kernel_rfl))) (je_lst (kA rfl (kS (nm (by kernel_rfl))) JA.nil))))))))
theorem sc_rows_in : FnScope N_rows_in ["line", "wide"] (defScope H33.s_rows_in) := ⟨rfl, rfl, rfl, by decide +kernel, rfl, by decide +kernel, by decide +kernel⟩
theorem ok_rows_in {b : Bs} (G : GF b) {k : Nat} (f_words_in : FOk (b.g [] sc0 k W0) "words_in" 1 M_words_in) {fd : FuncData} (F : FunD b.K "rows_in" "rows_in" (defArgs H33.s_rows_in) (defBody H33.s_rows_in) (defScope H33.s_rows_in) [] [] (He.ga b.K "rows_in") fd) (hg : b.mg "rows_in" = some (.ref (He.ga b.K "rows_in"))) : FOk (b.g [] sc0 (k + 1) W0) "rows_in" 2 M_rows_in :=
  fok_of F sc_rows_in (F.bindsN fun _ _ _ _ _ _ us hl => match us, hl with | [_, _], _ => rfl) hg (fun W => j_rows_in G f_words_in W)
def N_wrapped : List Str := ["lines", "wide", "found", "line"]
def m_wrapped_b1 : Rho → M Out := fun ρ =>
  ownUpd ρ 2 fun ds => M.bind (M.bind (M.bind (getS ρ 3) fun d => M.bind (M.bind (getS ρ 1) fun d => M.bind (M.pure []) fun ds => M.pure (d :: ds)) fun ds => M.pure (d :: ds)) (callF 2 M_rows_in)) fun d => M.ofO (extD ds d)
def m_wrapped : Rho → M Out := fun ρ =>
  thenO (M.bind (M.bind (M.pure []) fun ds => if ds.length ≤ sizeLine then M.pure (.lst ds) else M.stuck) fun d => asgF 2 d ρ) fun ρ =>
  thenO (M.bind (M.bind (getS ρ 0) itemsD) fun ds => forL (.nm 3) m_wrapped_b1 ds ρ) fun ρ =>
  retN ρ 2
def M_wrapped : List D → M D := runDef 4 m_wrapped
theorem j_wrapped {b : Bs} (G : GF b) {k : Nat} (f_rows_in : FOk (b.g [] sc0 k W0) "rows_in" 2 M_rows_in) (W : WX) : JSs (b.g N_wrapped (defScope H33.s_wrapped) k W) (defBody H33.s_wrapped) m_wrapped :=
  (jss_cons (sSetF (bd (by kernel_rfl)) rfl (je_lst JA.nil))
  (jss_cons (js_for rfl (ji_any shNe (kS (nm (by kernel_rfl)))) (gNm (bd (by kernel_rfl))) (jss_one (sExt (nm (by kernel_rfl)) rfl rfl (JE.weaken (κ := .sh) (kCallF (by kernel_rfl) (f_rows_in.up (Nat.le_refl _)) (kA rfl (kS (nm (by kernel_rfl))) (kA rfl (kS (nm (by kernel_rfl))) JA.nil)))))))
  (jss_one (sRetN (nm (by kernel_rfl))))))
theorem sc_wrapped : FnScope N_wrapped ["lines", "wide"] (defScope H33.s_wrapped) := ⟨rfl, rfl, rfl, by decide +kernel, rfl, by decide +kernel, by decide +kernel⟩
theorem ok_wrapped {b : Bs} (G : GF b) {k : Nat} (f_rows_in : FOk (b.g [] sc0 k W0) "rows_in" 2 M_rows_in) {fd : FuncData} (F : FunD b.K "wrapped" "wrapped" (defArgs H33.s_wrapped) (defBody H33.s_wrapped) (defScope H33.s_wrapped) [] [] (He.ga b.K "wrapped") fd) (hg : b.mg "wrapped" = some (.ref (He.ga b.K "wrapped"))) : FOk (b.g [] sc0 (k + 1) W0) "wrapped" 2 M_wrapped :=
  fok_of F sc_wrapped (F.bindsN fun _ _ _ _ _ _ us hl => match us, hl with | [_, _], _ => rfl) hg (fun W => j_wrapped G f_rows_in W)
def N_must_be_wide : List Str := ["wide"]
def m_must_be_wide : Rho → M Out := fun ρ =>
  M.bind (M.bind (M.bind (M.bind (M.bind (M.bind (getT ρ 0) fun d => M.bind (M.pure []) fun ds => M.pure (d :: ds)) (callT 1 M_is_whole)) dTru) fun b => M.pure (!b)) fun r => if r = true then M.pure true else (M.bind (getT ρ 0) fun x => M.bind (M.pure (.int 1)) fun y => cmpD .Lt x y)) fun b => if b = true then (M.throw "NoRoom") else (M.pure (.nx ρ))
def M_must_be_wide : List D → M D := runDef 1 m_must_be_wide
theorem j_must_be_wide {b : Bs} (G : GF b) {k : Nat} (f_is_whole : FOk (b.g [] sc0 k W0) "is_whole" 1 M_is_whole) (W : WX) : JSs (b.g N_must_be_wide (defScope H33.s_must_be_wide) k W) (defBody H33.s_must_be_wide) m_must_be_wide :=
  (jss_one (js_if (JW.jb (jw_or (jb_not (jb_truth rfl (kCallT (by kernel_rfl) (f_is_whole.up (Nat.le_refl _)) (kA rfl (kT (nm (by kernel_rfl))) JA.nil)))) (jw_or1 (jb_cmp rfl (kT (nm (by kernel_rfl))) je_int)))) (jss_one (js_raise G.x_NoRoom.up (gl (by kernel_rfl)) rfl)) jss_nil))
theorem sc_must_be_wide : FnScope N_must_be_wide ["wide"] (defScope H33.s_must_be_wide) := ⟨rfl, rfl, rfl, by decide +kernel, rfl, by decide +kernel, by decide +kernel⟩
theorem ok_must_be_wide {b : Bs} (G : GF b) {k : Nat} (f_is_whole : FOk (b.g [] sc0 k W0) "is_whole" 1 M_is_whole) {fd : FuncData} (F : FunD b.K "must_be_wide" "must_be_wide" (defArgs H33.s_must_be_wide) (defBody H33.s_must_be_wide) (defScope H33.s_must_be_wide) [] [] (He.ga b.K "must_be_wide") fd) (hg : b.mg "must_be_wide" = some (.ref (He.ga b.K "must_be_wide"))) : FOk (b.g [] sc0 (k + 1) W0) "must_be_wide" 1 M_must_be_wide :=
  fok_of F sc_must_be_wide (F.bindsN fun _ _ _ _ _ _ us hl => match us, hl with | [_], _ => rfl) hg (fun W => j_must_be_wide G f_is_whole W)
def N_rows_of : List Str := ["lines", "wide"]
def m_rows_of : Rho → M Out := fun ρ =>
  thenO (M.bind (M.bind (M.bind (getT ρ 1) fun d => M.bind (M.pure []) fun ds => M.pure (d :: ds)) (callT 1 M_must_be_wide)) fun _ => M.pure (.nx ρ)) fun ρ =>
  M.bind (M.bind (M.bind (getS ρ 0) fun d => M.bind (M.bind (getS ρ 1) fun d => M.bind (M.pure []) fun ds => M.pure (d :: ds)) fun ds => M.pure (d :: ds)) (callD 2 M_wrapped)) fun d => M.pure (.rt d)
def M_rows_of : List D → M D := runDef 2 m_rows_of
theorem j_rows_of {b : Bs} (G : GF b) {k : Nat} (f_must_be_wide : FOk (b.g [] sc0 k W0) "must_be_wide" 1 M_must_be_wide) (f_wrapped : FOk (b.g [] sc0 k W0) "wrapped" 2 M_wrapped) (W : WX) : JSs (b.g N_rows_of (defScope H33.s_rows_of) k W) (defBody H33.s_rows_of) m_rows_of :=
  (jss_cons (js_expr rfl (kCallT (by kernel_rfl) (f_must_be_wide.up (Nat.le_refl _)) (kA rfl (kT (nm (by kernel_rfl))) JA.nil)))
  (jss_one (js_retC (by kernel_rfl) (f_wrapped.up (Nat.le_refl _)) (kA rfl (kS (nm (by kernel_rfl))) (kA rfl (kS (nm (by kernel_rfl))) JA.nil)))))
theorem sc_rows_of : FnScope N_rows_of ["lines", "wide"] (defScope H33.s_rows_of) := ⟨rfl, rfl, rfl, by decide +kernel, rfl, by decide +kernel, by decide +kernel⟩
theorem ok_rows_of {b : Bs} (G : GF b) {k : Nat} (f_must_be_wide : FOk (b.g [] sc0 k W0) "must_be_wide" 1 M_must_be_wide) (f_wrapped : FOk (b.g [] sc0 k W0) "wrapped" 2 M_wrapped) {fd : FuncData} (F : FunD b.K "rows_of" "rows_of" (defArgs H33.s_rows_of) (defBody H33.s_rows_of) (defScope H33.s_rows_of) [] [] (He.ga b.K "rows_of") fd) (hg : b.mg "rows_of" = some (.ref (He.ga b.K "rows_of"))) : FOk (b.g [] sc0 (k + 1) W0) "rows_of" 2 M_rows_of :=
  fok_of F sc_rows_of (F.bindsN fun _ _ _ _ _ _ us hl => match us, hl with | [_, _], _ => rfl) hg (fun W => j_rows_of G f_must_be_wide f_wrapped W)
def N__law_pen : List Str := ["script"]
theorem sc__law_pen : FnScope N__law_pen ["script"] (defScope H33.s__law_pen) := ⟨rfl, rfl, rfl, by decide +kernel, rfl, by decide +kernel, by decide +kernel⟩
theorem ok__law_pen {b : Bs} (G : GF b) {f : Addr} {fd : FuncData} (F : FunD b.K "_law_pen" "_law_pen" (defArgs H33.s__law_pen) (defBody H33.s__law_pen) (defScope H33.s__law_pen) [] [] f fd) {k : Nat} : FnOk b.P b.w b.K b.mg b.base (L2.CX b.P b.w) (k + 1) f fd ["script"] (spPen b.K) :=
  fn_pen F sc__law_pen fun W X o => pss_one (ps_ret (pe_lst (pa_cons (pe_callTy (by have h := call_list_of (X := X); rw [o.K] at h; exact h) (by show X.env.scope.names.lookup _ = _; rw [o.sc]; kernel_rfl) (by rw [o.mg]; exact G.b_list) (by decide +kernel) (pa_cons (pe_slice (by have h := sl_list (X := X); rw [o.K] at h; exact h) (pe_var (by rw [o.N]; rfl) (by rw [o.sc]; exact vis_of (by kernel_rfl)) (by decide) (by decide)) po_none (po_some pe_int)) pa_nil)) (pa_cons pe_int (pa_cons pe_int pa_nil)))))
def N__law_draw : List Str := ["pen", "many", "at", "cell", "number", "found"]
abbrev m__law_draw := MS.m_draw
abbrev M__law_draw := MS.M_draw
theorem j__law_draw {b : Bs} (G : GF b) {k : Nat}  (W : WX) : JSs (b.g N__law_draw (defScope H33.s__law_draw) k W) (defBody H33.s__law_draw) m__law_draw :=
  (jss_cons (js_if (jb_cmp rfl (kGet (nm (by kernel_rfl))) je_int) (jss_cons (sSetF (bd (by kernel_rfl)) rfl (je_mod (kGet (nm (by kernel_rfl))) (kT (nm (by kernel_rfl)))))
  (jss_cons (sPen (nm (by kernel_rfl)) (je_div (kGet (nm (by kernel_rfl))) (kT (nm (by kernel_rfl)))))
  (jss_one (sRetN (nm (by kernel_rfl)))))) jss_nil)
  (jss_cons (sSetF (bd (by kernel_rfl)) rfl (kGet (nm (by kernel_rfl))))
  (jss_cons (sPen (nm (by kernel_rfl)) (je_add (kT (nm (by kernel_rfl))) je_int))
  (jss_cons (sSetF (bd (by kernel_rfl)) rfl je_int)
  (jss_cons (js_if (jb_cmp rfl (kLenP (glo (by kernel_rfl) (G.b_len)) (nm (by kernel_rfl))) je_int) (jss_one (sSetF (bd (by kernel_rfl)) rfl (kCell (nm (by kernel_rfl)) rfl (je_mod (kT (nm (by kernel_rfl))) (kLenP (glo (by kernel_rfl) (G.b_len)) (nm (by kernel_rfl))))))) jss_nil)
  (jss_cons (js_if (JW.jb (jw_and (jb_cmp rfl (kT (nm (by kernel_rfl))) (kLenP (glo (by kernel_rfl) (G.b_len)) (nm (by kernel_rfl)))) (jw_and1 (jb_cmp rfl (kT (nm (by kernel_rfl))) (je_pow je_int je_int))))) (jss_cons (sPen (nm (by kernel_rfl)) (je_div (kT (nm (by kernel_rfl))) (kT (nm (by kernel_rfl)))))
  (jss_one (js_retF (je_mod (kT (nm (by kernel_rfl))) (kT (nm (by kernel_rfl))))))) jss_nil)
  (jss_cons (sSetF (bd (by kernel_rfl)) rfl (je_mod (je_mul (je_add (je_mod (kT (nm (by kernel_rfl))) je_int) je_int) (je_add (je_add (je_mul (kT (nm (by kernel_rfl))) (kT (nm (by kernel_rfl)))) (je_mul je_int (kT (nm (by kernel_rfl))))) je_int)) je_int))
  (jss_one (js_retF (je_mod (je_div (je_mod (je_mul (je_mod (je_add (je_pow (kT (nm (by kernel_rfl))) je_int) (je_mul je_int (kT (nm (by kernel_rfl))))) je_int) je_int) je_int) je_int) (kT (nm (by kernel_rfl)))))))))))))
theorem sc__law_draw : FnScope N__law_draw ["pen", "many"] (defScope H33.s__law_draw) := ⟨rfl, rfl, rfl, by decide +kernel, rfl, by decide +kernel, by decide +kernel⟩
theorem ok__law_draw {b : Bs} (G : GF b) {k : Nat}  {fd : FuncData} (F : FunD b.K "_law_draw" "_law_draw" (defArgs H33.s__law_draw) (defBody H33.s__law_draw) (defScope H33.s__law_draw) [] [] (He.ga b.K "_law_draw") fd) (hg : b.mg "_law_draw" = some (.ref (He.ga b.K "_law_draw"))) : FOk (b.g [] sc0 (k + 1) W0) "_law_draw" 2 M__law_draw :=
  fok_of F sc__law_draw (F.bindsN fun _ _ _ _ _ _ us hl => match us, hl with | [_, _], _ => rfl) hg (fun W => j__law_draw G  W)
def N__law_line : List Str := ["pen", "words", "line", "k"]
def m__law_line_s1 : Rho → M Out := fun ρ =>
  M.bind (M.bind (M.bind (M.pure (.str "a")) fun d => M.bind (M.bind (M.pure (.str "Word")) fun d => M.bind (M.bind (M.pure (.str "end.")) fun d => M.bind (M.bind (M.pure (.str "{n}")) fun d => M.bind (M.bind (M.pure (.str "{all}")) fun d => M.bind (M.bind (M.pure (.str "{name}")) fun d => M.bind (M.bind (M.pure (.str "don't;")) fun d => M.bind (M.bind (M.pure (.str "")) fun d => M.bind (M.bind (M.pure (.str "")) fun d => M.bind (M.bind (M.bind (M.pure (.str "x")) fun x => M.bind (M.pure (.int 23)) fun y => dMulS x y) fun d => M.bind (M.bind (M.pure (.str "{n")) fun d => M.bind (M.bind (M.pure (.str "{{n}}")) fun d => M.bind (M.bind (M.pure (.str "{N} ~!")) fun d => M.bind (M.bind (M.pure (.str "word")) fun d => M.bind (M.pure []) fun ds => M.pure (d :: ds)) fun ds => M.pure (d :: ds)) fun ds => M.pure (d :: ds)) fun ds => M.pure (d :: ds)) fun ds => M.pure (d :: ds)) fun ds => M.pure (d :: ds)) fun ds => M.pure (d :: ds)) fun ds => M.pure (d :: ds)) fun ds => M.pure (d :: ds)) fun ds => M.pure (d :: ds)) fun ds => M.pure (d :: ds)) fun ds => M.pure (d :: ds)) fun ds => M.pure (d :: ds)) fun ds => M.pure (d :: ds)) fun ds => if ds.length ≤ sizeLine then M.pure (.lst ds) else M.stuck) fun d => asgF 1 d ρ
def m__law_line_s2 : Rho → M Out := fun ρ =>
  M.bind (M.bind (isStr (M.pure (.str " "))) fun x => M.bind (M.bind (M.bind (M.bind (M.bind (getT ρ 0) fun d => M.bind (M.bind (M.pure (.int 6)) fun d => M.bind (M.pure []) fun ds => M.pure (d :: ds)) fun ds => M.pure (d :: ds)) (callT 2 M__law_draw)) dRange1) (lcD (.nm 3) (fun ρ => M.pure true) (fun ρ => M.bind (getT ρ 1) fun x => M.bind (M.bind (M.bind (getT ρ 0) fun d => M.bind (M.bind (M.pure (.int 14)) fun d => M.bind (M.pure []) fun ds => M.pure (d :: ds)) fun ds => M.pure (d :: ds)) (callT 2 M__law_draw)) fun y => dIx x y) [3] ρ)) fun y => dJoin x y) fun d => asgF 2 d ρ
def m__law_line_s3 : Rho → M Out := fun ρ =>
  M.bind (M.bind (getT ρ 2) fun x => M.bind (M.pure none) fun l => M.bind (M.bind (M.bind (M.bind (M.bind (M.pure (.int 60)) fun d => M.bind (M.bind (M.pure (.int 60)) fun d => M.bind (M.bind (M.pure (.int 7)) fun d => M.bind (M.pure []) fun ds => M.pure (d :: ds)) fun ds => M.pure (d :: ds)) fun ds => M.pure (d :: ds)) fun ds => if ds.length ≤ sizeLine then M.pure (.lst ds) else M.stuck) fun x => M.bind (M.bind (M.bind (getT ρ 0) fun d => M.bind (M.bind (M.pure (.int 3)) fun d => M.bind (M.pure []) fun ds => M.pure (d :: ds)) fun ds => M.pure (d :: ds)) (callT 2 M__law_draw)) fun y => dIx x y) asInt) fun h => dSlice x l h) fun d => M.pure (.rt d)
def m__law_line : Rho → M Out := fun ρ =>
  thenO (m__law_line_s1 ρ) fun ρ =>
  thenO (m__law_line_s2 ρ) fun ρ =>
  m__law_line_s3 ρ
def M__law_line : List D → M D := runDef 4 m__law_line
theorem j__law_line {b : Bs} (G : GF b) {k : Nat} (f__law_draw : FOk (b.g [] sc0 k W0) "_law_draw" 2 M__law_draw) (W : WX) : JSs (b.g N__law_line (defScope H33.s__law_line) k W) (defBody H33.s__law_line) m__law_line :=
  (jss_cons (sSetF (bd (by kernel_rfl)) rfl (je_lst (kA rfl (JE.weaken (κ := .sh) (kStr (by kernel_rfl))) (kA rfl (JE.weaken (κ := .sh) (kStr (by kernel_rfl))) (kA rfl (JE.weaken (κ := .sh) (kStr (by kernel_rfl))) (kA rfl (JE.weaken (κ := .sh) (kStr (by kernel_rfl))) (kA rfl (JE.weaken (κ := .sh) (kStr (by kernel_rfl))) (kA rfl (JE.weaken (κ := .sh) (kStr (by kernel_rfl))) (kA rfl (JE.weaken (κ := .sh) (kStr (by kernel_rfl))) (kA rfl (JE.weaken (κ := .sh) (kStr (by kernel_rfl))) (kA rfl (JE.weaken (κ := .sh) (kStr (by kernel_rfl))) (kA rfl (JE.weaken (κ := .sh) (je_mul (kStr (by kernel_rfl)) je_int)) (kA rfl (JE.weaken (κ := .sh) (kStr (by kernel_rfl))) (kA rfl (JE.weaken (κ := .sh) (kStr (by kernel_rfl))) (kA rfl (JE.weaken (κ := .sh) (kStr (by kernel_rfl))) (kA rfl (JE.weaken (κ := .sh) (kStr (by kernel_rfl))) JA.nil))))))))))))))))
  (jss_cons (sSetF (bd (by kernel_rfl)) rfl (je_join rfl rfl rfl (kStr (by kernel_rfl)) (kLc [("k", 3)] (by kernel_rfl) (ji_range1 (glo (by kernel_rfl) (G.b_range)) rfl (kCallT (by kernel_rfl) (f__law_draw.up (Nat.le_refl _)) (kA rfl (kT (nm (by kernel_rfl))) (kA rfl (JE.weaken (κ := .tp) je_int) JA.nil)))) (gNm (bd (by kernel_rfl))) jbs_nil (je_ix rfl (kT (nm (by kernel_rfl))) (kCallT (by kernel_rfl) (FOk.blk (f__law_draw.up (Nat.le_refl _))) (kA rfl (kT (nm (by kernel_rfl))) (kA rfl (JE.weaken (κ := .tp) je_int) JA.nil)))))))
  (jss_one (js_retF (je_slice (kT (nm (by kernel_rfl))) jo_none (jo_some (je_ix rfl (je_lst (kA rfl (JE.weaken (κ := .sh) je_int) (kA rfl (JE.weaken (κ := .sh) je_int) (kA rfl (JE.weaken (κ := .sh) je_int) JA.nil)))) (kCallT (by kernel_rfl) (f__law_draw.up (Nat.le_refl _)) (kA rfl (kT (nm (by kernel_rfl))) (kA rfl (JE.weaken (κ := .tp) je_int) JA.nil))))))))))
theorem sc__law_line : FnScope N__law_line ["pen"] (defScope H33.s__law_line) := ⟨rfl, rfl, rfl, by decide +kernel, rfl, by decide +kernel, by decide +kernel⟩
theorem ok__law_line {b : Bs} (G : GF b) {k : Nat} (f__law_draw : FOk (b.g [] sc0 k W0) "_law_draw" 2 M__law_draw) {fd : FuncData} (F : FunD b.K "_law_line" "_law_line" (defArgs H33.s__law_line) (defBody H33.s__law_line) (defScope H33.s__law_line) [] [] (He.ga b.K "_law_line") fd) (hg : b.mg "_law_line" = some (.ref (He.ga b.K "_law_line"))) : FOk (b.g [] sc0 (k + 1) W0) "_law_line" 1 M__law_line :=
  fok_of F sc__law_line (F.bindsN fun _ _ _ _ _ _ us hl => match us, hl with | [_], _ => rfl) hg (fun W => j__law_line G f__law_draw W)
def N__law_lines : List Str := ["pen", "many", "k"]
def m__law_lines_s1 : Rho → M Out := fun ρ =>
  M.bind (M.bind (M.bind (M.bind (M.bind (M.bind (getT ρ 0) fun d => M.bind (M.bind (M.pure (.int 4)) fun d => M.bind (M.pure []) fun ds => M.pure (d :: ds)) fun ds => M.pure (d :: ds)) (callT 2 M__law_draw)) fun d => M.bind (M.bind (M.bind (M.bind (getT ρ 0) fun d => M.bind (M.bind (M.pure (.int 4)) fun d => M.bind (M.pure []) fun ds => M.pure (d :: ds)) fun ds => M.pure (d :: ds)) (callT 2 M__law_draw)) fun d => M.bind (M.bind (M.pure (.int 12)) fun d => M.bind (M.pure []) fun ds => M.pure (d :: ds)) fun ds => M.pure (d :: ds)) fun ds => M.pure (d :: ds)) fun ds => if ds.length ≤ sizeLine then M.pure (.lst ds) else M.stuck) fun x => M.bind (M.bind (M.bind (getT ρ 0) fun d => M.bind (M.bind (M.pure (.int 3)) fun d => M.bind (M.pure []) fun ds => M.pure (d :: ds)) fun ds => M.pure (d :: ds)) (callT 2 M__law_draw)) fun y => dIx x y) fun d => asgS 1 d ρ
def m__law_lines_s2 : Rho → M Out := fun ρ =>
  M.bind (M.bind (M.bind (M.bind (getT ρ 1) dRange1) (lcD (.nm 2) (fun ρ => M.pure true) (fun ρ => M.bind (M.bind (M.bind (getT ρ 0) fun d => M.bind (M.pure []) fun ds => M.pure (d :: ds)) (callT 1 M__law_line)) fun x => M.bind (M.pure none) fun l => M.bind (M.bind (M.bind (M.bind (M.bind (M.pure (.int 60)) fun d => M.bind (M.bind (M.pure (.int 12)) fun d => M.bind (M.pure []) fun ds => M.pure (d :: ds)) fun ds => M.pure (d :: ds)) fun ds => if ds.length ≤ sizeLine then M.pure (.lst ds) else M.stuck) fun x => M.bind (M.bind (M.bind (getT ρ 1) fun x => M.bind (M.pure (.int 3)) fun y => M.bind (cmpD .Gt x y) fun r => M.pure (.bl r)) dInt) fun y => dIx x y) asInt) fun h => dSlice x l h) [2] ρ)) dTuple) fun d => M.pure (.rt d)
def m__law_lines : Rho → M Out := fun ρ =>
  thenO (m__law_lines_s1 ρ) fun ρ =>
  m__law_lines_s2 ρ
def M__law_lines : List D → M D := runDef 3 m__law_lines
theorem j__law_lines {b : Bs} (G : GF b) {k : Nat} (f__law_draw : FOk (b.g [] sc0 k W0) "_law_draw" 2 M__law_draw) (f__law_line : FOk (b.g [] sc0 k W0) "_law_line" 1 M__law_line) (W : WX) : JSs (b.g N__law_lines (defScope H33.s__law_lines) k W) (defBody H33.s__law_lines) m__law_lines :=
  (jss_cons (sSetS (bd (by kernel_rfl)) rfl (je_ix rfl (je_lst (kA rfl (JE.weaken (κ := .sh) (kCallT (by kernel_rfl) (f__law_draw.up (Nat.le_refl _)) (kA rfl (kT (nm (by kernel_rfl))) (kA rfl (JE.weaken (κ := .tp) je_int) JA.nil)))) (kA rfl (JE.weaken (κ := .sh) (kCallT (by kernel_rfl) (f__law_draw.up (Nat.le_refl _)) (kA rfl (kT (nm (by kernel_rfl))) (kA rfl (JE.weaken (κ := .tp) je_int) JA.nil)))) (kA rfl (JE.weaken (κ := .sh) je_int) JA.nil)))) (kCallT (by kernel_rfl) (f__law_draw.up (Nat.le_refl _)) (kA rfl (kT (nm (by kernel_rfl))) (kA rfl (JE.weaken (κ := .tp) je_int) JA.nil)))))
  (jss_one (js_retF (je_tuple (glo (by kernel_rfl) (G.b_tuple)) rfl (kLc [("k", 2)] (by kernel_rfl) (ji_range1 (glo (by kernel_rfl) (G.b_range)) rfl (kT (nm (by kernel_rfl)))) (gNm (bd (by kernel_rfl))) jbs_nil (JE.weaken (κ := .sh) (je_slice (kCallT (by kernel_rfl) (FOk.blk (f__law_line.up (Nat.le_refl _))) (kA rfl (kT (nm (by kernel_rfl))) JA.nil)) jo_none (jo_some (je_ix rfl (je_lst (kA rfl (JE.weaken (κ := .sh) je_int) (kA rfl (JE.weaken (κ := .sh) je_int) JA.nil))) (je_int' (glo (by kernel_rfl) (G.b_int)) rfl (je_cmp rfl (kT (nm (by kernel_rfl))) je_int)))))))))))
theorem sc__law_lines : FnScope N__law_lines ["pen"] (defScope H33.s__law_lines) := ⟨rfl, rfl, rfl, by decide +kernel, rfl, by decide +kernel, by decide +kernel⟩
theorem ok__law_lines {b : Bs} (G : GF b) {k : Nat} (f__law_draw : FOk (b.g [] sc0 k W0) "_law_draw" 2 M__law_draw) (f__law_line : FOk (b.g [] sc0 k W0) "_law_line" 1 M__law_line) {fd : FuncData} (F : FunD b.K "_law_lines" "_law_lines" (defArgs H33.s__law_lines) (defBody H33.s__law_lines) (defScope H33.s__law_lines) [] [] (He.ga b.K "_law_lines") fd) (hg : b.mg "_law_lines" = some (.ref (He.ga b.K "_law_lines"))) : FOk (b.g [] sc0 (k + 1) W0) "_law_lines" 1 M__law_lines :=
  fok_of F sc__law_lines (F.bindsN fun _ _ _ _ _ _ us hl => match us, hl with | [_], _ => rfl) hg (fun W => j__law_lines G f__law_draw f__law_line W)
def N__law_worth : List Str := ["pen", "trait"]
def m__law_worth : Rho → M Out := fun ρ =>
  thenO (M.bind (M.bind (getT ρ 1) fun x => M.bind (M.pure (.str "ink")) fun y => cmpD .Eq x y) fun b => if b = true then (M.bind (M.bind (M.bind (M.bind (M.pure (.str "plain")) fun d => M.bind (M.bind (M.pure (.str "red")) fun d => M.bind (M.bind (M.pure (.str "b1")) fun d => M.bind (M.bind (M.pure (.str "abcdefg8")) fun d => M.bind (M.bind (M.pure (.str "z")) fun d => M.bind (M.pure []) fun ds => M.pure (d :: ds)) fun ds => M.pure (d :: ds)) fun ds => M.pure (d :: ds)) fun ds => M.pure (d :: ds)) fun ds => M.pure (d :: ds)) fun ds => if ds.length ≤ sizeLine then M.pure (.lst ds) else M.stuck) fun x => M.bind (M.bind (M.bind (getT ρ 0) fun d => M.bind (M.bind (M.pure (.int 5)) fun d => M.bind (M.pure []) fun ds => M.pure (d :: ds)) fun ds => M.pure (d :: ds)) (callT 2 M__law_draw)) fun y => dIx x y) retS) else (M.pure (.nx ρ))) fun ρ =>
  thenO (M.bind (M.bind (getT ρ 1) fun x => M.bind (M.bind (M.bind (M.pure (.str "left")) fun d => M.bind (M.bind (M.pure (.str "top")) fun d => M.bind (M.pure []) fun ds => M.pure (d :: ds)) fun ds => M.pure (d :: ds)) fun ds => if ds.length ≤ sizeLine then M.pure (.tup ds) else M.stuck) fun y => cmpD .In x y) fun b => if b = true then (M.bind (M.bind (M.bind (M.bind (M.bind (M.bind (getT ρ 0) fun d => M.bind (M.bind (M.pure (.int 9)) fun d => M.bind (M.pure []) fun ds => M.pure (d :: ds)) fun ds => M.pure (d :: ds)) (callT 2 M__law_draw)) fun d => M.bind (M.bind (M.bind (M.bind (M.pure (.int 999)) fun x => dNeg x) fun x => M.bind (M.bind (M.bind (getT ρ 0) fun d => M.bind (M.bind (M.pure (.int 1999)) fun d => M.bind (M.pure []) fun ds => M.pure (d :: ds)) fun ds => M.pure (d :: ds)) (callT 2 M__law_draw)) fun y => dAdd x y) fun d => M.bind (M.bind (M.bind (M.pure (.int 999)) fun x => dNeg x) fun d => M.bind (M.bind (M.pure (.int 999)) fun d => M.bind (M.pure []) fun ds => M.pure (d :: ds)) fun ds => M.pure (d :: ds)) fun ds => M.pure (d :: ds)) fun ds => M.pure (d :: ds)) fun ds => if ds.length ≤ sizeLine then M.pure (.lst ds) else M.stuck) fun x => M.bind (M.bind (M.bind (getT ρ 0) fun d => M.bind (M.bind (M.pure (.int 4)) fun d => M.bind (M.pure []) fun ds => M.pure (d :: ds)) fun ds => M.pure (d :: ds)) (callT 2 M__law_draw)) fun y => dIx x y) retS) else (M.pure (.nx ρ))) fun ρ =>
  thenO (M.bind (M.bind (getT ρ 1) fun x => M.bind (M.pure (.str "size")) fun y => cmpD .Eq x y) fun b => if b = true then (M.bind (M.bind (M.bind (M.bind (M.pure (.int 1)) fun d => M.bind (M.bind (M.pure (.int 2)) fun d => M.bind (M.bind (M.pure (.int 3)) fun d => M.bind (M.bind (M.bind (M.pure (.int 1)) fun x => M.bind (M.bind (M.bind (getT ρ 0) fun d => M.bind (M.bind (M.pure (.int 99)) fun d => M.bind (M.pure []) fun ds => M.pure (d :: ds)) fun ds => M.pure (d :: ds)) (callT 2 M__law_draw)) fun y => dAdd x y) fun d => M.bind (M.bind (M.pure (.int 99)) fun d => M.bind (M.pure []) fun ds => M.pure (d :: ds)) fun ds => M.pure (d :: ds)) fun ds => M.pure (d :: ds)) fun ds => M.pure (d :: ds)) fun ds => M.pure (d :: ds)) fun ds => if ds.length ≤ sizeLine then M.pure (.lst ds) else M.stuck) fun x => M.bind (M.bind (M.bind (getT ρ 0) fun d => M.bind (M.bind (M.pure (.int 5)) fun d => M.bind (M.pure []) fun ds => M.pure (d :: ds)) fun ds => M.pure (d :: ds)) (callT 2 M__law_draw)) fun y => dIx x y) retS) else (M.pure (.nx ρ))) fun ρ =>
  M.bind (M.bind (M.bind (M.bind (M.bind (M.pure (.int 1)) fun x => M.bind (M.bind (M.bind (getT ρ 0) fun d => M.bind (M.bind (M.pure (.int 30)) fun d => M.bind (M.pure []) fun ds => M.pure (d :: ds)) fun ds => M.pure (d :: ds)) (callT 2 M__law_draw)) fun y => dAdd x y) fun d => M.bind (M.bind (M.bind (M.pure (.int 1)) fun x => M.bind (M.bind (M.bind (getT ρ 0) fun d => M.bind (M.bind (M.pure (.int 60)) fun d => M.bind (M.pure []) fun ds => M.pure (d :: ds)) fun ds => M.pure (d :: ds)) (callT 2 M__law_draw)) fun y => dAdd x y) fun d => M.bind (M.bind (M.bind (M.pure (.int 1)) fun x => M.bind (M.bind (M.bind (getT ρ 0) fun d => M.bind (M.bind (M.pure (.int 999)) fun d => M.bind (M.pure []) fun ds => M.pure (d :: ds)) fun ds => M.pure (d :: ds)) (callT 2 M__law_draw)) fun y => dAdd x y) fun d => M.bind (M.bind (M.pure (.int 1)) fun d => M.bind (M.bind (M.pure (.int 999)) fun d => M.bind (M.pure []) fun ds => M.pure (d :: ds)) fun ds => M.pure (d :: ds)) fun ds => M.pure (d :: ds)) fun ds => M.pure (d :: ds)) fun ds => M.pure (d :: ds)) fun ds => if ds.length ≤ sizeLine then M.pure (.lst ds) else M.stuck) fun x => M.bind (M.bind (M.bind (getT ρ 0) fun d => M.bind (M.bind (M.pure (.int 5)) fun d => M.bind (M.pure []) fun ds => M.pure (d :: ds)) fun ds => M.pure (d :: ds)) (callT 2 M__law_draw)) fun y => dIx x y) retS
def M__law_worth : List D → M D := runDef 2 m__law_worth
theorem j__law_worth {b : Bs} (G : GF b) {k : Nat} (f__law_draw : FOk (b.g [] sc0 k W0) "_law_draw" 2 M__law_draw) (W : WX) : JSs (b.g N__law_worth (defScope H33.s__law_worth) k W) (defBody H33.s__law_worth) m__law_worth :=
  (jss_cons (js_if (jb_cmp rfl (kT (nm (by kernel_rfl))) (kStr (by kernel_rfl))) (jss_one (js_retS (je_ix rfl (je_lst (kA rfl (JE.weaken (κ := .sh) (kStr (by kernel_rfl))) (kA rfl (JE.weaken (κ := .sh) (kStr (by kernel_rfl))) (kA rfl (JE.weaken (κ := .sh) (kStr (by kernel_rfl))) (kA rfl (JE.weaken (κ := .sh) (kStr (by kernel_rfl))) (kA rfl (JE.weaken (κ := .sh) (kStr (by kernel_rfl))) JA.nil)))))) (kCallT (by kernel_rfl) (f__law_draw.up (Nat.le_refl _)) (kA rfl (kT (nm (by kernel_rfl))) (kA rfl (JE.weaken (κ := .tp) je_int) JA.nil)))))) jss_nil)
  (jss_cons (js_if (jb_cmp rfl (kT (nm (by kernel_rfl))) (je_tup (kA rfl (JE.weaken (κ := .sh) (kStr (by kernel_rfl))) (kA rfl (JE.weaken (κ := .sh) (kStr (by kernel_rfl))) JA.nil)))) (jss_one (js_retS (je_ix rfl (je_lst (kA rfl (JE.weaken (κ := .sh) (kCallT (by kernel_rfl) (f__law_draw.up (Nat.le_refl _)) (kA rfl (kT (nm (by kernel_rfl))) (kA rfl (JE.weaken (κ := .tp) je_int) JA.nil)))) (kA rfl (JE.weaken (κ := .sh) (je_add (je_neg je_int) (kCallT (by kernel_rfl) (f__law_draw.up (Nat.le_refl _)) (kA rfl (kT (nm (by kernel_rfl))) (kA rfl (JE.weaken (κ := .tp) je_int) JA.nil))))) (kA rfl (JE.weaken (κ := .sh) (je_neg je_int)) (kA rfl (JE.weaken (κ := .sh) je_int) JA.nil))))) (kCallT (by kernel_rfl) (f__law_draw.up (Nat.le_refl _)) (kA rfl (kT (nm (by kernel_rfl))) (kA rfl (JE.weaken (κ := .tp) je_int) JA.nil)))))) jss_nil)
  (jss_cons (js_if (jb_cmp rfl (kT (nm (by kernel_rfl))) (kStr (by kernel_rfl))) (jss_one (js_retS (je_ix rfl (je_lst (kA rfl (JE.weaken (κ := .sh) je_int) (kA rfl (JE.weaken (κ := .sh) je_int) (kA rfl (JE.weaken (κ := .sh) je_int) (kA rfl (JE.weaken (κ := .sh) (je_add je_int (kCallT (by kernel_rfl) (f__law_draw.up (Nat.le_refl _)) (kA rfl (kT (nm (by kernel_rfl))) (kA rfl (JE.weaken (κ := .tp) je_int) JA.nil))))) (kA rfl (JE.weaken (κ := .sh) je_int) JA.nil)))))) (kCallT (by kernel_rfl) (f__law_draw.up (Nat.le_refl _)) (kA rfl (kT (nm (by kernel_rfl))) (kA rfl (JE.weaken (κ := .tp) je_int) JA.nil)))))) jss_nil)
  (jss_one (js_retS (je_ix rfl (je_lst (kA rfl (JE.weaken (κ := .sh) (je_add je_int (kCallT (by kernel_rfl) (f__law_draw.up (Nat.le_refl _)) (kA rfl (kT (nm (by kernel_rfl))) (kA rfl (JE.weaken (κ := .tp) je_int) JA.nil))))) (kA rfl (JE.weaken (κ := .sh) (je_add je_int (kCallT (by kernel_rfl) (f__law_draw.up (Nat.le_refl _)) (kA rfl (kT (nm (by kernel_rfl))) (kA rfl (JE.weaken (κ := .tp) je_int) JA.nil))))) (kA rfl (JE.weaken (κ := .sh) (je_add je_int (kCallT (by kernel_rfl) (f__law_draw.up (Nat.le_refl _)) (kA rfl (kT (nm (by kernel_rfl))) (kA rfl (JE.weaken (κ := .tp) je_int) JA.nil))))) (kA rfl (JE.weaken (κ := .sh) je_int) (kA rfl (JE.weaken (κ := .sh) je_int) JA.nil)))))) (kCallT (by kernel_rfl) (f__law_draw.up (Nat.le_refl _)) (kA rfl (kT (nm (by kernel_rfl))) (kA rfl (JE.weaken (κ := .tp) je_int) JA.nil)))))))))
theorem sc__law_worth : FnScope N__law_worth ["pen", "trait"] (defScope H33.s__law_worth) := ⟨rfl, rfl, rfl, by decide +kernel, rfl, by decide +kernel, by decide +kernel⟩
theorem ok__law_worth {b : Bs} (G : GF b) {k : Nat} (f__law_draw : FOk (b.g [] sc0 k W0) "_law_draw" 2 M__law_draw) {fd : FuncData} (F : FunD b.K "_law_worth" "_law_worth" (defArgs H33.s__law_worth) (defBody H33.s__law_worth) (defScope H33.s__law_worth) [] [] (He.ga b.K "_law_worth") fd) (hg : b.mg "_law_worth" = some (.ref (He.ga b.K "_law_worth"))) : FOk (b.g [] sc0 (k + 1) W0) "_law_worth" 2 M__law_worth :=
  fok_of F sc__law_worth (F.bindsN fun _ _ _ _ _ _ us hl => match us, hl with | [_, _], _ => rfl) hg (fun W => j__law_worth G f__law_draw W)
def N__law_line_right : List Str := ["line", "wide", "rows", "row", "words", "k", "first", "whole", "word"]
def m__law_line_right_s1 : Rho → M Out := fun ρ =>
  M.bind (M.bind (M.bind (M.bind (M.bind (getS ρ 0) fun d => M.bind (M.pure []) fun ds => M.pure (d :: ds)) fun ds => if ds.length ≤ sizeLine then M.pure (.lst ds) else M.stuck) fun d => M.bind (M.bind (getS ρ 1) fun d => M.bind (M.pure []) fun ds => M.pure (d :: ds)) fun ds => M.pure (d :: ds)) (callD 2 M_rows_of)) fun d => asgS 2 d ρ
def m__law_line_right_s2 : Rho → M Out := fun ρ =>
  M.bind (M.bind (M.bind (M.bind (getT ρ 2) dLen) fun x => M.bind (M.pure (.int 0)) fun y => cmpD .Eq x y) fun r => if r = true then M.pure true else (replNe "" " " "" " " "" (getT ρ 2) (getT ρ 0))) fun b => if b = true then (M.bind (M.pure (.bl false)) fun d => M.pure (.rt d)) else (M.pure (.nx ρ))
def m__law_line_right_b3 : Rho → M Out := fun ρ =>
  thenO (M.bind (M.bind (M.bind (M.bind (getT ρ 3) dLen) fun x => M.bind (getT ρ 1) fun y => cmpD .Gt x y) fun r => if r = true then M.pure true else (M.bind (getT ρ 3) fun x => M.bind (M.bind (isStr (M.pure (.str " "))) fun x => M.bind (M.bind (M.bind (M.bind (isStr (getT ρ 3)) fun x => M.bind (M.pure (.str " ")) fun y => dSplit x y) itemsD) (lcD (.nm 8) (fun ρ => M.bind (getT ρ 8) fun x => M.bind (M.pure (.str "")) fun y => cmpD .NotEq x y) (fun ρ => getS ρ 8) [8] ρ)) fun y => dJoin x y) fun y => cmpD .NotEq x y)) fun b => if b = true then (M.bind (M.pure (.bl false)) fun d => M.pure (.rt d)) else (M.pure (.nx ρ))) fun ρ =>
  M.bind (M.bind (M.bind (getT ρ 3) fun x => M.bind (M.pure (.str "")) fun y => cmpD .Eq x y) fun r => if r = true then (M.bind (M.bind (getT ρ 2) dLen) fun x => M.bind (M.pure (.int 1)) fun y => cmpD .Gt x y) else M.pure false) fun b => if b = true then (M.bind (M.pure (.bl false)) fun d => M.pure (.rt d)) else (M.pure (.nx ρ))
def m__law_line_right_s4 : Rho → M Out := fun ρ =>
  frzM [2] (fun ρ => M.bind (M.bind (getS ρ 2) itemsD) fun ds => forL (.nm 3) m__law_line_right_b3 ds ρ) ρ
def m__law_line_right_s5 : Rho → M Out := fun ρ =>
  M.bind (M.bind (M.bind (M.bind (isStr (getT ρ 0)) fun x => M.bind (M.pure (.str " ")) fun y => dSplit x y) itemsD) (lcD (.nm 8) (fun ρ => M.bind (getT ρ 8) fun x => M.bind (M.pure (.str "")) fun y => cmpD .NotEq x y) (fun ρ => getS ρ 8) [8] ρ)) fun d => asgF 4 d ρ
def m__law_line_right_b6 : Rho → M Out := fun ρ =>
  thenO (M.bind (M.bind (M.bind (isStr (M.bind (getT ρ 2) fun x => M.bind (getT ρ 5) fun y => dIx x y)) fun x => M.bind (M.pure (.str " ")) fun y => dSplit x y) fun x => M.bind (M.pure (.int 0)) fun y => dIx x y) fun d => asgS 6 d ρ) fun ρ =>
  thenO (M.bind (M.bind (M.bind (getT ρ 4) itemsD) (lcD (.nm 8) (fun ρ => M.bind (M.bind (getT ρ 8) fun x => M.bind (M.pure none) fun l => M.bind (M.bind (M.bind (getT ρ 6) dLen) asInt) fun h => dSlice x l h) fun x => M.bind (getT ρ 6) fun y => cmpD .Eq x y) (fun ρ => getS ρ 8) [8] ρ)) fun d => asgF 7 d ρ) fun ρ =>
  M.bind (M.bind (M.bind (M.bind (M.bind (M.bind (M.bind (getT ρ 2) fun x => M.bind (M.bind (getT ρ 5) fun x => M.bind (M.pure (.int 1)) fun y => dSub x y) fun y => dIx x y) dLen) fun x => M.bind (M.pure (.int 1)) fun y => dAdd x y) fun x => M.bind (M.bind (getT ρ 6) dLen) fun y => dAdd x y) fun x => M.bind (getT ρ 1) fun y => cmpD .LtE x y) fun r => if r = true then (M.bind (M.bind (M.bind (M.bind (M.bind (getT ρ 7) itemsD) (lcD (.nm 8) (fun ρ => M.pure true) (fun ρ => M.bind (getT ρ 8) dLen) [8] ρ)) fun x => M.bind (M.bind (M.bind (M.bind (getT ρ 1) fun x => M.bind (M.pure (.int 1)) fun y => dAdd x y) fun d => M.bind (M.pure []) fun ds => M.pure (d :: ds)) fun ds => if ds.length ≤ sizeLine then M.pure (.lst ds) else M.stuck) fun y => dAdd x y) dMin) fun x => M.bind (getT ρ 1) fun y => cmpD .LtE x y) else M.pure false) fun b => if b = true then (M.bind (M.bind (M.bind (M.bind (getT ρ 7) itemsD) (lcD (.nm 8) (fun ρ => M.bind (M.bind (M.bind (M.bind (M.bind (getT ρ 2) fun x => M.bind (M.bind (getT ρ 5) fun x => M.bind (M.pure (.int 1)) fun y => dSub x y) fun y => dIx x y) dLen) fun x => M.bind (M.pure (.int 1)) fun y => dAdd x y) fun x => M.bind (M.bind (getT ρ 8) dLen) fun y => dAdd x y) fun x => M.bind (getT ρ 1) fun y => cmpD .LtE x y) (fun ρ => getS ρ 8) [8] ρ)) fun x => M.bind (getT ρ 7) fun y => cmpD .Eq x y) fun b => if b = true then (M.bind (M.pure (.bl false)) fun d => M.pure (.rt d)) else (M.pure (.nx ρ))) else (M.pure (.nx ρ))
def m__law_line_right_s7 : Rho → M Out := fun ρ =>
  M.bind (M.bind (M.pure (.int 1)) fun x => M.bind (M.bind (getT ρ 2) dLen) fun y => dRange2 x y) fun ds => forL (.nm 5) m__law_line_right_b6 ds ρ
def m__law_line_right_s8 : Rho → M Out := fun ρ =>
  M.bind (M.bind (M.bind (M.bind (M.bind (M.bind (M.bind (getS ρ 0) fun d => M.bind (M.pure []) fun ds => M.pure (d :: ds)) fun ds => if ds.length ≤ sizeLine then M.pure (.lst ds) else M.stuck) fun d => M.bind (M.bind (M.bind (getT ρ 1) fun x => M.bind (M.pure (.int 1)) fun y => dAdd x y) fun d => M.bind (M.pure []) fun ds => M.pure (d :: ds)) fun ds => M.pure (d :: ds)) (callD 2 M_rows_of)) dLen) fun x => M.bind (M.bind (getT ρ 2) dLen) fun y => M.bind (cmpD .LtE x y) fun r => M.pure (.bl r)) fun d => M.pure (.rt d)
def m__law_line_right : Rho → M Out := fun ρ =>
  thenO (m__law_line_right_s1 ρ) fun ρ =>
  thenO (m__law_line_right_s2 ρ) fun ρ =>
  thenO (m__law_line_right_s4 ρ) fun ρ =>
  thenO (m__law_line_right_s5 ρ) fun ρ =>
  thenO (m__law_line_right_s7 ρ) fun ρ =>
  m__law_line_right_s8 ρ
def M__law_line_right : List D → M D := runDef 9 m__law_line_right
theorem j__law_line_right {b : Bs} (G : GF b) {k : Nat} (f_rows_of : FOk (b.g [] sc0 k W0) "rows_of" 2 M_rows_of) (W : WX) : JSs (b.g N__law_line_right (defScope H33.s__law_line_right) k W) (defBody H33.s__law_line_right) m__law_line_right :=
  (jss_cons (sSetS (bd (by kernel_rfl)) rfl (kCallS (by kernel_rfl) (f_rows_of.up (Nat.le_refl _)) (kA rfl (JE.weaken (κ := .sh) (je_lst (kA rfl (kS (nm (by kernel_rfl))) JA.nil))) (kA rfl (kS (nm (by kernel_rfl))) JA.nil))))
  (jss_cons (js_if (JW.jb (jw_or (jb_cmp rfl (je_len (glo (by kernel_rfl) (G.b_len)) rfl (kT (nm (by kernel_rfl)))) je_int) (jw_or1 (jb_replNe (by kernel_rfl) (kT (nm (by kernel_rfl))) (kT (nm (by kernel_rfl))))))) (jss_one (js_retF je_bl)) jss_nil)
  (jss_cons (JS.frz [2] (js_for rfl (ji_any shNe (kS (nm (by kernel_rfl)))) (gNm (bd (by kernel_rfl))) (jss_cons (js_if (JW.jb (jw_or (jb_cmp rfl (je_len (glo (by kernel_rfl) (G.b_len)) rfl (kT (nm (by kernel_rfl)))) (kT (nm (by kernel_rfl)))) (jw_or1 (jb_cmp rfl (kT (nm (by kernel_rfl))) (je_join rfl rfl rfl (kStr (by kernel_rfl)) (kLc [("word", 8)] (by kernel_rfl) (ji_any shNe (JE.weaken (κ := .sh) (je_split rfl rfl rfl (kT (nm (by kernel_rfl))) (kStr (by kernel_rfl))))) (gNm (bd (by kernel_rfl))) (jbs_one (jb_cmp rfl (kT (nm (by kernel_rfl))) (kStr (by kernel_rfl)))) (kS (nm (by kernel_rfl))))))))) (jss_one (js_retF je_bl)) jss_nil)
  (jss_one (js_if (JW.jb (jw_and (jb_cmp rfl (kT (nm (by kernel_rfl))) (kStr (by kernel_rfl))) (jw_and1 (jb_cmp rfl (je_len (glo (by kernel_rfl) (G.b_len)) rfl (kT (nm (by kernel_rfl)))) je_int)))) (jss_one (js_retF je_bl)) jss_nil)))))
  (jss_cons (sSetLc [("word", 8)] (bd (by kernel_rfl)) (by kernel_rfl) (ji_any shNe (JE.weaken (κ := .sh) (je_split rfl rfl rfl (kT (nm (by kernel_rfl))) (kStr (by kernel_rfl))))) (gNm (bd (by kernel_rfl))) (jbs_one (jb_cmp rfl (kT (nm (by kernel_rfl))) (kStr (by kernel_rfl)))) (kS (nm (by kernel_rfl))))
  (jss_cons (js_for rfl (ji_range2 (glo (by kernel_rfl) (G.b_range)) rfl rfl je_int (je_len (glo (by kernel_rfl) (G.b_len)) rfl (kT (nm (by kernel_rfl))))) (gNm (bd (by kernel_rfl))) (jss_cons (sSetS (bd (by kernel_rfl)) rfl (je_ix rfl (je_split rfl rfl rfl (je_ix rfl (kT (nm (by kernel_rfl))) (kT (nm (by kernel_rfl)))) (kStr (by kernel_rfl))) je_int))
  (jss_cons (sSetLc [("word", 8)] (bd (by kernel_rfl)) (by kernel_rfl) (ji_any tpNe (kT (nm (by kernel_rfl)))) (gNm (bd (by kernel_rfl))) (jbs_one (jb_cmp rfl (je_slice (kT (nm (by kernel_rfl))) jo_none (jo_some (je_len (glo (by kernel_rfl) (G.b_len)) rfl (kT (nm (by kernel_rfl)))))) (kT (nm (by kernel_rfl))))) (kS (nm (by kernel_rfl))))
  (jss_one (js_if (JW.jb (jw_and (jb_cmp rfl (je_add (je_add (je_len (glo (by kernel_rfl) (G.b_len)) rfl (je_ix rfl (kT (nm (by kernel_rfl))) (je_sub (kT (nm (by kernel_rfl))) je_int))) je_int) (je_len (glo (by kernel_rfl) (G.b_len)) rfl (kT (nm (by kernel_rfl))))) (kT (nm (by kernel_rfl)))) (jw_and1 (jb_cmp rfl (je_min (glo (by kernel_rfl) (G.b_min)) rfl (je_add (kLc [("word", 8)] (by kernel_rfl) (ji_any tpNe (kT (nm (by kernel_rfl)))) (gNm (bd (by kernel_rfl))) jbs_nil (JE.weaken (κ := .sh) (je_len (glo (by kernel_rfl) (G.b_len)) rfl (kT (nm (by kernel_rfl)))))) (je_lst (kA rfl (JE.weaken (κ := .sh) (je_add (kT (nm (by kernel_rfl))) je_int)) JA.nil)))) (kT (nm (by kernel_rfl))))))) (jss_one (js_if (jb_cmp rfl (kLc [("word", 8)] (by kernel_rfl) (ji_any tpNe (kT (nm (by kernel_rfl)))) (gNm (bd (by kernel_rfl))) (jbs_one (jb_cmp rfl (je_add (je_add (je_len (glo (by kernel_rfl) (G.b_len)) rfl (je_ix rfl (kT (nm (by kernel_rfl))) (je_sub (kT (nm (by kernel_rfl))) je_int))) je_int) (je_len (glo (by kernel_rfl) (G.b_len)) rfl (kT (nm (by kernel_rfl))))) (kT (nm (by kernel_rfl))))) (kS (nm (by kernel_rfl)))) (kT (nm (by kernel_rfl)))) (jss_one (js_retF je_bl)) jss_nil)) jss_nil)))))
  (jss_one (js_retF (je_cmp rfl (je_len (glo (by kernel_rfl) (G.b_len)) rfl (kCallS (by kernel_rfl) (f_rows_of.up (Nat.le_refl _)) (kA rfl (JE.weaken (κ := .sh) (je_lst (kA rfl (kS (nm (by kernel_rfl))) JA.nil))) (kA rfl (JE.weaken (κ := .sh) (je_add (kT (nm (by kernel_rfl))) je_int)) JA.nil)))) (je_len (glo (by kernel_rfl) (G.b_len)) rfl (kT (nm (by kernel_rfl))))))))))))
theorem sc__law_line_right : FnScope N__law_line_right ["line", "wide"] (defScope H33.s__law_line_right) := ⟨rfl, rfl, rfl, by decide +kernel, rfl, by decide +kernel, by decide +kernel⟩
theorem ok__law_line_right {b : Bs} (G : GF b) {k : Nat} (f_rows_of : FOk (b.g [] sc0 k W0) "rows_of" 2 M_rows_of) {fd : FuncData} (F : FunD b.K "_law_line_right" "_law_line_right" (defArgs H33.s__law_line_right) (defBody H33.s__law_line_right) (defScope H33.s__law_line_right) [] [] (He.ga b.K "_law_line_right") fd) (hg : b.mg "_law_line_right" = some (.ref (He.ga b.K "_law_line_right"))) : FOk (b.g [] sc0 (k + 1) W0) "_law_line_right" 2 M__law_line_right :=
  fok_of F sc__law_line_right (F.bindsN fun _ _ _ _ _ _ us hl => match us, hl with | [_, _], _ => rfl) hg (fun W => j__law_line_right G f_rows_of W)
def N_law : List Str := ["script", "pen", "k", "lines", "wide", "joined", "line"]
def m_law_b1 : Rho → M Out := fun ρ =>
  thenO (M.bind (M.bind (M.bind (M.bind (M.bind (getT ρ 6) fun d => M.bind (M.bind (getT ρ 4) fun d => M.bind (M.pure []) fun ds => M.pure (d :: ds)) fun ds => M.pure (d :: ds)) (callT 2 M__law_line_right)) dTru) fun b => M.pure (!b)) fun b => if b = true then (M.bind (M.pure (.bl false)) fun d => M.pure (.rt d)) else (M.pure (.nx ρ))) fun ρ =>
  M.bind (M.bind (getT ρ 5) fun x => M.bind (M.bind (M.bind (M.bind (M.bind (getS ρ 6) fun d => M.bind (M.pure []) fun ds => M.pure (d :: ds)) fun ds => if ds.length ≤ sizeLine then M.pure (.lst ds) else M.stuck) fun d => M.bind (M.bind (getS ρ 4) fun d => M.bind (M.pure []) fun ds => M.pure (d :: ds)) fun ds => M.pure (d :: ds)) (callD 2 M_rows_of)) fun y => dAdd x y) fun d => asgF 5 d ρ
def m_law_b2 : Rho → M Out := fun ρ =>
  thenO (M.bind (M.bind (M.bind (getT ρ 1) fun d => M.bind (M.pure []) fun ds => M.pure (d :: ds)) (callT 1 M__law_lines)) fun d => asgF 3 d ρ) fun ρ =>
  thenO (M.bind (M.bind (M.pure (.int 1)) fun x => M.bind (M.bind (M.bind (getT ρ 1) fun d => M.bind (M.bind (M.bind (M.bind (M.bind (M.pure (.int 5)) fun d => M.bind (M.bind (M.pure (.int 40)) fun d => M.bind (M.pure []) fun ds => M.pure (d :: ds)) fun ds => M.pure (d :: ds)) fun ds => if ds.length ≤ sizeLine then M.pure (.lst ds) else M.stuck) fun x => M.bind (M.bind (M.bind (getT ρ 1) fun d => M.bind (M.bind (M.pure (.int 2)) fun d => M.bind (M.pure []) fun ds => M.pure (d :: ds)) fun ds => M.pure (d :: ds)) (callT 2 M__law_draw)) fun y => dIx x y) fun d => M.bind (M.pure []) fun ds => M.pure (d :: ds)) fun ds => M.pure (d :: ds)) (callT 2 M__law_draw)) fun y => dAdd x y) fun d => asgF 4 d ρ) fun ρ =>
  thenO (M.bind (M.bind (M.pure []) fun ds => if ds.length ≤ sizeLine then M.pure (.lst ds) else M.stuck) fun d => asgF 5 d ρ) fun ρ =>
  thenO (M.bind (M.bind (getS ρ 3) itemsD) fun ds => forL (.nm 6) m_law_b1 ds ρ) fun ρ =>
  M.bind (M.bind (M.bind (M.bind (getS ρ 3) fun d => M.bind (M.bind (getS ρ 4) fun d => M.bind (M.pure []) fun ds => M.pure (d :: ds)) fun ds => M.pure (d :: ds)) (callF 2 M_rows_of)) fun x => M.bind (getT ρ 5) fun y => cmpD .NotEq x y) fun b => if b = true then (M.bind (M.pure (.bl false)) fun d => M.pure (.rt d)) else (M.pure (.nx ρ))
def m_law_s3 : Rho → M Out := fun ρ =>
  M.bind (M.bind (M.bind (M.pure (.int 1)) fun x => M.bind (M.bind (M.bind (getT ρ 1) fun d => M.bind (M.bind (M.pure (.int 10)) fun d => M.bind (M.pure []) fun ds => M.pure (d :: ds)) fun ds => M.pure (d :: ds)) (callT 2 M__law_draw)) fun y => dAdd x y) dRange1) fun ds => forL (.nm 2) m_law_b2 ds ρ
def m_law_s4 : Rho → M Out := fun ρ =>
  M.bind (M.pure (.bl true)) fun d => M.pure (.rt d)
def m_law : Rho → M Out := fun ρ =>
  thenO (m_law_s3 ρ) fun ρ =>
  m_law_s4 ρ
theorem j_law {b : Bs} (G : GF b) {k : Nat} (f__law_draw : FOk (b.g [] sc0 k W0) "_law_draw" 2 M__law_draw) (f__law_lines : FOk (b.g [] sc0 k W0) "_law_lines" 1 M__law_lines) (f__law_line_right : FOk (b.g [] sc0 k W0) "_law_line_right" 2 M__law_line_right) (f_rows_of : FOk (b.g [] sc0 k W0) "rows_of" 2 M_rows_of) (W : WX) : JSs (b.g N_law (defScope H33.s_law) k W) ((defBody H33.s_law).tail) m_law :=
  (jss_cons (js_for rfl (ji_range1 (glo (by kernel_rfl) (G.b_range)) rfl (je_add je_int (kCallT (by kernel_rfl) (f__law_draw.up (Nat.le_refl _)) (kA rfl (kT (nm (by kernel_rfl))) (kA rfl (JE.weaken (κ := .tp) je_int) JA.nil))))) (gNm (bd (by kernel_rfl))) (jss_cons (sSetF (bd (by kernel_rfl)) rfl (kCallT (by kernel_rfl) (f__law_lines.up (Nat.le_refl _)) (kA rfl (kT (nm (by kernel_rfl))) JA.nil)))
  (jss_cons (sSetF (bd (by kernel_rfl)) rfl (je_add je_int (kCallT (by kernel_rfl) (f__law_draw.up (Nat.le_refl _)) (kA rfl (kT (nm (by kernel_rfl))) (kA rfl (JE.top (je_ix rfl (je_lst (kA rfl (JE.weaken (κ := .sh) je_int) (kA rfl (JE.weaken (κ := .sh) je_int) JA.nil))) (kCallT (by kernel_rfl) (f__law_draw.up (Nat.le_refl _)) (kA rfl (kT (nm (by kernel_rfl))) (kA rfl (JE.weaken (κ := .tp) je_int) JA.nil))))) JA.nil)))))
  (jss_cons (sSetF (bd (by kernel_rfl)) rfl (je_lst JA.nil))
  (jss_cons (js_for rfl (ji_any shNe (kS (nm (by kernel_rfl)))) (gNm (bd (by kernel_rfl))) (jss_cons (js_if (jb_not (jb_truth rfl (kCallT (by kernel_rfl) (f__law_line_right.up (Nat.le_refl _)) (kA rfl (kT (nm (by kernel_rfl))) (kA rfl (kT (nm (by kernel_rfl))) JA.nil))))) (jss_one (js_retF je_bl)) jss_nil)
  (jss_one (sSetF (bd (by kernel_rfl)) rfl (je_add (kT (nm (by kernel_rfl))) (kCallS (by kernel_rfl) (f_rows_of.up (Nat.le_refl _)) (kA rfl (JE.weaken (κ := .sh) (je_lst (kA rfl (kS (nm (by kernel_rfl))) JA.nil))) (kA rfl (kS (nm (by kernel_rfl))) JA.nil))))))))
  (jss_one (js_if (jb_cmp rfl (kCallF (by kernel_rfl) (f_rows_of.up (Nat.le_refl _)) (kA rfl (kS (nm (by kernel_rfl))) (kA rfl (kS (nm (by kernel_rfl))) JA.nil))) (kT (nm (by kernel_rfl)))) (jss_one (js_retF je_bl)) jss_nil)))))))
  (jss_one (js_retF je_bl)))
theorem sc_law : FnScope N_law ["script"] (defScope H33.s_law) := ⟨rfl, rfl, rfl, by decide +kernel, rfl, by decide +kernel, by decide +kernel⟩
theorem ok_law {b : Bs} (G : GF b) (hT : b.T = []) {f fP : Addr} {fd fdP : FuncData} {k : Nat} (F : FunD b.K "law" "law" (defArgs H33.s_law) (defBody H33.s_law) (defScope H33.s_law) [] [] f fd) (FP : FnOk b.P b.w b.K b.mg b.base (L2.CX b.P b.w) k fP fdP ["script"] (spPen b.K)) (hP : b.mg "_law_pen" = some (.ref fP)) (kP : PySem.W.keepIn b.K (.ref fP) = true) (bP : Binds b.K fdP ["script"] []) (f__law_draw : FOk (b.g [] sc0 k W0) "_law_draw" 2 M__law_draw) (f__law_lines : FOk (b.g [] sc0 k W0) "_law_lines" 1 M__law_lines) (f__law_line_right : FOk (b.g [] sc0 k W0) "_law_line_right" 2 M__law_line_right) (f_rows_of : FOk (b.g [] sc0 k W0) "rows_of" 2 M_rows_of)
    (law : ∀ ns : List Int, ns.length ≤ 63 → ∃ p', m_law (lawR 7) (some ⟨ns, 0, 0⟩) = .ok (.rt (.bl true)) p') : FnOk b.P b.w b.K b.mg b.base CX0 (k + 1) f fd ["script"] (spLaw b.K) :=
  fn_law (N := ["k", "lines", "wide", "joined", "line"]) hT F sc_law rfl FP hP kP bP (by kernel_rfl) (by kernel_rfl) (by kernel_rfl) (fun W => j_law G f__law_draw f__law_lines f__law_line_right f_rows_of W) law
theorem chain {P : Program} {w : World} {K : PySem.W.Frag} {mg : Str → Option Value} (c : He.SaysD H33.fa H33.fn K)
    (law : ∀ ns : List Int, ns.length ≤ 63 → ∃ p', m_law (lawR 7) (some ⟨ns, 0, 0⟩) = .ok (.rt (.bl true)) p') :
    ∃ fd : FuncData, (∀ (s : Shared) (v : Value), BindsTo s fd ⟨[v], []⟩ [("script", v)]) ∧ ∀ base : Heap, K.In base → base.Ns mainGlobals mg → FnOk P w K mg base CX0 13 (He.ga K "law") fd ["script"] (spLaw K) := by
  obtain ⟨fd_is_whole, F_is_whole⟩ := c.def_ 0 (d := H33.d_is_whole) rfl
  obtain ⟨fd_words_in, F_words_in⟩ := c.def_ 1 (d := H33.d_words_in) rfl
  obtain ⟨fd_rows_in, F_rows_in⟩ := c.def_ 2 (d := H33.d_rows_in) rfl
  obtain ⟨fd_wrapped, F_wrapped⟩ := c.def_ 3 (d := H33.d_wrapped) rfl
  obtain ⟨fd_must_be_wide, F_must_be_wide⟩ := c.def_ 4 (d := H33.d_must_be_wide) rfl
  obtain ⟨fd_rows_of, F_rows_of⟩ := c.def_ 5 (d := H33.d_rows_of) rfl
  obtain ⟨fd__law_pen, F__law_pen⟩ := c.def_ 6 (d := H33.d__law_pen) rfl
  obtain ⟨fd__law_draw, F__law_draw⟩ := c.def_ 7 (d := H33.d__law_draw) rfl
  obtain ⟨fd__law_line, F__law_line⟩ := c.def_ 8 (d := H33.d__law_line) rfl
  obtain ⟨fd__law_lines, F__law_lines⟩ := c.def_ 9 (d := H33.d__law_lines) rfl
  obtain ⟨fd__law_worth, F__law_worth⟩ := c.def_ 10 (d := H33.d__law_worth) rfl
  obtain ⟨fd__law_line_right, F__law_line_right⟩ := c.def_ 11 (d := H33.d__law_line_right) rfl
  obtain ⟨fd_law, F_law⟩ := c.def_ 12 (d := H33.d_law) rfl
  refine ⟨fd_law, fun s v => FunD.bindsA (ps := ["script"]) F_law (fun _ _ _ _ _ _ us hl => match us, hl with | [_], _ => rfl) s [v] rfl, fun base X Gh => ?_⟩
  have e_NoRoom := He.exc_ok (c.fact 24 (f := .exc "NoRoom") rfl)
  have G : GF (Bs.mk P w K mg base []) := ⟨He.free_ok X Gh (c.fact 15 (f := .free "bool") rfl), He.free_ok X Gh (c.fact 16 (f := .free "int") rfl), He.free_ok X Gh (c.fact 17 (f := .free "isinstance") rfl), He.free_ok X Gh (c.fact 18 (f := .free "len") rfl), He.free_ok X Gh (c.fact 19 (f := .free "list") rfl), He.free_ok X Gh (c.fact 20 (f := .free "min") rfl), He.free_ok X Gh (c.fact 21 (f := .free "range") rfl), He.free_ok X Gh (c.fact 22 (f := .free "tuple") rfl), ⟨⟨_, _, _, _, PySem.F.excBase_ValueError, e_NoRoom.1⟩, He.glo_ok X Gh (c.fact 14 (f := .glo "NoRoom") rfl), e_NoRoom.2.1, e_NoRoom.2.2.1, e_NoRoom.2.2.2⟩⟩
  have f_is_whole := ok_is_whole G (k := 0)  F_is_whole (He.glo_ok X Gh (c.fact 0 (f := .glo "is_whole") rfl))
  have f_words_in := ok_words_in G (k := 1)  F_words_in (He.glo_ok X Gh (c.fact 1 (f := .glo "words_in") rfl))
  have f_rows_in := ok_rows_in G (k := 2) (f_words_in.up (by decide)) F_rows_in (He.glo_ok X Gh (c.fact 2 (f := .glo "rows_in") rfl))
  have f_wrapped := ok_wrapped G (k := 3) (f_rows_in.up (by decide)) F_wrapped (He.glo_ok X Gh (c.fact 3 (f := .glo "wrapped") rfl))
  have f_must_be_wide := ok_must_be_wide G (k := 4) (f_is_whole.up (by decide)) F_must_be_wide (He.glo_ok X Gh (c.fact 4 (f := .glo "must_be_wide") rfl))
  have f_rows_of := ok_rows_of G (k := 5) (f_must_be_wide.up (by decide)) (f_wrapped.up (by decide)) F_rows_of (He.glo_ok X Gh (c.fact 5 (f := .glo "rows_of") rfl))
  have f__law_pen := ok__law_pen G (k := 6) F__law_pen
  have f__law_draw := ok__law_draw G (k := 7)  F__law_draw (He.glo_ok X Gh (c.fact 7 (f := .glo "_law_draw") rfl))
  have f__law_line := ok__law_line G (k := 8) (f__law_draw.up (by decide)) F__law_line (He.glo_ok X Gh (c.fact 8 (f := .glo "_law_line") rfl))
  have f__law_lines := ok__law_lines G (k := 9) (f__law_draw.up (by decide)) (f__law_line.up (by decide)) F__law_lines (He.glo_ok X Gh (c.fact 9 (f := .glo "_law_lines") rfl))
  have f__law_worth := ok__law_worth G (k := 10) (f__law_draw.up (by decide)) F__law_worth (He.glo_ok X Gh (c.fact 10 (f := .glo "_law_worth") rfl))
  have f__law_line_right := ok__law_line_right G (k := 11) (f_rows_of.up (by decide)) F__law_line_right (He.glo_ok X Gh (c.fact 11 (f := .glo "_law_line_right") rfl))
  exact ok_law G (k := 12) rfl F_law (f__law_pen.mono (by decide)) (He.glo_ok X Gh (c.fact 6 (f := .glo "_law_pen") rfl)) F__law_pen.kp (F__law_pen.bindsN fun _ _ _ _ _ _ us hl => match us, hl with | [_], _ => rfl) (f__law_draw.up (by decide)) (f__law_lines.up (by decide)) (f__law_line_right.up (by decide)) (f_rows_of.up (by decide)) law
end L33
/-! P33 -/
namespace L33
open PySem PySem.Spec PyProof.Rows L2 MS

abbrev chs (s : Str) : List Nat := s.cps.toList
def wordsS (s : Str) : List Str := (spl 32 s).filter fun w => !decide (w = "")
theorem blank_cps : (" " : Str) = ⟨#[32]⟩ := by decide
theorem blank_len : (" " : Str).length = 1 := by decide
theorem blank_at : (" " : Str).cps[0]?.getD 0 = 32 := by decide
theorem is_whole_int {i : Int} : M_is_whole [.int i] = M.pure (.bl true) := by
  simp [M_is_whole, runDef, m_is_whole, startR, isi]
theorem words_in_ok {s : Str} (h : s.length + 2 ≤ sizeLine) : M_words_in [.str s] = M.pure (.lst ((wordsS s).map .str)) := by
  simp [M_words_in, runDef, m_words_in, startR, dSplit, h, lcD, noOwn, blank_len, blank_at]
  rw [lcLoop_filter (q := fun w => !decide (w = ""))]
  · rfl
  · intro w _
    simp [lcStep, Tg.set, wipeR]
    split <;> simp_all
end L33
/-! P33b -/
namespace L33
open PySem PySem.Spec PyProof.Rows L2 MS

def tk (w : Nat) (s : Str) : Str := ⟨((chs s).take w).toArray⟩
def dr (w : Nat) (s : Str) : Str := ⟨((chs s).drop w).toArray⟩
theorem len_chs (s : Str) : s.length = (chs s).length := by
  show s.cps.size = s.cps.toList.length
  simp
theorem tk_len (w : Nat) (s : Str) : (tk w s).length = min w s.length := by rw [len_chs, len_chs]; simp [tk]
theorem dr_len (w : Nat) (s : Str) : (dr w s).length = s.length - w := by rw [len_chs, len_chs]; simp [dr]
theorem slice_tk {s : Str} {w : Nat} : dSlice (.str s) none (some (w : Int)) = M.pure (.str (tk w s)) := by
  show M.pure (MS.D.str (cutS s none (some (w : Int)))) = _
  unfold cutS tk
  rw [HT.sIx_nat, HT.sIx_none]
  congr 3
  rw [Nat.sub_zero, List.drop_zero, show List.take (min w s.length) s.cps.toList = List.take w (chs s) from by rw [List.take_eq_take_iff, len_chs]; simp]
theorem slice_dr {s : Str} {w : Nat} : dSlice (.str s) (some (w : Int)) none = M.pure (.str (dr w s)) := by
  show M.pure (MS.D.str (cutS s (some (w : Int)) none)) = _
  unfold cutS dr
  rw [HT.sIx_nat, HT.sIx_none]
  congr 3
  rw [List.take_of_length_le (by rw [List.length_drop, len_chs]; exact Nat.le_refl _)]
  by_cases h : w ≤ s.length
  · rw [Nat.min_eq_left h]
  · rw [Nat.min_eq_right (by omega), List.drop_of_length_le (by rw [len_chs]; exact Nat.le_refl _), List.drop_of_length_le (by rw [len_chs] at h; omega)]
/-- a row too long, parted -/
def partW (w : Nat) : Nat → Str → List Str × Str
  | 0, s => ([], s)
  | n + 1, s => if w < s.length then (tk w s :: (partW w n (dr w s)).1, (partW w n (dr w s)).2) else ([], s)
theorem while_ok {w : Nat} (hw : 1 ≤ w) : ∀ (n : Nat) (a c : Cel) (found : List Str) (row : Str) (k : Nat), row.length ≤ n → n < k → found.length + row.length ≤ 1000000 →
    whileF m_rows_in_t1 m_rows_in_b2 k [a, .val (.int w), .own (.lst (found.map .str)), .val (.str row), c] = M.pure (.nx [a, .val (.int w), .own (.lst ((found ++ (partW w n row).1).map .str)), .val (.str (partW w n row).2), c])
  | n, a, c, found, row, 0, h, hk, hz => absurd hk (by omega)
  | 0, a, c, found, row, k + 1, h, hk, hz => by
    have h0 : ¬ ((w : Int) < (row.length : Int)) := by omega
    unfold whileF
    simp [m_rows_in_t1, h0, partW]
  | n + 1, a, c, found, row, k + 1, h, hk, hz => by
    unfold whileF partW
    by_cases h0 : w < row.length
    · have h1 : ((w : Int) < (row.length : Int)) := by omega
      have e1 : found.length < sizeLine := by rw [sizeLine_eq]; omega
      have e2 : found.length + 1 ≤ sizeLine := by rw [sizeLine_eq]; omega
      have ih := while_ok hw n a c (found ++ [tk w row]) (dr w row) k (by rw [dr_len]; omega) (by omega) (by rw [dr_len]; simp; omega)
      simp [m_rows_in_t1, h1, h0, m_rows_in_b2, ownUpd, slice_tk, slice_dr, appD, e1, e2]
      simpa using ih
    · have h1 : ¬ ((w : Int) < (row.length : Int)) := by omega
      simp [m_rows_in_t1, h1, h0]
/-- one word laid -/
def stepW (w : Nat) (st : List Str × Str) (x : Str) : List Str × Str :=
  if st.2 ≠ "" ∧ st.2.length + 1 + x.length ≤ w then (st.1, st.2 ++ " " ++ x)
  else ((if st.2 ≠ "" then st.1 ++ [st.2] else st.1) ++ (partW w x.length x).1, (partW w x.length x).2)
def goW (w : Nat) : List Str → List Str × Str → List Str × Str
  | [], st => st
  | x :: xs, st => goW w xs (stepW w st x)
def rowsW (w : Nat) (xs : List Str) : List Str := (goW w xs ([], "")).1 ++ [(goW w xs ([], "")).2]
theorem app_len (a b : Str) : (a ++ b).length = a.length + b.length := by
  rw [len_chs, len_chs, len_chs]
  show (a.cps ++ b.cps).toList.length = _
  simp
theorem partW_len {w : Nat} (hw : 1 ≤ w) : ∀ (n : Nat) (s : Str), (partW w n s).1.length ≤ s.length ∧ (partW w n s).2.length ≤ s.length ∧ (s.length ≤ n → (partW w n s).2.length ≤ w)
  | 0, s => by simp [partW]; omega
  | n + 1, s => by
    unfold partW
    by_cases h : w < s.length
    · rw [if_pos h]
      obtain ⟨h1, h2, h3⟩ := partW_len hw n (dr w s)
      rw [dr_len] at h1 h2 h3
      refine ⟨by simp; omega, by simp; omega, fun h4 => h3 (by omega)⟩
    · rw [if_neg h]
      simp; omega
def costW : List Str → Nat
  | [] => 0
  | x :: xs => x.length + 2 + costW xs
theorem step_ok {w : Nat} (hw : 1 ≤ w) (hw2 : w ≤ 1000) (a : Cel) (found : List Str) (row x : Str) (hr : row.length ≤ w) (hx : x.length ≤ 1000) (hz : found.length + x.length + 2 ≤ 100000) :
    m_rows_in_b3 [a, .val (.int w), .own (.lst (found.map .str)), .val (.str row), .val (.str x)] = M.pure (.nx [a, .val (.int w), .own (.lst ((stepW w (found, row) x).1.map .str)), .val (.str (stepW w (found, row) x).2), .val (.str x)]) := by
  unfold m_rows_in_b3 stepW
  have hb : (" " : Str).length = 1 := blank_len
  have hwh : ∀ fnd : List Str, fnd.length ≤ found.length + 1 → whileF m_rows_in_t1 m_rows_in_b2 fuelW [a, .val (.int w), .own (.lst (fnd.map .str)), .val (.str x), .val (.str x)] = M.pure (.nx [a, .val (.int w), .own (.lst ((fnd ++ (partW w x.length x).1).map .str)), .val (.str (partW w x.length x).2), .val (.str x)]) := fun fnd hf =>
    while_ok hw x.length a (.val (.str x)) fnd x fuelW (Nat.le_refl _) (by unfold fuelW; omega) (by omega)
  have e0 : row.length + 1 ≤ sizeLine := by rw [sizeLine_eq]; omega
  have e1 : row.length + 1 + x.length ≤ sizeLine := by rw [sizeLine_eq]; omega
  have e2 : found.length < sizeLine := by rw [sizeLine_eq]; omega
  have e3 : found.length + 1 ≤ sizeLine := by rw [sizeLine_eq]; omega
  by_cases h0 : row = ""
  · subst h0
    simpa using hwh found (by omega)
  · by_cases h1 : row.length + 1 + x.length ≤ w
    · have h1' : (row.length : Int) + 1 + (x.length : Int) ≤ (w : Int) := by omega
      simp [h0, h1, h1', dAdd, hb, app_len, e0, e1]
    · have h1' : ¬ ((row.length : Int) + 1 + (x.length : Int) ≤ (w : Int)) := by omega
      have := hwh (found ++ [row]) (by simp)
      simp [h0, h1, h1', ownUpd, appD, e2, e3]
      simpa using this
theorem stepW_row {w : Nat} (hw : 1 ≤ w) {st : List Str × Str} {x : Str} (h : st.2.length ≤ w) : (stepW w st x).2.length ≤ w ∧ (stepW w st x).1.length ≤ st.1.length + x.length + 1 := by
  unfold stepW
  split
  · rename_i hh
    refine ⟨?_, by simp; omega⟩
    rw [app_len, app_len, blank_len]
    exact hh.2
  · obtain ⟨h1, h2, h3⟩ := partW_len hw x.length x
    refine ⟨h3 (Nat.le_refl _), ?_⟩
    split <;> simp <;> omega
theorem go_ok {w : Nat} (hw : 1 ≤ w) (hw2 : w ≤ 1000) (a : Cel) : ∀ (xs : List Str) (found : List Str) (row : Str) (c : Cel), row.length ≤ w → (∀ x ∈ xs, x.length ≤ 1000) → found.length + costW xs ≤ 100000 →
    ∃ c', forL (.nm 4) m_rows_in_b3 (xs.map .str) [a, .val (.int w), .own (.lst (found.map .str)), .val (.str row), c] = M.pure (.nx [a, .val (.int w), .own (.lst ((goW w xs (found, row)).1.map .str)), .val (.str (goW w xs (found, row)).2), c'])
  | [], found, row, c, _, _, _ => ⟨c, rfl⟩
  | x :: xs, found, row, c, hr, hx, hz => by
    unfold costW at hz
    obtain ⟨h1, h2⟩ := stepW_row (st := (found, row)) (x := x) hw hr
    obtain ⟨c', ih⟩ := go_ok hw hw2 a xs (stepW w (found, row) x).1 (stepW w (found, row) x).2 (.val (.str x)) h1 (fun y hy => hx y (by simp [hy])) (by simp only [] at h2; omega)
    refine ⟨c', ?_⟩
    rw [List.map_cons, forL_nm]
    simp only [List.set]
    rw [step_ok hw hw2 a found row x hr (hx x (by simp)) (by omega), pure_bind']
    simp only []
    rw [ih]
    rfl
theorem goW_len {w : Nat} (hw : 1 ≤ w) : ∀ (xs : List Str) (st : List Str × Str), st.2.length ≤ w → (goW w xs st).1.length ≤ st.1.length + costW xs ∧ (goW w xs st).2.length ≤ w
  | [], st, h => ⟨by simp [goW, costW], h⟩
  | x :: xs, st, h => by
    obtain ⟨h1, h2⟩ := stepW_row (x := x) hw h
    obtain ⟨h3, h4⟩ := goW_len hw xs (stepW w st x) h1
    unfold goW costW
    exact ⟨by omega, h4⟩
theorem rows_in_ok {w : Nat} {s : Str} (hw : 1 ≤ w) (hw2 : w ≤ 1000) (hs : s.length ≤ 1000) (hx : ∀ x ∈ wordsS s, x.length ≤ 1000) (hz : costW (wordsS s) ≤ 90000) : M_rows_in [.str s, .int w] = M.pure (.lst ((rowsW w (wordsS s)).map .str)) := by
  have h1 : s.length + 2 ≤ sizeLine := by rw [sizeLine_eq]; omega
  have z : ([] : List MS.D).length ≤ sizeLine := by simp
  have z1 : 1 ≤ sizeLine := by rw [sizeLine_eq]; decide
  obtain ⟨c', hgo⟩ := go_ok hw hw2 (.val (.str s)) (wordsS s) [] "" .un (Nat.zero_le _) hx (by show 0 + _ ≤ _; omega)
  obtain ⟨h3, h4⟩ := goW_len hw (wordsS s) ([], "") (by exact Nat.zero_le _)
  have e5 : (goW w (wordsS s) ([], "")).1.length + 1 ≤ sizeLine := by rw [sizeLine_eq]; simp only [List.length_nil] at h3; omega
  simp only [List.map_nil] at hgo
  simp [M_rows_in, runDef, m_rows_in, startR, words_in_ok h1, hgo, z1, dAdd, e5, rowsW]
end L33
/-! P33c -/
namespace L33
open PySem PySem.Spec PyProof.Rows L2 MS

theorem cost_spl : ∀ l : List Nat, costW ((splL 32 l).map fun l => ⟨l.toArray⟩) ≤ 2 * l.length + 2
  | [] => by simp [splL, costW]; decide
  | x :: r => by
    have ih := cost_spl r
    unfold splL
    split
    · simp only [List.map_cons, costW, List.length_cons]
      have : (⟨#[]⟩ : Str).length = 0 := rfl
      show (⟨([] : List Nat).toArray⟩ : Str).length + 2 + _ ≤ _
      have h0 : (⟨([] : List Nat).toArray⟩ : Str).length = 0 := rfl
      omega
    · split
      · rename_i h
        exact absurd h (splL_ne 32 r)
      · rename_i h t e
        rw [e] at ih
        simp only [List.map_cons, costW, List.length_cons] at ih ⊢
        have h1 : (⟨(x :: h).toArray⟩ : Str).length = (⟨h.toArray⟩ : Str).length + 1 := by rw [len_chs, len_chs]; simp
        omega
theorem cost_filter {q : Str → Bool} : ∀ l : List Str, costW (l.filter q) ≤ costW l
  | [] => Nat.le_refl _
  | x :: l => by
    have ih := cost_filter (q := q) l
    rw [List.filter_cons]
    split <;> simp only [costW] <;> omega
theorem cost_words (s : Str) : costW (wordsS s) ≤ 2 * s.length + 2 := by
  refine Nat.le_trans (cost_filter _) ?_
  rw [len_chs]
  exact cost_spl (chs s)
theorem len_cost : ∀ {l : List Str} {x : Str}, x ∈ l → x.length + 2 ≤ costW l
  | y :: l, x, h => by
    unfold costW
    rcases List.mem_cons.mp h with rfl | h
    · omega
    · have := len_cost h
      omega
theorem rows_len {w : Nat} (hw : 1 ≤ w) (xs : List Str) : (rowsW w xs).length ≤ costW xs + 1 := by
  obtain ⟨h1, _⟩ := goW_len hw xs ([], "") (Nat.zero_le _)
  unfold rowsW
  simp at h1 ⊢
  omega
theorem rows_in_ok' {w : Nat} {s : Str} (hw : 1 ≤ w) (hw2 : w ≤ 1000) (hs : s.length ≤ 100) : M_rows_in [.str s, .int w] = M.pure (.lst ((rowsW w (wordsS s)).map .str)) := by
  have hc := cost_words s
  exact rows_in_ok hw hw2 (by omega) (fun x hx => by have := len_cost hx; omega) (by omega)
def allRows (w : Nat) (ls : List Str) : List Str := ls.flatMap fun s => rowsW w (wordsS s)
theorem wrap_go {w : Nat} (hw : 1 ≤ w) (hw2 : w ≤ 1000) (a : Cel) : ∀ (ls : List Str) (found : List Str) (c : Cel), (∀ s ∈ ls, s.length ≤ 100) → found.length + 300 * ls.length ≤ 1000000 →
    ∃ c', forL (.nm 3) m_wrapped_b1 (ls.map .str) [a, .val (.int w), .own (.lst (found.map .str)), c] = M.pure (.nx [a, .val (.int w), .own (.lst ((found ++ allRows w ls).map .str)), c'])
  | [], found, c, _, _ => ⟨c, by simp [allRows]⟩
  | s :: ls, found, c, hx, hz => by
    have hs := hx s (by simp)
    have hc := cost_words s
    have hl := rows_len hw (wordsS s)
    simp only [List.length_cons] at hz
    obtain ⟨c', ih⟩ := wrap_go hw hw2 a ls (found ++ rowsW w (wordsS s)) (.val (.str s)) (fun y hy => hx y (by simp [hy])) (by rw [List.length_append]; omega)
    refine ⟨c', ?_⟩
    have e1 : found.length + (rowsW w (wordsS s)).length ≤ sizeLine := by rw [sizeLine_eq]; omega
    simp [m_wrapped_b1, ownUpd, rows_in_ok' hw hw2 hs, extD, e1]
    simp only [List.map_append] at ih
    rw [ih]
    simp [allRows]
theorem wide_ok {w : Nat} (hw : 1 ≤ w) : M_must_be_wide [.int w] = M.pure .non := by
  have h : ¬ ((w : Int) < 1) := by omega
  simp [M_must_be_wide, runDef, m_must_be_wide, startR, is_whole_int, h]
theorem wrapped_ok {w : Nat} (hw : 1 ≤ w) (hw2 : w ≤ 1000) {d : MS.D} {ls : List Str} (hd : d = .lst (ls.map .str) ∨ d = .tup (ls.map .str)) (hs : ∀ s ∈ ls, s.length ≤ 100) (hn : ls.length ≤ 1000) : M_wrapped [d, .int w] = M.pure (.lst ((allRows w ls).map .str)) := by
  obtain ⟨c', h⟩ := wrap_go hw hw2 (.val d) ls [] .un hs (by simp; omega)
  simp only [List.map_nil, List.nil_append] at h
  rcases hd with rfl | rfl <;> simp [M_wrapped, runDef, m_wrapped, startR, h]
theorem rows_of_ok {w : Nat} (hw : 1 ≤ w) (hw2 : w ≤ 1000) {d : MS.D} {ls : List Str} (hd : d = .lst (ls.map .str) ∨ d = .tup (ls.map .str)) (hs : ∀ s ∈ ls, s.length ≤ 100) (hn : ls.length ≤ 1000) : M_rows_of [d, .int w] = M.pure (.lst ((allRows w ls).map .str)) := by
  have h := wrapped_ok hw hw2 hd hs hn
  rcases hd with rfl | rfl <;> simp [M_rows_of, runDef, m_rows_of, startR, wide_ok hw, h]
end L33
/-! P33d -/
namespace L33
open PySem PySem.Spec PyProof.Rows L2 MS

/-! ### one sign more: no more rows -/
def partN (w : Nat) : Nat → Nat → Nat × Nat
  | 0, m => (0, m)
  | n + 1, m => if w < m then ((partN w n (m - w)).1 + 1, (partN w n (m - w)).2) else (0, m)
theorem partW_N {w : Nat} : ∀ (n : Nat) (s : Str), ((partW w n s).1.length, (partW w n s).2.length) = partN w n s.length
  | 0, s => rfl
  | n + 1, s => by
    unfold partW partN
    by_cases h : w < s.length
    · rw [if_pos h, if_pos h, ← dr_len, ← partW_N n (dr w s)]
      rfl
    · rw [if_neg h, if_neg h]
      rfl
def lex (a b : Nat × Nat) : Prop := a.1 < b.1 ∨ (a.1 = b.1 ∧ a.2 ≤ b.2)
theorem partN_mono {w : Nat} (hw : 1 ≤ w) : ∀ (n k m' m : Nat), m' ≤ m → m' ≤ n → m ≤ k → lex (partN (w + 1) n m') (partN w k m)
  | 0, k, m', m, h, h1, h2 => by
    obtain rfl : m' = 0 := by omega
    unfold lex
    show (0 : Nat) < _ ∨ (0 : Nat) = _ ∧ (0 : Nat) ≤ _
    omega
  | n + 1, 0, m', m, h, h1, h2 => by
    obtain rfl : m' = 0 := by omega
    obtain rfl : m = 0 := by omega
    unfold lex partN
    simp
  | n + 1, k + 1, m', m, h, h1, h2 => by
    unfold partN
    by_cases h3 : w + 1 < m'
    · rw [if_pos h3, if_pos (show w < m by omega)]
      have ih := partN_mono hw n k (m' - (w + 1)) (m - w) (by omega) (by omega) (by omega)
      unfold lex at ih ⊢
      simp only []
      omega
    · rw [if_neg h3]
      by_cases h4 : w < m
      · rw [if_pos h4]
        exact .inl (Nat.succ_pos _)
      · rw [if_neg h4]
        exact .inr ⟨rfl, h⟩
theorem partN_pos {w : Nat} (hw : 1 ≤ w) : ∀ (n m : Nat), 1 ≤ m → 1 ≤ (partN w n m).2
  | 0, m, h => h
  | n + 1, m, h => by
    unfold partN
    by_cases h4 : w < m
    · rw [if_pos h4]
      exact partN_pos hw n (m - w) (by omega)
    · rw [if_neg h4]
      exact h
def stepN (w : Nat) (st : Nat × Nat) (m : Nat) : Nat × Nat :=
  if st.2 ≠ 0 ∧ st.2 + 1 + m ≤ w then (st.1, st.2 + 1 + m) else ((if st.2 ≠ 0 then st.1 + 1 else st.1) + (partN w m m).1, (partN w m m).2)
theorem empty_len {s : Str} : s = "" ↔ s.length = 0 := by
  constructor
  · rintro rfl; rfl
  · intro h
    have : s.cps = #[] := Array.size_eq_zero_iff.mp h
    cases s
    simp at this
    subst this
    rfl
theorem stepW_N {w : Nat} (st : List Str × Str) (x : Str) : ((stepW w st x).1.length, (stepW w st x).2.length) = stepN w (st.1.length, st.2.length) x.length := by
  have hp := partW_N (w := w) x.length x
  have h1 : (partW w x.length x).1.length = (partN w x.length x.length).1 := congrArg (·.1) hp
  have h2 : (partW w x.length x).2.length = (partN w x.length x.length).2 := congrArg (·.2) hp
  unfold stepW stepN
  simp only [ne_eq, empty_len]
  by_cases h0 : st.2.length = 0
  · simp [h0, h1, h2]
  · by_cases h3 : st.2.length + 1 + x.length ≤ w
    · simp [h0, h3, app_len, blank_len]
    · simp [h0, h3, h1, h2]
      omega
def goN (w : Nat) : List Nat → Nat × Nat → Nat × Nat
  | [], st => st
  | m :: ms, st => goN w ms (stepN w st m)
theorem goW_N {w : Nat} : ∀ (xs : List Str) (st : List Str × Str), ((goW w xs st).1.length, (goW w xs st).2.length) = goN w (xs.map (·.length)) (st.1.length, st.2.length)
  | [], st => rfl
  | x :: xs, st => by
    unfold goW
    rw [goW_N xs (stepW w st x), stepW_N]
    rfl
theorem stepN_mono {w m : Nat} (hw : 1 ≤ w) (hm : 1 ≤ m) {a b : Nat × Nat} (h : lex a b) (hz : a.2 = 0 ↔ b.2 = 0) (hz2 : a.2 = 0 → a.1 = 0 ∧ b.1 = 0) : lex (stepN (w + 1) a m) (stepN w b m) ∧ 1 ≤ (stepN (w + 1) a m).2 ∧ 1 ≤ (stepN w b m).2 := by
  have hp := partN_mono hw m m m m (Nat.le_refl _) (Nat.le_refl _) (Nat.le_refl _)
  have h1 := partN_pos (w := w + 1) (by omega) m m hm
  have h2 := partN_pos hw m m hm
  have hq : m ≤ w + 1 → partN (w + 1) m m = (0, m) := fun hl => by
    cases m with
    | zero => rfl
    | succ k => unfold partN; rw [if_neg (by omega)]
  obtain ⟨n', l'⟩ := a
  obtain ⟨n, l⟩ := b
  unfold lex at h hp ⊢
  unfold stepN
  simp only [] at *
  by_cases h0 : l = 0
  · have h0' := hz.mpr h0
    obtain ⟨rfl, rfl⟩ := hz2 h0'
    subst h0 h0'
    simp only [ne_eq, not_true_eq_false, false_and, if_false]
    refine ⟨by omega, h1, h2⟩
  · have h0' : l' ≠ 0 := fun z => h0 (hz.mp z)
    simp only [ne_eq, h0, h0', not_false_eq_true, true_and, if_true]
    by_cases f1 : l + 1 + m ≤ w
    · rw [if_pos f1]
      by_cases f2 : l' + 1 + m ≤ w + 1
      · rw [if_pos f2]
        refine ⟨by simp only []; omega, by simp only []; omega, by simp only []; omega⟩
      · rw [if_neg f2]
        have := hq (by omega)
        rw [this] at h1 ⊢
        refine ⟨by simp only []; omega, by simp only []; omega, by simp only []; omega⟩
    · rw [if_neg f1]
      by_cases f2 : l' + 1 + m ≤ w + 1
      · rw [if_pos f2]
        refine ⟨by simp only []; omega, by simp only []; omega, h2⟩
      · rw [if_neg f2]
        refine ⟨by simp only []; omega, h1, h2⟩
theorem goN_mono {w : Nat} (hw : 1 ≤ w) : ∀ (ms : List Nat) (a b : Nat × Nat), (∀ m ∈ ms, 1 ≤ m) → lex a b → (a.2 = 0 ↔ b.2 = 0) → (a.2 = 0 → a.1 = 0 ∧ b.1 = 0) → (goN (w + 1) ms a).1 ≤ (goN w ms b).1
  | [], a, b, _, h, _, _ => by unfold lex at h; show a.1 ≤ b.1; omega
  | m :: ms, a, b, hm, h, hz, hz2 => by
    obtain ⟨h1, h2, h3⟩ := stepN_mono hw (hm m (by simp)) h hz hz2
    exact goN_mono hw ms _ _ (fun k hk => hm k (by simp [hk])) h1 (by omega) (fun z => by omega)
theorem rows_mono {w : Nat} (hw : 1 ≤ w) {xs : List Str} (hx : ∀ x ∈ xs, x ≠ "") : (rowsW (w + 1) xs).length ≤ (rowsW w xs).length := by
  have h1 := congrArg (·.1) (goW_N (w := w + 1) xs ([], ""))
  have h2 := congrArg (·.1) (goW_N (w := w) xs ([], ""))
  simp only [] at h1 h2
  have hle := goN_mono hw (xs.map (·.length)) (0, 0) (0, 0) (fun m hm => by
    obtain ⟨x, h3, rfl⟩ := List.mem_map.mp hm
    have := hx x h3
    rw [ne_eq, empty_len] at this
    show 1 ≤ x.length
    omega) (.inr ⟨rfl, Nat.le_refl _⟩) Iff.rfl (fun _ => ⟨rfl, rfl⟩)
  unfold rowsW
  rw [List.length_append, List.length_append]
  simp only [List.length_singleton]
  have e1 : (([] : List Str).length, ("" : Str).length) = (0, 0) := rfl
  rw [e1] at h1 h2
  omega
theorem words_ne {s : Str} : ∀ x ∈ wordsS s, x ≠ "" := fun x hx => by
  unfold wordsS at hx
  have := (List.mem_filter.mp hx).2
  simpa using this
end L33
/-! P33e -/
namespace L33
open PySem PySem.Spec PyProof.Rows L2 MS

/-! ### rows as pieces -/
abbrev J (ps : List Str) : Str := Str.join " " ps
def Wd (x : Str) : Prop := x ≠ "" ∧ 32 ∉ chs x
theorem J_chs (ps : List Str) : chs (J ps) = joinL [32] (ps.map chs) := join_cps " " ps
theorem ext_chs {a b : Str} (h : chs a = chs b) : a = b := by
  cases a; cases b
  simp only [chs, Str.mk.injEq] at *
  exact Array.toList_inj.mp h
theorem mk_chs (s : Str) : (⟨(chs s).toArray⟩ : Str) = s := by cases s; simp [chs]
theorem joinL_snoc {s : List Nat} : ∀ {l : List (List Nat)} {x : List Nat}, l ≠ [] → joinL s (l ++ [x]) = joinL s l ++ s ++ x
  | [], x, h => absurd rfl h
  | [a], x, _ => by simp [joinL]
  | a :: b :: l, x, _ => by
    have ih := joinL_snoc (s := s) (l := b :: l) (x := x) (by simp)
    simp only [List.cons_append] at ih ⊢
    simp only [joinL, ih, List.append_assoc]
theorem J_snoc {ps : List Str} {x : Str} (h : ps ≠ []) : J (ps ++ [x]) = J ps ++ " " ++ x := by
  apply ext_chs
  rw [J_chs, List.map_append, List.map_singleton, joinL_snoc (by simpa using h), ← J_chs]
  show _ = (((J ps).cps ++ (" " : Str).cps) ++ x.cps).toList
  rw [Array.toList_append, Array.toList_append]
  rfl
theorem J_one (x : Str) : J [x] = x := rfl
theorem spl_J {ps : List Str} (h : ps ≠ []) (hw : ∀ x ∈ ps, Wd x) : spl 32 (J ps) = ps := by
  unfold spl
  rw [show (J ps).cps.toList = chs (J ps) from rfl, J_chs, splL_join 32 _ (by simpa using h) (fun p hp => by
    obtain ⟨x, hx, rfl⟩ := List.mem_map.mp hp
    exact (hw x hx).2), List.map_map]
  conv => rhs; rw [← List.map_id ps]
  apply List.map_congr_left
  intro x _
  exact mk_chs x
theorem words_J {ps : List Str} (hw : ∀ x ∈ ps, Wd x) : wordsS (J ps) = ps := by
  by_cases h : ps = []
  · subst h
    decide
  · unfold wordsS
    rw [spl_J h hw, List.filter_eq_self]
    intro x hx
    simpa using (hw x hx).1
theorem J_empty {ps : List Str} (hw : ∀ x ∈ ps, Wd x) (h : J ps = "") : ps = [] := by
  have := words_J hw
  rw [h] at this
  rw [← this]
  decide
theorem spl_free : ∀ (l : List Nat), ∀ p ∈ splL 32 l, 32 ∉ p
  | [], p, h => by simp [splL] at h; subst h; simp
  | x :: r, p, h => by
    have ih := spl_free r
    unfold splL at h
    split at h
    · rcases List.mem_cons.mp h with rfl | h
      · simp
      · exact ih p h
    · rename_i hx
      split at h
      · rename_i e
        exact absurd e (splL_ne 32 r)
      · rename_i hh t e
        rw [e] at ih
        rcases List.mem_cons.mp h with rfl | h
        · simp only [List.mem_cons, not_or]
          exact ⟨fun z => hx z.symm, ih hh (by simp)⟩
        · exact ih p (by simp [h])
theorem words_Wd (s : Str) : ∀ x ∈ wordsS s, Wd x := fun x hx => by
  refine ⟨words_ne x hx, ?_⟩
  unfold wordsS spl at hx
  obtain ⟨l, hl, rfl⟩ := List.mem_map.mp (List.mem_filter.mp hx).1
  simpa using spl_free _ l hl
/-- the signs without blanks -/
theorem spl_filter : ∀ l : List Nat, (splL 32 l).flatten = l.filter fun c => !decide (c = 32)
  | [] => rfl
  | x :: r => by
    have ih := spl_filter r
    unfold splL
    by_cases hx : x = 32
    · rw [if_pos hx]
      simp [hx, ih]
    · rw [if_neg hx]
      split
      · rename_i e
        exact absurd e (splL_ne 32 r)
      · rename_i hh t e
        rw [e] at ih
        simp only [List.flatten_cons] at ih ⊢
        simp [hx, ← ih]
theorem words_cat (s : Str) : (wordsS s).flatMap chs = (chs s).filter fun c => !decide (c = 32) := by
  rw [← spl_filter]
  unfold wordsS spl
  generalize splL 32 (chs s) = L
  show _ = L.flatten
  induction L with
  | nil => rfl
  | cons l L ih =>
    rw [List.map_cons, List.filter_cons, List.flatten_cons]
    by_cases hl : (⟨l.toArray⟩ : Str) = ""
    · have : l = [] := by
        have h2 := congrArg chs hl
        have h3 : chs ("" : Str) = [] := by decide
        rw [h3] at h2
        simpa [chs] using h2
      simp [this, ih]
      have e : (⟨#[]⟩ : Str) = "" := rfl
      simp [e, ih]
    · simp [hl, ih]
def cnd (w : Nat) (a b : List Str) : Prop := ∀ x l, b = x :: l → w < (J a).length + 1 + x.length
def Chn (w : Nat) : List (List Str) → Prop
  | [] => True
  | [_] => True
  | a :: b :: l => cnd w a b ∧ Chn w (b :: l)
theorem chn_snoc {w : Nat} : ∀ {L : List (List Str)} {a b : List Str}, Chn w (L ++ [a]) → cnd w a b → Chn w (L ++ [a] ++ [b])
  | [], a, b, _, h => ⟨h, trivial⟩
  | [c], a, b, h1, h => ⟨h1.1, h, trivial⟩
  | c :: d :: L, a, b, h1, h => ⟨h1.1, chn_snoc (L := d :: L) h1.2 h⟩
theorem chn_repl {w : Nat} {c : List Str} {x : Str} (hc : c ≠ []) : ∀ {L : List (List Str)}, Chn w (L ++ [c]) → Chn w (L ++ [c ++ [x]])
  | [], _ => trivial
  | [a], h => ⟨fun y l e => by
      cases c with
      | nil => exact absurd rfl hc
      | cons z zs =>
        simp only [List.cons_append, List.cons.injEq] at e
        obtain ⟨rfl, _⟩ := e
        exact h.1 z zs rfl, trivial⟩
  | a :: b :: L, h => ⟨h.1, chn_repl hc (L := b :: L) h.2⟩
theorem chn_get {w : Nat} : ∀ {L : List (List Str)} {k : Nat} {a b : List Str}, Chn w L → L[k]? = some a → L[k + 1]? = some b → cnd w a b
  | [], k, a, b, _, h1, _ => by simp at h1
  | [c], k, a, b, _, _, h2 => by simp at h2
  | c :: d :: L, 0, a, b, h, h1, h2 => by
    simp at h1 h2
    subst h1 h2
    exact h.1
  | c :: d :: L, k + 1, a, b, h, h1, h2 => chn_get (L := d :: L) h.2 (by simpa using h1) (by simpa using h2)
theorem tk_Wd {w : Nat} {x : Str} (hw : 1 ≤ w) (h : Wd x) : Wd (tk w x) := by
  refine ⟨?_, fun z => h.2 (List.mem_of_mem_take (by simpa [tk, chs] using z))⟩
  rw [ne_eq, empty_len, tk_len]
  have := h.1
  rw [ne_eq, empty_len] at this
  omega
theorem dr_Wd {w : Nat} {x : Str} (hl : w < x.length) (h : Wd x) : Wd (dr w x) := by
  refine ⟨?_, fun z => h.2 (List.mem_of_mem_drop (by simpa [dr, chs] using z))⟩
  rw [ne_eq, empty_len, dr_len]
  omega
/-- one word parted -/
theorem part_inv {w : Nat} (hw : 1 ≤ w) : ∀ (n : Nat) (x : Str) (L : List (List Str)), x.length ≤ n → Wd x → (L = [] ∨ ∃ L' a, L = L' ++ [a] ∧ Chn w L ∧ w < (J a).length + 1 + min w x.length) →
    (∀ y ∈ (partW w n x).1, Wd y ∧ y.length ≤ w) ∧ Wd (partW w n x).2 ∧ (partW w n x).2.length ≤ w ∧ Chn w (L ++ (partW w n x).1.map (fun s => [s]) ++ [[(partW w n x).2]]) ∧ (partW w n x).1.flatMap chs ++ chs (partW w n x).2 = chs x
  | 0, x, L, hn, hx, hL => by
    have := hx.1
    rw [ne_eq, empty_len] at this
    omega
  | n + 1, x, L, hn, hx, hL => by
    have hch : ∀ y : Str, y.length = min w x.length → Chn w (L ++ [[y]]) := fun y hy => by
      rcases hL with rfl | ⟨L', a, rfl, h1, h2⟩
      · exact trivial
      · exact chn_snoc h1 fun z l e => by
          cases e
          rw [hy]
          exact h2
    unfold partW
    by_cases h : w < x.length
    · rw [if_pos h]
      have h5 := hch (tk w x) (tk_len w x)
      obtain ⟨i1, i2, i3, i4, i5⟩ := part_inv hw n (dr w x) (L ++ [[tk w x]]) (by rw [dr_len]; omega) (dr_Wd h hx) (.inr ⟨L, [tk w x], rfl, h5, by rw [J_one, tk_len]; omega⟩)
      refine ⟨fun y hy => ?_, i2, i3, by simpa using i4, ?_⟩
      · rcases List.mem_cons.mp hy with rfl | hy
        · exact ⟨tk_Wd hw hx, by rw [tk_len]; omega⟩
        · exact i1 y hy
      · rw [List.flatMap_cons, List.append_assoc, i5]
        simp [tk, dr, chs]
    · rw [if_neg h]
      exact ⟨fun y hy => by simp at hy, hx, by simp only []; omega, by simpa using hch x (by omega), by simp⟩
structure Inv (w : Nat) (P : List (List Str)) (c : List Str) (done : List Nat) : Prop where
  all : ∀ ps ∈ P, ps ≠ [] ∧ (∀ x ∈ ps, Wd x) ∧ (J ps).length ≤ w
  cur : (∀ x ∈ c, Wd x) ∧ (J c).length ≤ w
  ch : Chn w (P ++ [c])
  ne : P ≠ [] → c ≠ []
  cat : (P.flatten ++ c).flatMap chs = done
theorem flat_one : ∀ f : List Str, (f.map fun s => [s]).flatten = f
  | [] => rfl
  | x :: f => by simp [flat_one f]
theorem inv_step {w : Nat} (hw : 1 ≤ w) {P : List (List Str)} {c : List Str} {done : List Nat} {x : Str} (hx : Wd x) (I : Inv w P c done) : ∃ P' c', stepW w (P.map J, J c) x = (P'.map J, J c') ∧ Inv w P' c' (done ++ chs x) ∧ c' ≠ [] := by
  have he : J c = "" ↔ c = [] := ⟨J_empty I.cur.1, fun h => by subst h; rfl⟩
  unfold stepW
  simp only [ne_eq, he]
  by_cases hc : c = []
  · subst hc
    have hP : P = [] := Classical.byContradiction fun h => I.ne h rfl
    subst hP
    simp only [not_true_eq_false, false_and, if_false]
    obtain ⟨i1, i2, i3, i4, i5⟩ := part_inv hw x.length x [] (Nat.le_refl _) hx (.inl rfl)
    refine ⟨(partW w x.length x).1.map (fun s => [s]), [(partW w x.length x).2], ?_, ⟨fun ps hps => ?_, ⟨fun y hy => ?_, i3⟩, by simpa using i4, fun _ => by simp, ?_⟩, by simp⟩
    · simp [Function.comp_def, J_one]
    · obtain ⟨y, hy, rfl⟩ := List.mem_map.mp hps
      obtain ⟨h1, h2⟩ := i1 y hy
      exact ⟨by simp, fun z hz => by simp at hz; subst hz; exact h1, h2⟩
    · simp at hy; subst hy; exact i2
    · have hd := I.cat
      simp at hd
      subst hd
      simp only [List.nil_append]
      rw [← i5, flat_one]
      simp only [List.flatMap_append, List.flatMap_singleton]
  · simp only [hc, not_false_eq_true, true_and, if_true]
    by_cases hf : (J c).length + 1 + x.length ≤ w
    · rw [if_pos hf]
      refine ⟨P, c ++ [x], by rw [J_snoc hc], ⟨I.all, ⟨fun y hy => ?_, ?_⟩, chn_repl hc I.ch, fun _ => by simp, ?_⟩, by simp⟩
      · rcases List.mem_append.mp hy with hy | hy
        · exact I.cur.1 y hy
        · simp at hy; subst hy; exact hx
      · rw [J_snoc hc, app_len, app_len, blank_len]
        exact hf
      · rw [← I.cat]
        simp
    · rw [if_neg hf]
      obtain ⟨i1, i2, i3, i4, i5⟩ := part_inv hw x.length x (P ++ [c]) (Nat.le_refl _) hx (.inr ⟨P, c, rfl, I.ch, by omega⟩)
      refine ⟨P ++ [c] ++ (partW w x.length x).1.map (fun s => [s]), [(partW w x.length x).2], ?_, ⟨fun ps hps => ?_, ⟨fun y hy => ?_, i3⟩, by simpa using i4, fun _ => by simp, ?_⟩, by simp⟩
      · simp [Function.comp_def, J_one]
      · rcases List.mem_append.mp hps with hps | hps
        · rcases List.mem_append.mp hps with hps | hps
          · exact I.all ps hps
          · simp at hps; subst hps
            exact ⟨hc, I.cur.1, I.cur.2⟩
        · obtain ⟨y, hy, rfl⟩ := List.mem_map.mp hps
          obtain ⟨h1, h2⟩ := i1 y hy
          exact ⟨by simp, fun z hz => by simp at hz; subst hz; exact h1, h2⟩
      · simp at hy; subst hy; exact i2
      · rw [← I.cat, ← i5, List.flatten_append, List.flatten_append, flat_one]
        simp only [List.flatten_singleton, List.flatMap_append, List.flatMap_singleton, List.append_assoc]
theorem inv_go {w : Nat} (hw : 1 ≤ w) : ∀ (xs : List Str) {P : List (List Str)} {c : List Str} {done : List Nat}, (∀ x ∈ xs, Wd x) → Inv w P c done → ∃ P' c', goW w xs (P.map J, J c) = (P'.map J, J c') ∧ Inv w P' c' (done ++ xs.flatMap chs)
  | [], P, c, done, _, I => ⟨P, c, rfl, by simpa using I⟩
  | x :: xs, P, c, done, hx, I => by
    obtain ⟨P1, c1, e1, I1, _⟩ := inv_step hw (hx x (by simp)) I
    obtain ⟨P2, c2, e2, I2⟩ := inv_go hw xs (fun y hy => hx y (by simp [hy])) I1
    refine ⟨P2, c2, ?_, by simpa using I2⟩
    unfold goW
    rw [e1, e2]
theorem rows_inv {w : Nat} (hw : 1 ≤ w) {xs : List Str} (hx : ∀ x ∈ xs, Wd x) : ∃ P c, rowsW w xs = (P ++ [c]).map J ∧ Inv w P c (xs.flatMap chs) := by
  obtain ⟨P, c, e, I⟩ := inv_go hw xs (P := []) (c := []) (done := []) hx ⟨fun ps h => by simp at h, ⟨fun x h => by simp at h, Nat.zero_le _⟩, trivial, fun h => absurd rfl h, rfl⟩
  refine ⟨P, c, ?_, by simpa using I⟩
  unfold rowsW
  have e' : goW w xs ([], "") = (P.map J, J c) := e
  rw [e']
  simp
end L33
/-! P33f -/
namespace L33
open PySem PySem.Spec PyProof.Rows L2 MS

theorem atI_nat {α : Type} {l : List α} {k : Nat} (h : k < l.length) : atI l (k : Int) = some l[k] := by
  unfold atI ixN
  rw [if_pos (by omega), if_pos (by omega)]
  simp [h]
theorem strsOf_map : ∀ l : List Str, strsOf (l.map .str) = some l
  | [] => rfl
  | x :: l => by simp [strsOf, strsOf_map l]
open PySem.StrLaws in
theorem replL_drop : ∀ l : List Nat, replL [32] [] l = l.filter fun c => !decide (c = 32)
  | [] => replL_nil
  | c :: l => by
    have ih := replL_drop l
    by_cases h : c = 32
    · subst h
      rw [replL_hit (by simp) (by simp)]
      simp [ih]
    · rw [replL_miss (by simp [h])]
      simp [h, ih]
open PySem.StrLaws in
theorem repl_chs (s : Str) : chs (Txt.replace s " " "") = (chs s).filter fun c => !decide (c = 32) := by
  rw [← replL_drop]
  exact replace_list (x := s) (y := " ") (z := "") (by rw [blank_len]; exact Nat.le_refl 1)
theorem repl_strOk {s : Str} (h : PyData.strOk s = true) : PyData.strOk (Txt.replace s " " "") = true := by
  rw [strOk_all] at h ⊢
  intro c hc
  have hc : c ∈ chs (Txt.replace s " " "") := by simpa using hc
  rw [repl_chs] at hc
  exact h c (by simpa using (List.mem_filter.mp hc).1)
theorem joinL_nil : ∀ l : List (List Nat), joinL [] l = l.flatten
  | [] => rfl
  | [a] => by simp [joinL]
  | a :: b :: l => by simp [joinL, joinL_nil (b :: l)]
theorem join0_chs (l : List Str) : chs (Str.join "" l) = l.flatMap chs := by
  rw [show chs (Str.join "" l) = (Str.join "" l).cps.toList from rfl, join_cps, show (("" : Str).cps.toList) = [] from by decide, joinL_nil]
  rw [List.flatMap_def]
theorem filter_free : ∀ {l : List Str}, (∀ x ∈ l, Wd x) → (l.flatMap chs).filter (fun c => !decide (c = 32)) = l.flatMap chs
  | [], _ => rfl
  | x :: l, h => by
    rw [List.flatMap_cons, List.filter_append, filter_free fun y hy => h y (by simp [hy])]
    congr 1
    rw [List.filter_eq_self]
    intro c hc
    have := (h x (by simp)).2
    simp
    rintro rfl
    exact this hc
theorem J_filter {ps : List Str} (h : ∀ x ∈ ps, Wd x) : (chs (J ps)).filter (fun c => !decide (c = 32)) = ps.flatMap chs := by
  rw [← words_cat, words_J h]
/-- what holds of a line's rows -/
structure Rows (w : Nat) (s : Str) (rows : List Str) : Prop where
  ne : rows ≠ []
  each : ∀ r ∈ rows, r.length ≤ w ∧ Str.join " " (wordsS r) = r ∧ (r = "" → rows.length = 1)
  next : ∀ (k : Nat) (a b : Str), rows[k]? = some a → rows[k + 1]? = some b → ∃ f l, spl 32 b = f :: l ∧ w < a.length + 1 + f.length
  cat : (rows.flatMap chs).filter (fun c => !decide (c = 32)) = (chs s).filter fun c => !decide (c = 32)
theorem rows_ok {w : Nat} (hw : 1 ≤ w) (s : Str) : Rows w s (rowsW w (wordsS s)) := by
  obtain ⟨P, c, e, I⟩ := rows_inv hw (words_Wd s)
  rw [e]
  have hall : ∀ ps ∈ P ++ [c], (∀ x ∈ ps, Wd x) ∧ (J ps).length ≤ w := fun ps hps => by
    rcases List.mem_append.mp hps with h | h
    · exact (I.all ps h).2
    · simp at h; subst h; exact I.cur
  refine ⟨by simp, fun r hr => ?_, fun k a b h1 h2 => ?_, ?_⟩
  · obtain ⟨ps, hps, rfl⟩ := List.mem_map.mp hr
    obtain ⟨h1, h2⟩ := hall ps hps
    refine ⟨h2, by rw [words_J h1], fun he => ?_⟩
    have hpe := J_empty h1 he
    have hP : P = [] := Classical.byContradiction fun hP => by
      rcases List.mem_append.mp hps with h | h
      · exact (I.all ps h).1 hpe
      · simp at h; subst h; exact I.ne hP hpe
    subst hP
    rfl
  · rw [List.getElem?_map] at h1 h2
    cases h3 : (P ++ [c])[k]? with
    | none => rw [h3] at h1; cases h1
    | some p =>
      cases h4 : (P ++ [c])[k + 1]? with
      | none => rw [h4] at h2; cases h2
      | some q =>
        rw [h3] at h1; rw [h4] at h2
        cases h1; cases h2
        have hq := hall q (List.mem_of_getElem? h4)
        have hqe : q ≠ [] := by
          have hP : P ≠ [] := by
            rintro rfl
            simp at h4
          rcases List.mem_append.mp (List.mem_of_getElem? h4) with h | h
          · exact (I.all q h).1
          · simp at h; subst h; exact I.ne hP
        have := chn_get I.ch h3 h4
        cases q with
        | nil => exact absurd rfl hqe
        | cons f l => exact ⟨f, l, spl_J hqe hq.1, this f l rfl⟩
  · have hj : ∀ L : List (List Str), (∀ ps ∈ L, ∀ x ∈ ps, Wd x) → ((L.map J).flatMap chs).filter (fun c => !decide (c = 32)) = L.flatten.flatMap chs := fun L => by
      induction L with
      | nil => intro _; rfl
      | cons ps L ih =>
        intro h
        rw [List.map_cons, List.flatMap_cons, List.filter_append, ih fun q hq => h q (by simp [hq]), J_filter (h ps (by simp)), List.flatten_cons, List.flatMap_append]
    rw [hj _ fun ps hps => (hall ps hps).1, ← words_cat, ← I.cat, List.flatten_append, List.flatten_singleton]
end L33
/-! P33g -/
namespace L33
open PySem PySem.Spec PyProof.Rows L2 MS

theorem rows_small {w : Nat} {s : Str} (hw : 1 ≤ w) (hs : s.length ≤ 100) : (rowsW w (wordsS s)).length ≤ 203 := by
  have h1 := rows_len hw (wordsS s)
  have h2 := cost_words s
  omega
theorem words_lc {s : Str} {ρ : Rho} (hl : 8 < ρ.length) (hn : noOwn ρ [8] = true) : lcD (.nm 8) (fun ρ => M.bind (getT ρ 8) fun x => M.bind (M.pure (.str "")) fun y => cmpD .NotEq x y) (fun ρ => getS ρ 8) [8] ρ ((spl 32 s).map .str) = M.pure (.lst ((wordsS s).map .str)) := by
  unfold lcD
  rw [if_pos hn, lcLoop_filter (q := fun w => !decide (w = ""))]
  · rfl
  · intro w _
    have hg : ∀ d, getT ((wipeR ρ [8]).set 8 (.val d)) 8 = M.pure d ∧ getS ((wipeR ρ [8]).set 8 (.val d)) 8 = M.pure d := fun d => by
      have h8 : ((wipeR ρ [8]).set 8 (.val d))[8]? = some (.val d) := List.getElem?_set_self (by rw [wipeR_len]; exact hl)
      unfold getT getS
      rw [h8]
      exact ⟨rfl, rfl⟩
    simp only [lcStep, Tg.set, (hg (.str w)).1, (hg (.str w)).2, pure_bind', cmp_nes]
    by_cases h : w = "" <;> simp [h, M.calm, M.pure, M.bind]
theorem words_lc' {s : Str} {ρ : Rho} (hl : 8 < ρ.length) (hn : noOwn ρ [8] = true) : lcD (.nm 8) (fun ρ => M.bind (getT ρ 8) fun x => cmpD .NotEq x (.str "")) (fun ρ => getS ρ 8) [8] ρ ((spl 32 s).map .str) = M.pure (.lst ((wordsS s).map .str)) := words_lc hl hn
theorem sum_small {w : Nat} {l : List Str} (h : ∀ r ∈ l, r.length ≤ w) : (l.map (·.length)).sum ≤ l.length * w := by
  induction l with
  | nil => simp
  | cons x l ih =>
    have h1 := h x (by simp)
    have h2 := ih fun y hy => h y (by simp [hy])
    simp only [List.map_cons, List.sum_cons, List.length_cons, Nat.add_mul]
    omega
theorem cost_sum (l : List Str) : (l.map (·.length)).sum + l.length ≤ costW l := by
  induction l with
  | nil => simp [costW]
  | cons x l ih => simp only [List.map_cons, List.sum_cons, List.length_cons, costW]; omega
theorem join_words {r : Str} (hr : r.length ≤ 1000) : dJoin (.str " ") (.lst ((wordsS r).map .str)) = M.pure (.str (Str.join " " (wordsS r))) := by
  have h1 := cost_sum (wordsS r)
  have h2 := cost_words r
  unfold dJoin
  simp only [strsOf_map]
  rw [if_pos]
  rw [blank_len, sizeLine_eq]
  omega
theorem b1_ok {w : Nat} {s : Str} {rows : List Str} {r : Str} {c3 c4 c5 c6 c7 : Cel} (hw2 : w ≤ 900) (h1 : r.length ≤ w) (h2 : Str.join " " (wordsS r) = r) (h3 : r = "" → rows.length = 1) :
    m__law_line_right_b3 [.val (.str s), .val (.int w), .val (.lst (rows.map .str)), .val (.str r), c4, c5, c6, c7, .un] = M.pure (.nx [.val (.str s), .val (.int w), .val (.lst (rows.map .str)), .val (.str r), c4, c5, c6, c7, .un]) := by
  unfold m__law_line_right_b3
  have h0 : ¬ ((w : Int) < (r.length : Int)) := by omega
  have hz : r.length + 2 ≤ sizeLine := by rw [sizeLine_eq]; omega
  simp [h0, dSplit, blank_len, blank_at, hz]
  rw [words_lc' (by simp) (by simp [noOwn])]
  simp [join_words (show r.length ≤ 1000 by omega), h2]
  by_cases he : r = ""
  · simp [he, h3 he]
  · simp [he]
theorem loop1_ok {w : Nat} {s : Str} {rows : List Str} {c4 c5 c6 c7 : Cel} (hw2 : w ≤ 900) : ∀ (l : List Str) (c3 : Cel), (∀ r ∈ l, r.length ≤ w ∧ Str.join " " (wordsS r) = r ∧ (r = "" → rows.length = 1)) →
    ∃ c3', forL (.nm 3) m__law_line_right_b3 (l.map .str) [.val (.str s), .val (.int w), .val (.lst (rows.map .str)), c3, c4, c5, c6, c7, .un] = M.pure (.nx [.val (.str s), .val (.int w), .val (.lst (rows.map .str)), c3', c4, c5, c6, c7, .un])
  | [], c3, _ => ⟨c3, rfl⟩
  | r :: l, c3, h => by
    obtain ⟨c3', ih⟩ := loop1_ok (c4 := c4) (c5 := c5) (c6 := c6) (c7 := c7) hw2 l (.val (.str r)) fun y hy => h y (by simp [hy])
    obtain ⟨h1, h2, h3⟩ := h r (by simp)
    refine ⟨c3', ?_⟩
    rw [List.map_cons, forL_nm]
    simp only [List.set]
    rw [b1_ok (c3 := c3) hw2 h1 h2 h3, pure_bind']
    exact ih
theorem first_lc {first : Str} {words : List Str} {ρ : Rho} (hl : 8 < ρ.length) (hn : noOwn ρ [8] = true) (h6 : ρ[6]? = some (.val (.str first))) : ∃ whole : List Str, lcD (.nm 8) (fun ρ => M.bind (M.bind (getT ρ 8) fun x => M.bind (M.pure none) fun l => M.bind (M.bind (M.bind (getT ρ 6) dLen) asInt) fun h => dSlice x l h) fun x => M.bind (getT ρ 6) fun y => cmpD .Eq x y) (fun ρ => getS ρ 8) [8] ρ (words.map .str) = M.pure (.lst (whole.map .str)) := by
  refine ⟨words.filter fun w => decide (tk first.length w = first), ?_⟩
  unfold lcD
  rw [if_pos hn, lcLoop_filter (q := fun w => decide (tk first.length w = first))]
  · rfl
  · intro w _
    have h8 : ((wipeR ρ [8]).set 8 (.val (.str w)))[8]? = some (.val (.str w)) := List.getElem?_set_self (by rw [wipeR_len]; exact hl)
    have h6' : ((wipeR ρ [8]).set 8 (.val (.str w)))[6]? = some (.val (.str first)) := by
      rw [List.getElem?_set_ne (by decide), wipeR_out (by decide)]
      exact h6
    have g8 : getT ((wipeR ρ [8]).set 8 (.val (.str w))) 8 = M.pure (.str w) := by unfold getT; rw [h8]
    have s8 : getS ((wipeR ρ [8]).set 8 (.val (.str w))) 8 = M.pure (.str w) := by unfold getS; rw [h8]
    have g6 : getT ((wipeR ρ [8]).set 8 (.val (.str w))) 6 = M.pure (.str first) := by unfold getT; rw [h6']
    simp only [lcStep, Tg.set, g8, g6, s8, pure_bind', dLen_str, asInt_int, slice_tk, cmp_eqs]
    by_cases h : tk first.length w = first <;> simp [h, M.calm, M.pure, M.bind]
theorem b2_ok {w : Nat} {s : Str} {rows words : List Str} {c3 c6 c7 : Cel} {k : Nat} {a b f : Str} {l : List Str} (ha : rows[k]? = some a) (hb : rows[k + 1]? = some b) (hs : spl 32 b = f :: l) (hc : w < a.length + 1 + f.length) (hbl : b.length ≤ 900) :
    ∃ c7', m__law_line_right_b6 [.val (.str s), .val (.int w), .val (.lst (rows.map .str)), c3, .own (.lst (words.map .str)), .val (.int ((k + 1 : Nat) : Int)), c6, c7, .un] = M.pure (.nx [.val (.str s), .val (.int w), .val (.lst (rows.map .str)), c3, .own (.lst (words.map .str)), .val (.int ((k + 1 : Nat) : Int)), .val (.str f), c7', .un]) := by
  have hk : k + 1 < (rows.map MS.D.str).length := by rw [List.length_map]; exact (List.getElem?_eq_some_iff.mp hb).1
  have e1 : atI (rows.map MS.D.str) ((k + 1 : Nat) : Int) = some (.str b) := by
    rw [atI_nat hk, List.getElem_map]
    obtain ⟨h1, h2⟩ := List.getElem?_eq_some_iff.mp hb
    rw [h2]
  have e2 : atI (rows.map MS.D.str) (((k + 1 : Nat) : Int) - 1) = some (.str a) := by
    rw [show (((k + 1 : Nat) : Int) - 1) = ((k : Nat) : Int) by omega, atI_nat (by omega), List.getElem_map]
    obtain ⟨h1, h2⟩ := List.getElem?_eq_some_iff.mp ha
    rw [h2]
  have hz : b.length + 2 ≤ sizeLine := by rw [sizeLine_eq]; omega
  have hc' : ¬ ((a.length : Int) + 1 + (f.length : Int) ≤ (w : Int)) := by omega
  have e3 : dIx (.lst (rows.map MS.D.str)) (.int ((k + 1 : Nat) : Int)) = M.pure (.str b) := by unfold dIx; simp only [e1]; rfl
  have e4 : dIx (.lst (rows.map MS.D.str)) (.int (((k + 1 : Nat) : Int) - 1)) = M.pure (.str a) := by unfold dIx; simp only [e2]; rfl
  have e5 : dSplit (.str b) (.str " ") = M.pure (.lst ((f :: l).map .str)) := by unfold dSplit; simp only []; rw [if_pos ⟨blank_len, hz⟩, show (" " : Str).cps.getD 0 0 = 32 from by decide, hs]
  have e6 : dIx (.lst ((f :: l).map MS.D.str)) (.int 0) = M.pure (.str f) := by unfold dIx; simp only []; rw [show (0 : Int) = ((0 : Nat) : Int) from rfl, atI_nat (by simp)]; rfl
  obtain ⟨whole, hw⟩ := first_lc (first := f) (words := words) (ρ := [.val (.str s), .val (.int w), .val (.lst (rows.map .str)), c3, .own (.lst (words.map .str)), .val (.int ((k + 1 : Nat) : Int)), .val (.str f), c7, .un]) (by simp) (by simp [noOwn]) rfl
  refine ⟨.own (.lst (whole.map .str)), ?_⟩
  unfold m__law_line_right_b6
  have e4' : dIx (.lst (rows.map MS.D.str)) (.int (k : Int)) = M.pure (.str a) := by
    rw [← e4, show ((k + 1 : Nat) : Int) - 1 = (k : Int) by omega]
  simp at hw e3 e6
  simp [e3, e5, e6, hw, e4', hc', Int.add_sub_cancel]
theorem range2_ok {n : Nat} (h : n ≤ 1000) : dRange2 (.int 1) (.int (n : Int)) = M.pure (rangeD 1 (n - 1)) := by
  unfold dRange2
  simp only []
  rw [if_pos (by omega)]
  congr 2
  omega
theorem loop2_ok {w : Nat} {s : Str} {rows words : List Str} {c3 : Cel} (hr : Rows w s rows) (hw2 : w ≤ 900) : ∀ (n k : Nat) (c5 c6 c7 : Cel), k + n + 1 = rows.length →
    ∃ c5' c6' c7', forL (.nm 5) m__law_line_right_b6 ((List.range' k n).map fun (i : Nat) => MS.D.int (1 + (i : Int))) [.val (.str s), .val (.int w), .val (.lst (rows.map .str)), c3, .own (.lst (words.map .str)), c5, c6, c7, .un] = M.pure (.nx [.val (.str s), .val (.int w), .val (.lst (rows.map .str)), c3, .own (.lst (words.map .str)), c5', c6', c7', .un])
  | 0, k, c5, c6, c7, _ => ⟨c5, c6, c7, rfl⟩
  | n + 1, k, c5, c6, c7, h => by
    obtain ⟨f, l, h1, h2⟩ := hr.next k rows[k] rows[k + 1] (by simp [show k < rows.length by omega]) (by simp [show k + 1 < rows.length by omega])
    obtain ⟨c7', hb⟩ := b2_ok (s := s) (words := words) (c3 := c3) (c6 := c6) (c7 := c7) (k := k) (a := rows[k]) (b := rows[k + 1]) (w := w) (rows := rows) (by simp [show k < rows.length by omega]) (by simp [show k + 1 < rows.length by omega]) h1 h2 (by have := (hr.each rows[k + 1] (List.getElem_mem _)).1; omega)
    obtain ⟨c5', c6', c7'', ih⟩ := loop2_ok (words := words) (c3 := c3) hr hw2 n (k + 1) (.val (.int ((k + 1 : Nat) : Int))) (.val (.str f)) c7' (by omega)
    refine ⟨c5', c6', c7'', ?_⟩
    rw [List.range'_succ, List.map_cons, forL_nm]
    simp only [List.set]
    rw [show (1 + (k : Int)) = ((k + 1 : Nat) : Int) by omega, hb, pure_bind']
    exact ih
theorem rangeD_eq (n : Nat) : rangeD 1 n = (List.range' 0 n).map fun (i : Nat) => MS.D.int (1 + (i : Int)) := by
  unfold rangeD
  rw [List.range_eq_range']
theorem replNe_ok {w : Nat} {s : Str} {rows : List Str} (hr : Rows w s rows) (hw2 : w ≤ 900) (hn : rows.length ≤ 300) (hs : s.length ≤ 100) (ho : PyData.strOk s = true) (ho2 : PyData.strOk (Str.join "" rows) = true) : replNe "" " " "" " " "" (M.pure (.lst (rows.map .str))) (M.pure (.str s)) = M.pure false := by
  have h1 := sum_small (w := w) (l := rows) fun r hr' => (hr.each r hr').1
  have h2 : rows.length * w ≤ 300 * 900 := Nat.mul_le_mul hn hw2
  have hj : dJoin (.str "") (.lst (rows.map .str)) = M.pure (.str (Str.join "" rows)) := by
    unfold dJoin
    simp only [strsOf_map]
    rw [if_pos]
    have : ("" : Str).length = 0 := rfl
    rw [this, sizeLine_eq]
    omega
  have hl : (Str.join "" rows).length ≤ 300 * 900 := by
    refine Nat.le_trans (StrLaws.join_length_le "" rows) ?_
    have : ("" : Str).length = 0 := rfl
    rw [this]
    omega
  have e0 : ("" : Str).length = 0 := rfl
  have d1 : dRepl " " "" (.str (Str.join "" rows)) = M.pure (.str (Txt.replace (Str.join "" rows) " " "")) := by
    unfold dRepl
    simp only []
    rw [if_pos ⟨by rw [e0]; omega, repl_strOk ho2⟩]
  have d2 : dRepl " " "" (.str s) = M.pure (.str (Txt.replace s " " "")) := by
    unfold dRepl
    simp only []
    rw [if_pos ⟨by rw [e0]; omega, repl_strOk ho⟩]
  have e : Txt.replace (Str.join "" rows) " " "" = Txt.replace s " " "" := by
    apply ext_chs
    rw [repl_chs, repl_chs, join0_chs, hr.cat]
  unfold replNe
  simp [hj, d1, d2, e]
end L33
/-! P33h -/
namespace L33
open PySem PySem.Spec PyProof.Rows L2 MS

theorem rows_strOk {w : Nat} {s : Str} {rows : List Str} (hr : Rows w s rows) (ho : PyData.strOk s = true) : PyData.strOk (Str.join "" rows) = true := by
  rw [strOk_all] at ho ⊢
  intro c hc
  by_cases h32 : c = 32
  · subst h32; decide
  · have hc : c ∈ chs (Str.join "" rows) := by simpa using hc
    rw [join0_chs] at hc
    have : c ∈ (rows.flatMap chs).filter (fun c => !decide (c = 32)) := List.mem_filter.mpr ⟨hc, by simp [h32]⟩
    rw [hr.cat] at this
    exact ho c (by simpa using (List.mem_filter.mp this).1)
theorem line_right_ok {w : Nat} {s : Str} (hw : 1 ≤ w) (hw2 : w ≤ 800) (hs : s.length ≤ 100) (ho : PyData.strOk s = true) : M__law_line_right [.str s, .int w] = M.pure (.bl true) := by
  have hr := rows_ok hw s
  have hn := rows_small (s := s) hw hs
  have hro : M_rows_of [.lst [.str s], .int w] = M.pure (.lst ((rowsW w (wordsS s)).map .str)) := by
    have := rows_of_ok hw (by omega) (d := .lst ([s].map .str)) (ls := [s]) (.inl rfl) (by simpa using hs) (by simp)
    simpa [allRows] using this
  have hro1 : M_rows_of [.lst [.str s], .int ((w : Int) + 1)] = M.pure (.lst ((rowsW (w + 1) (wordsS s)).map .str)) := by
    have := rows_of_ok (w := w + 1) (by omega) (by omega) (d := .lst ([s].map .str)) (ls := [s]) (.inl rfl) (by simpa using hs) (by simp)
    simpa [allRows] using this
  have hmono := rows_mono hw (xs := wordsS s) words_ne
  generalize hrows : rowsW w (wordsS s) = rows at *
  generalize hrows1 : rowsW (w + 1) (wordsS s) = rows1 at *
  have hne : ¬ rows.length = 0 := fun h => hr.ne (List.eq_nil_of_length_eq_zero h)
  have hrep := replNe_ok hr (by omega) (by omega) hs ho (rows_strOk hr ho)
  obtain ⟨c3', hl1⟩ := loop1_ok (s := s) (rows := rows) (c4 := .un) (c5 := .un) (c6 := .un) (c7 := .un) (w := w) (by omega) rows .un hr.each
  obtain ⟨c5', c6', c7', hl2⟩ := loop2_ok (words := wordsS s) (c3 := c3') hr (by omega) (rows.length - 1) 0 .un .un .un (by omega)
  have hrg := range2_ok (n := rows.length) (by omega)
  rw [rangeD_eq] at hrg
  have hz : s.length + 2 ≤ sizeLine := by rw [sizeLine_eq]; omega
  have z1 : 1 ≤ sizeLine := by rw [sizeLine_eq]; decide
  have hwl := words_lc' (s := s) (ρ := [.val (.str s), .val (.int w), .val (.lst (rows.map .str)), c3', .un, .un, .un, .un, .un]) (by simp) (by simp [noOwn])
  have hd : dSplit (.str s) (.str " ") = M.pure (.lst ((spl 32 s).map .str)) := by unfold dSplit; simp only []; rw [if_pos ⟨blank_len, hz⟩, show (" " : Str).cps.getD 0 0 = 32 from by decide]
  have hne' : ¬ ((rows.length : Int) = 0) := by omega
  have hle : ((rows1.length : Int) ≤ (rows.length : Int)) := by omega
  have hnil : ¬ rows = [] := hr.ne
  have s1 : m__law_line_right_s1 [.val (.str s), .val (.int w), .un, .un, .un, .un, .un, .un, .un] = M.pure (.nx [.val (.str s), .val (.int w), .val (.lst (rows.map .str)), .un, .un, .un, .un, .un, .un]) := by
    unfold m__law_line_right_s1
    simp [hro, z1]
  have s2 : m__law_line_right_s2 [.val (.str s), .val (.int w), .val (.lst (rows.map .str)), .un, .un, .un, .un, .un, .un] = M.pure (.nx [.val (.str s), .val (.int w), .val (.lst (rows.map .str)), .un, .un, .un, .un, .un, .un]) := by
    unfold m__law_line_right_s2
    simp [hrep, hnil]
  have s4 : m__law_line_right_s4 [.val (.str s), .val (.int w), .val (.lst (rows.map .str)), .un, .un, .un, .un, .un, .un] = M.pure (.nx [.val (.str s), .val (.int w), .val (.lst (rows.map .str)), c3', .un, .un, .un, .un, .un]) := by
    unfold m__law_line_right_s4
    simp only [frzM, frz, frz1, getS_s, getS_0, pure_bind', itemsD_lst, List.getElem?_cons_succ, List.getElem?_cons_zero, hl1]
  have s5 : m__law_line_right_s5 [.val (.str s), .val (.int w), .val (.lst (rows.map .str)), c3', .un, .un, .un, .un, .un] = M.pure (.nx [.val (.str s), .val (.int w), .val (.lst (rows.map .str)), c3', .own (.lst ((wordsS s).map .str)), .un, .un, .un, .un]) := by
    unfold m__law_line_right_s5
    simp [hd, hwl]
  have s7 : m__law_line_right_s7 [.val (.str s), .val (.int w), .val (.lst (rows.map .str)), c3', .own (.lst ((wordsS s).map .str)), .un, .un, .un, .un] = M.pure (.nx [.val (.str s), .val (.int w), .val (.lst (rows.map .str)), c3', .own (.lst ((wordsS s).map .str)), c5', c6', c7', .un]) := by
    unfold m__law_line_right_s7
    simp only [getT_s, getT_0, pure_bind', dLen_lst, List.length_map, hrg, hl2]
  have s8 : m__law_line_right_s8 [.val (.str s), .val (.int w), .val (.lst (rows.map .str)), c3', .own (.lst ((wordsS s).map .str)), c5', c6', c7', .un] = M.pure (.rt (.bl true)) := by
    unfold m__law_line_right_s8
    simp [hro1, z1, hle]
  unfold M__law_line_right runDef m__law_line_right
  rw [show startR 9 [.str s, .int (w : Int)] = [.val (.str s), .val (.int w), .un, .un, .un, .un, .un, .un, .un] from rfl]
  simp only [s1, s2, s4, s5, s7, s8, thenO_nx', pure_bind']
end L33
/-! P33i -/
namespace L33
open PySem PySem.Spec PyProof.Rows L2 MS
def okLine (n : Nat) (d : MS.D) : Prop := ∃ s : Str, d = .str s ∧ s.length ≤ n ∧ PyData.strOk s = true
theorem strs_all {n : Nat} : ∀ {l : List MS.D}, (∀ d ∈ l, okLine n d) → ∃ ss : List Str, l = ss.map .str ∧ ∀ s ∈ ss, s.length ≤ n ∧ PyData.strOk s = true
  | [], _ => ⟨[], rfl, by simp⟩
  | d :: l, h => by
    obtain ⟨s, rfl, h1⟩ := h d (by simp)
    obtain ⟨ss, rfl, h2⟩ := strs_all (l := l) fun x hx => h x (by simp [hx])
    exact ⟨s :: ss, rfl, fun x hx => by
      rcases List.mem_cons.mp hx with rfl | hx
      · exact h1
      · exact h2 x hx⟩
theorem tk_ok {k : Nat} {s : Str} (h : PyData.strOk s = true) : PyData.strOk (tk k s) = true := by
  rw [strOk_all] at h ⊢
  intro c hc
  have h2 : c ∈ List.take k (chs s) := by simpa [tk] using hc
  exact h c (List.mem_of_mem_take h2)
def wordsC : List Str := ["a", "Word", "end.", "{n}", "{all}", "{name}", "don't;", "", "", strMul "x" 23, "{n", "{{n}}", "{N} ~!", "word"]
theorem wordsC_ok : ∀ s ∈ wordsC, s.length ≤ 23 ∧ PyData.strOk s = true := by decide +kernel
theorem range1_ok {r : Nat} (h : r ≤ 1000) : dRange1 (.int (r : Int)) = M.pure (rangeD 0 r) := by
  unfold dRange1
  simp only []
  rw [if_pos ⟨by omega, by omega⟩, Int.toNat_natCast]
theorem rangeD_len {lo : Int} {n : Nat} : (rangeD lo n).length = n := by unfold rangeD; simp
/-- a draw, its answer looked up -/
theorem drawn {many : Int} {b : Nat} {α : Type} {f : MS.D → M α} {c' c : Nat} {P : α → Prop} (h1 : 0 < many) (h2 : many < 1000000) (hb : b ≤ 2 ^ 60) (hc : 1 + c' ≤ c) (k : ∀ r : Nat, (r : Int) < many → Wl (f (.int r)) (b + 1) c' P) : Wl (M.bind (M__law_draw [.pen, .int many]) f) b c P :=
  Wl.le (Wl.bind (draw_okI h1 h2 hb) fun d ⟨r, e, hr⟩ => by subst e; exact k r hr) hc
theorem line_s1 : m__law_line_s1 [.val .pen, .un, .un, .un] = M.pure (.nx [.val .pen, .own (.lst (wordsC.map .str)), .un, .un]) := by
  have z14 : (14 : Nat) ≤ sizeLine := by rw [sizeLine_eq]; decide
  have hx : dMulS (.str "x") (.int 23) = M.pure (.str (strMul "x" 23)) := by
    unfold dMulS
    simp only []
    rw [if_pos ⟨by decide, by decide, by rw [sizeLine_eq]; decide⟩]
  unfold m__law_line_s1
  simp [hx, z14]
  rfl
theorem line_s2 {b : Nat} (hb : b ≤ 2 ^ 50) : Wl (m__law_line_s2 [.val .pen, .own (.lst (wordsC.map .str)), .un, .un]) b 6 (fun o => ∃ s : Str, o = .nx [.val .pen, .own (.lst (wordsC.map .str)), .val (.str s), .un] ∧ s.length ≤ 1000 ∧ PyData.strOk s = true) := by
  unfold m__law_line_s2
  simp only [isStr_def, pure_bind', bind_bind', getT_0, callT_def, List.length_cons, List.length_nil, if_true, noLs_cons]
  refine drawn (c' := 5) (by decide) (by decide) (by omega) (by omega) fun r hr => ?_
  simp only [noL_int, if_true, pure_bind', range1_ok (show r ≤ 1000 by omega)]
  unfold lcD
  rw [if_pos (by simp [noOwn])]
  simp only [bind_bind', pure_bind']
  refine Wl.le (Wl.bind (c' := 0) (wl_lc (P := okLine 23) (c := 1) (B := 2 ^ 51) (rangeD 0 r) (b + 1) (fun d _ b' hb' => ?_) (by rw [rangeD_len]; omega)) fun l ⟨h1, h2⟩ => ?_) (by rw [rangeD_len]; omega)
  · simp [lcStep, Tg.set, wipeR]
    refine Wl.calm (drawn (c' := 0) (by decide) (by decide) (by omega) (by omega) fun k hk => ?_)
    have hk' : k < (wordsC.map MS.D.str).length := by rw [List.length_map]; show k < 14; omega
    simp only [noL_int, if_true, dIx_lst hk', pure_bind']
    refine Wl.pure ⟨_, rfl, wordsC[k]'(by simpa using hk'), by simp, wordsC_ok _ (List.getElem_mem _)⟩
  · obtain ⟨ss, rfl, hss⟩ := strs_all h2
    rw [List.length_map, rangeD_len] at h1
    have hsum := sum_small (w := 23) (l := ss) fun s hs => (hss s hs).1
    have hm : ss.length * 23 ≤ 5 * 23 := Nat.mul_le_mul_right 23 (by omega)
    have hj : dJoin (.str " ") (.lst (ss.map .str)) = M.pure (.str (Str.join " " ss)) := by
      unfold dJoin
      simp only [strsOf_map]
      rw [if_pos (by rw [blank_len, sizeLine_eq]; omega)]
    simp only [hj, pure_bind', asgF_str, List.set]
    refine Wl.pure ⟨_, rfl, ?_, join_ok (by decide +kernel) fun s hs => (hss s hs).2⟩
    refine Nat.le_trans (StrLaws.join_length_le " " ss) ?_
    rw [blank_len]
    omega
theorem line_s3 {b : Nat} {s : Str} (hb : b ≤ 2 ^ 50) (hs : s.length ≤ 1000) (ho : PyData.strOk s = true) : Wl (m__law_line_s3 [.val .pen, .own (.lst (wordsC.map .str)), .val (.str s), .un]) b 1 (fun o => ∃ d, o = .rt d ∧ okLine 60 d) := by
  have z3 : (3 : Nat) ≤ sizeLine := by rw [sizeLine_eq]; decide
  unfold m__law_line_s3
  simp [z3]
  refine drawn (c' := 0) (by decide) (by decide) (by omega) (by omega) fun r hr => ?_
  have hr' : r < [MS.D.int 60, MS.D.int 60, MS.D.int 7].length := by show r < 3; omega
  simp only [noL_int, if_true, dIx_lst hr', pure_bind']
  have key : ∀ k : Nat, k ≤ 60 → Wl (M.bind (asInt (.int (k : Int))) fun x => M.bind (dSlice (.str s) none x) fun d => M.pure (Out.rt d)) (b + 1) 0 (fun o => ∃ d, o = .rt d ∧ okLine 60 d) := fun k hk => by
    simp only [asInt_int, pure_bind', slice_tk]
    exact Wl.pure ⟨_, rfl, tk k s, rfl, by rw [tk_len]; omega, tk_ok ho⟩
  match r, hr' with
  | 0, _ => exact key 60 (by decide)
  | 1, _ => exact key 60 (by decide)
  | 2, _ => exact key 7 (by decide)
theorem law_line_ok {b : Nat} (hb : b ≤ 2 ^ 49) : Wl (M__law_line [.pen]) b 7 (okLine 60) := by
  unfold M__law_line runDef m__law_line
  rw [show startR 4 [.pen] = [.val .pen, .un, .un, .un] from rfl, line_s1, thenO_nx']
  unfold thenO
  rw [bind_bind']
  refine Wl.le (Wl.bind (c' := 1) (line_s2 (by omega)) fun o ⟨s, e, h1, h2⟩ => ?_) (by omega)
  subst e
  refine Wl.le (Wl.bind (c' := 0) (line_s3 (by omega) h1 h2) fun o ⟨d, e, h3⟩ => ?_) (by omega)
  subst e
  exact Wl.pure h3
end L33
/-! P33j -/
namespace L33
open PySem PySem.Spec PyProof.Rows L2 MS
theorem lines_s1 {b : Nat} (hb : b ≤ 2 ^ 50) : Wl (m__law_lines_s1 [.val .pen, .un, .un]) b 3 (fun o => ∃ n : Nat, o = .nx [.val .pen, .val (.int (n : Int)), .un] ∧ n ≤ 12) := by
  have z3 : (3 : Nat) ≤ sizeLine := by rw [sizeLine_eq]; decide
  unfold m__law_lines_s1
  simp [z3]
  refine drawn (c' := 2) (by decide) (by decide) (by omega) (by omega) fun r1 h1 => ?_
  simp only [noL_int, if_true, pure_bind']
  refine drawn (c' := 1) (by decide) (by decide) (by omega) (by omega) fun r2 h2 => ?_
  simp only [noL_int, if_true, pure_bind']
  refine drawn (c' := 0) (by decide) (by decide) (by omega) (by omega) fun r3 h3 => ?_
  have hr' : r3 < [MS.D.int (r1 : Int), MS.D.int (r2 : Int), MS.D.int 12].length := by show r3 < 3; omega
  simp only [noL_int, if_true, dIx_lst hr', pure_bind']
  match r3, hr' with
  | 0, _ => exact Wl.pure ⟨r1, rfl, by omega⟩
  | 1, _ => exact Wl.pure ⟨r2, rfl, by omega⟩
  | 2, _ => exact Wl.pure ⟨12, rfl, by omega⟩
theorem lines_s2 {b n : Nat} (hb : b ≤ 2 ^ 48) (hn : n ≤ 12) : Wl (m__law_lines_s2 [.val .pen, .val (.int (n : Int)), .un]) b 84 (fun o => ∃ ls : List Str, o = .rt (.tup (ls.map .str)) ∧ ls.length ≤ 12 ∧ ∀ s ∈ ls, s.length ≤ 60 ∧ PyData.strOk s = true) := by
  have z2 : (2 : Nat) ≤ sizeLine := by rw [sizeLine_eq]; decide
  unfold m__law_lines_s2
  simp only [getT_s, getT_0, pure_bind', bind_bind', range1_ok (show n ≤ 1000 by omega)]
  unfold lcD
  rw [if_pos (by simp [noOwn])]
  simp only [bind_bind', pure_bind']
  refine Wl.le (Wl.bind (c' := 0) (wl_lc (P := okLine 60) (c := 7) (B := 2 ^ 49) (rangeD 0 n) b (fun d _ b' hb' => ?_) (by rw [rangeD_len]; omega)) fun l ⟨h1, h2⟩ => ?_) (by rw [rangeD_len]; omega)
  · simp [lcStep, Tg.set, wipeR, z2]
    refine Wl.calm (Wl.le (Wl.bind (c' := 0) (law_line_ok hb') fun d ⟨s, e, h3, h4⟩ => ?_) (by omega))
    subst e
    have key : ∀ k : Nat, k ≤ 60 → Wl (M.bind (asInt (.int (k : Int))) fun x => M.bind (dSlice (.str s) none x) fun d => M.pure (some d)) (b' + 7) 0 (fun o => ∃ y, o = some y ∧ okLine 60 y) := fun k hk => by
      simp only [asInt_int, pure_bind', slice_tk]
      exact Wl.pure ⟨_, rfl, tk k s, rfl, by rw [tk_len]; omega, tk_ok h4⟩
    simp only [noL_str, if_true, pure_bind']
    by_cases h3n : (3 : Int) < (n : Int)
    · simp only [h3n, decide_true]
      exact key 12 (by decide)
    · simp only [h3n, decide_false]
      exact key 60 (by decide)
  · obtain ⟨ss, rfl, hss⟩ := strs_all h2
    rw [List.length_map, rangeD_len] at h1
    exact Wl.pure ⟨ss, rfl, by omega, hss⟩
theorem law_lines_ok {b : Nat} (hb : b ≤ 2 ^ 47) : Wl (M__law_lines [.pen]) b 100 (fun d => ∃ ls : List Str, d = .tup (ls.map .str) ∧ ls.length ≤ 12 ∧ ∀ s ∈ ls, s.length ≤ 60 ∧ PyData.strOk s = true) := by
  unfold M__law_lines runDef m__law_lines
  rw [show startR 3 [.pen] = [.val .pen, .un, .un] from rfl]
  unfold thenO
  rw [bind_bind']
  refine Wl.le (Wl.bind (c' := 84) (lines_s1 (by omega)) fun o ⟨n, e, h1⟩ => ?_) (by omega)
  subst e
  refine Wl.le (Wl.bind (c' := 0) (lines_s2 (by omega) h1) fun o ⟨ls, e, h2, h3⟩ => ?_) (by omega)
  subst e
  exact Wl.pure ⟨ls, rfl, h2, h3⟩
end L33
/-! P33k -/
namespace L33
open PySem PySem.Spec PyProof.Rows L2 MS
theorem thenO_stuck' {k : Rho → M Out} : thenO M.stuck k = M.stuck := id rfl
theorem depth_strs : ∀ l : List Str, PyData.depthAll (toPs (l.map MS.D.str)) ≤ 1
  | [] => by simp [toPs, PyData.depthAll]
  | x :: l => by
    have ih := depth_strs l
    simp only [List.map_cons, toPs, toP, PyData.depthAll, PyData.depth]
    omega
theorem plains_strs : ∀ l : List Str, plains (l.map MS.D.str) = true
  | [] => rfl
  | x :: l => by simp [plains, D.plain, plains_strs l]
theorem okEq_strs (l : List Str) : okEq (.lst (l.map MS.D.str)) = true := by
  unfold okEq
  have := depth_strs l
  simp only [D.plain, plains_strs, toP, PyData.depth, Bool.true_and, decide_eq_true_eq]
  omega
theorem eqAll_strs : ∀ l : List Str, PyData.eqvAll (toPs (l.map MS.D.str)) (toPs (l.map MS.D.str)) = true
  | [] => rfl
  | x :: l => by simp [toPs, toP, PyData.eqvAll, PyData.eqv, eqAll_strs l]
theorem ne_strs (l : List Str) : cmpD .NotEq (.lst (l.map MS.D.str)) (.lst (l.map MS.D.str)) = M.pure false := by
  unfold cmpD cmpV cEq
  simp only [okEq_strs, Bool.and_self, if_true]
  have : dEq (.lst (l.map MS.D.str)) (.lst (l.map MS.D.str)) = true := by
    unfold dEq
    simp only [toP, PyData.eqv]
    exact eqAll_strs l
  rw [this]
  rfl
theorem lb1_ok {w : Nat} (hw : 1 ≤ w) (hw2 : w ≤ 800) {s : Str} (hs : s.length ≤ 60) (ho : PyData.strOk s = true) {c2 L : Cel} {j : List Str} (hj : j.length ≤ 100000) :
    m_law_b1 [.un, .val .pen, c2, L, .val (.int (w : Int)), .own (.lst (j.map .str)), .val (.str s)] = M.pure (.nx [.un, .val .pen, c2, L, .val (.int (w : Int)), .own (.lst ((j ++ rowsW w (wordsS s)).map .str)), .val (.str s)]) := by
  have hl := line_right_ok hw hw2 (show s.length ≤ 100 by omega) ho
  have hro : M_rows_of [.lst [.str s], .int (w : Int)] = M.pure (.lst ((rowsW w (wordsS s)).map .str)) := by
    have := rows_of_ok hw (by omega) (d := .lst ([s].map .str)) (ls := [s]) (.inl rfl) (by simp; omega) (by simp)
    simpa [allRows] using this
  have hn := rows_small (s := s) hw (by omega)
  have z1 : 1 ≤ sizeLine := by rw [sizeLine_eq]; decide
  have e1 : j.length + (rowsW w (wordsS s)).length ≤ sizeLine := by rw [sizeLine_eq]; omega
  unfold m_law_b1
  simp [hl, hro, z1, dAdd, e1]
theorem lloop_ok {w : Nat} (hw : 1 ≤ w) (hw2 : w ≤ 800) {c2 L : Cel} : ∀ (ls : List Str) (j : List Str) (c6 : Cel), (∀ s ∈ ls, s.length ≤ 60 ∧ PyData.strOk s = true) → j.length + 300 * ls.length ≤ 100000 →
    ∃ c6', forL (.nm 6) m_law_b1 (ls.map .str) [.un, .val .pen, c2, L, .val (.int (w : Int)), .own (.lst (j.map .str)), c6] = M.pure (.nx [.un, .val .pen, c2, L, .val (.int (w : Int)), .own (.lst ((j ++ allRows w ls).map .str)), c6'])
  | [], j, c6, _, _ => ⟨c6, by simp [allRows]⟩
  | s :: ls, j, c6, h, hz => by
    obtain ⟨h1, h2⟩ := h s (by simp)
    simp only [List.length_cons] at hz
    have hn := rows_small (s := s) hw (by omega)
    obtain ⟨c6', ih⟩ := lloop_ok hw hw2 (c2 := c2) (L := L) ls (j ++ rowsW w (wordsS s)) (.val (.str s)) (fun y hy => h y (by simp [hy])) (by rw [List.length_append]; omega)
    refine ⟨c6', ?_⟩
    rw [List.map_cons, forL_nm]
    simp only [List.set]
    rw [lb1_ok hw hw2 h1 h2 (by omega), pure_bind']
    simp only []
    rw [ih]
    simp [allRows]
theorem lb2_ok {b : Nat} (hb : b ≤ 2 ^ 46) {c2 c3 c4 c5 c6 : Cel} : Wl (m_law_b2 [.un, .val .pen, c2, c3, c4, c5, c6]) b 102 (fun o => ∃ c3' c4' c5' c6', o = .nx [.un, .val .pen, c2, c3', c4', c5', c6']) := by
  have z2 : (2 : Nat) ≤ sizeLine := by rw [sizeLine_eq]; decide
  unfold m_law_b2
  simp only [getT_s, getT_0, pure_bind', bind_bind', callT_def, List.length_cons, List.length_nil, if_true, thenO_bind, ite_bind, thenO_ite]
  refine Wl.le (Wl.bind (c' := 2) (law_lines_ok (by omega)) fun d ⟨ls, e, h1, h2⟩ => ?_) (by omega)
  subst e
  have hnl : (MS.D.tup (ls.map .str)).noL = true := by rw [noL_tup]; exact noLs_map_str
  simp only [hnl, if_true, pure_bind', asgF_tup, List.set, thenO_nx', getT_s, getT_0, Nat.zero_add, Nat.reduceAdd, z2]
  refine drawn (c' := 1) (by decide) (by decide) (by omega) (by omega) fun r hr => ?_
  have key : ∀ many : Int, 0 < many → many ≤ 40 → Wl (M.bind (M__law_draw [.pen, .int many]) fun x => if x.noL = true then M.bind (dAdd (.int 1) x) fun x => thenO (asgF 4 x [.un, .val .pen, c2, .val (.tup (ls.map .str)), c4, c5, c6]) fun ρ =>
      thenO (asgF 5 (.lst []) ρ) fun ρ => M.bind (getS ρ 3) fun x => M.bind (itemsD x) fun x => thenO (forL (.nm 6) m_law_b1 x ρ) fun ρ =>
        M.bind (getS ρ 3) fun x => M.bind (getS ρ 4) fun y => M.bind (callF 2 M_rows_of [x, y]) fun x => M.bind (getT ρ 5) fun y => M.bind (cmpD .NotEq x y) fun b => if b = true then M.pure (.rt (.bl false)) else M.pure (.nx ρ)
      else M.stuck) (b + 100 + 1) 1 (fun o => ∃ c3' c4' c5' c6', o = .nx [.un, .val .pen, c2, c3', c4', c5', c6']) := fun many hm1 hm2 => by
    refine drawn (c' := 0) hm1 (by omega) (by omega) (by omega) fun r2 hr2 => ?_
    have hw : (1 : Int) + (r2 : Int) = ((r2 + 1 : Nat) : Int) := by omega
    obtain ⟨c6', hl⟩ := lloop_ok (w := r2 + 1) (by omega) (by omega) (c2 := c2) (L := .val (.tup (ls.map .str))) ls [] c6 h2 (by simp only [List.length_nil]; omega)
    simp only [List.map_nil, List.nil_append] at hl
    have hro := rows_of_ok (w := r2 + 1) (by omega) (by omega) (d := .tup (ls.map .str)) (ls := ls) (.inr rfl) (fun s hs => by have := (h2 s hs).1; omega) (by omega)
    generalize r2 + 1 = w at hw hl hro
    simp only [noL_int, if_true, dAdd_int, pure_bind', hw, asgF_int, asgF_lst, List.set, thenO_nx', List.length_cons, List.length_nil, getS_s, getS_0, itemsD_tup, callF_def, noLs_cons, hnl, noLs_nil, getT_s, getT_0o]
    simp [hl, hnl, hro, ne_strs]
    exact Wl.pure ⟨_, _, _, _, rfl⟩
  have hr' : r < [MS.D.int 5, MS.D.int 40].length := by show r < 2; omega
  simp only [noL_int, if_true, dIx_lst hr', pure_bind', Nat.zero_le, stuck_bind, thenO_stuck']
  match r, hr' with
  | 0, _ => exact key 5 (by decide) (by decide)
  | 1, _ => exact key 40 (by decide) (by decide)
end L33
/-! P33l -/
namespace L33
open PySem PySem.Spec PyProof.Rows L2 MS
theorem law_go : ∀ (ds : List MS.D) (b : Nat) (c2 c3 c4 c5 c6 : Cel), b + 102 * ds.length ≤ 2 ^ 46 → Wl (forL (.nm 2) m_law_b2 ds [.un, .val .pen, c2, c3, c4, c5, c6]) b (102 * ds.length) (fun o => ∃ c2' c3' c4' c5' c6', o = .nx [.un, .val .pen, c2', c3', c4', c5', c6'])
  | [], b, c2, c3, c4, c5, c6, h => fun p hp => ⟨_, p, rfl, ⟨c2, c3, c4, c5, c6, rfl⟩, hp⟩
  | d :: ds, b, c2, c3, c4, c5, c6, h => by
    rw [List.length_cons, Nat.mul_succ] at h
    rw [forL_nm]
    simp only [List.set]
    refine Wl.le (Wl.bind (c' := 102 * ds.length) (lb2_ok (by omega)) fun o ⟨c3', c4', c5', c6', e⟩ => ?_) (by rw [List.length_cons, Nat.mul_succ]; omega)
    subst e
    exact law_go ds (b + 102) (.val d) c3' c4' c5' c6' (by omega)
theorem law_wl : Wl (m_law (lawR 7)) 0 1200 (fun o => o = .rt (.bl true)) := by
  unfold m_law
  rw [show lawR 7 = [.un, .val .pen, .un, .un, .un, .un, .un] from rfl]
  unfold thenO
  refine Wl.le (Wl.bind (c := 1100) (c' := 0) (P := fun o => ∃ c2' c3' c4' c5' c6', o = .nx [.un, .val .pen, c2', c3', c4', c5', c6']) ?_ fun o ⟨c2', c3', c4', c5', c6', e⟩ => ?_) (by omega)
  · unfold m_law_s3
    simp only [getT_s, getT_0, pure_bind', bind_bind', callT_def, List.length_cons, List.length_nil, if_true, ite_bind]
    refine drawn (c' := 1020) (by decide) (by decide) (by omega) (by omega) fun r hr => ?_
    have hw : (1 : Int) + (r : Int) = ((r + 1 : Nat) : Int) := by omega
    simp only [noL_int, if_true, pure_bind', dAdd_int, hw, range1_ok (show r + 1 ≤ 1000 by omega)]
    refine Wl.le (law_go (rangeD 0 (r + 1)) (0 + 1) .un .un .un .un .un (by rw [rangeD_len]; omega)) (by rw [rangeD_len]; omega)
  · subst e
    exact Wl.pure rfl
theorem lawtrue (ns : List Int) (h : ns.length ≤ 63) : ∃ p', m_law (lawR 7) (some ⟨ns, 0, 0⟩) = .ok (.rt (.bl true)) p' := by
  obtain ⟨o, p', e, rfl, _⟩ := law_wl (some ⟨ns, 0, 0⟩) ⟨⟨ns, 0, 0⟩, rfl, Int.le_refl _, Int.le_refl _⟩
  exact ⟨p', e⟩
end L33
/-! E33 -/
section
open PySem PySem.W PySem.Calls PyProof.Rows
theorem PySem.Challenge.cw_mastershow_k33_whole_rows_lose_no_word_holds : PySem.Challenge.rw_mastershow_k33_whole_rows_lose_no_word.Holds := by
  w_on; o_law
  refine HandSHeadRun.head_any (r := OpenLaw.row PySem.Challenge.rw_mastershow_k33_whole_rows_lose_no_word) (q := view (OpenLaw.row PySem.Challenge.rw_mastershow_k33_whole_rows_lose_no_word).prog [18]) (H := H33.hk) (ob := H33.ob) (M := 20000) (loose := H33.loose) (d := HandSHeadRun.topDef (OpenLaw.row PySem.Challenge.rw_mastershow_k33_whole_rows_lose_no_word).prog 18) (kwd := []) H33.ob_eq
    (by kernel_rfl) (fun s => by kernel_rfl) H33.run (by kernel_rfl) (by kernel_rfl) (by kernel_rfl) (by rfl) (by first | assumption | decide +kernel) (by decide +kernel) ⟨rfl, rfl, rfl, rfl, rfl, by decide +kernel⟩ ?hw ?hc
  case hw => w_witness2
  case hc =>
    refine L2.walk_ofE (l := PySem.Challenge.rw_mastershow_k33_whole_rows_lose_no_word) (n := 63) (k := 13) (x := "script") (CX := L2.CX0) rfl (by decide) (by kernel_rfl) ⟨rfl, by decide, by decide⟩ ?F (fun _ _ _ _ z => z)
    intro w mg fa h Y G hmg0
    obtain ⟨K, KX, c⟩ := Y
    have hmg : mg ("law" : PySem.Str) = some (.ref fa) := by
      have e : (HandSHeadRun.topDef (OpenLaw.row PySem.Challenge.rw_mastershow_k33_whole_rows_lose_no_word).prog 18).name = ("law" : PySem.Str) := by kernel_rfl
      rw [← e]
      exact hmg0
    have e := hmg.symm.trans (He.glo_ok KX G (c.fact 12 (f := .glo "law") rfl))
    cases e
    obtain ⟨fd, hb, hF⟩ := L33.chain (P := (PySem.Challenge.rw_mastershow_k33_whole_rows_lose_no_word).prog) (w := w) (mg := mg) c L33.lawtrue
    exact ⟨K, fd, MS.spLaw K, KX, hb, fun H a ns hl _ hS => ⟨a, ns, rfl, hS, hl, fun _ => rfl⟩, hF⟩
end
