import PyProof.Rows.All
import Wide.All
import OpenK.AllK
import Wide.FinOn
import HandS.ForMost
import HandS.Wide
import HandS.Gcd
import HandS.Flow
import HandS.Deep
import HandS.TupAny
import HandS.SortInts
import HandS.WordsDict
import HandS.Style
import HandS.IsInst
import HandS.EndBits
import PySem.Challenge.RW_everbeat_k20_whole_leases_scaled_and_tol
set_option Elab.async false
set_option linter.all false
set_option maxRecDepth 100000
set_option maxHeartbeats 4000000
/-! Lift0: data D, what represents it, the relation of slots and heap to data, the lifted judgements. -/
namespace Lf
open PySem PySem.Spec PyProof.Rows L2

/-- pure data -/
inductive D where
  | non
  | bl (b : Bool)
  | int (i : Int)
  | str (s : Str)
  | tup (ds : List D)
  | lst (ds : List D)
  | dct (kvs : List (Key × D))
  | dcu (kvs : List (List Key × D))
  | scr (is : List Int)
  | pool

def kD : Key → D
  | .inl i => .int i
  | .inr x => .str x

/-- the frozen part of the heap, and where the pool stands -/
structure Gs where
  G : Hp
  q : Option Addr

/-- not locked -/
def plainO : HO → Bool
  | .frz _ _ => false
  | _ => true
theorem Rd.same {H H' : Hp} {a : Addr} {u : HO} (e : Same H H') (h : Rd H a u) : Rd H' a u := by
  rcases h with h | ⟨o, h⟩
  · exact .inl (e _ _ h)
  · exact .inr ⟨o, e _ _ h⟩
structure Gs.Le (g g' : Gs) : Prop where
  rd : ∀ a u, plainO u = true → Rd g.G a u → Rd g'.G a u
  dom : ∀ a, g.G a ≠ none → g'.G a ≠ none
  pool : ∀ a, g.q = some a → g'.q = some a
theorem Gs.Le.refl (g : Gs) : g.Le g := ⟨fun _ _ _ h => h, fun _ h => h, fun _ h => h⟩
theorem Gs.Le.trans {a b c : Gs} (x : a.Le b) (y : b.Le c) : a.Le c := ⟨fun _ _ p h => y.rd _ _ p (x.rd _ _ p h), fun _ h => y.dom _ (x.dom _ h), fun _ h => y.pool _ (x.pool _ h)⟩
theorem Gs.Le.of {g g' : Gs} (e : Same g.G g'.G) (h : ∀ a, g.q = some a → g'.q = some a) : g.Le g' :=
  ⟨fun _ _ _ r => Rd.same e r, fun a n => by
    cases q : g.G a with
    | none => exact absurd q n
    | some o => rw [e a o q]; simp, h⟩
theorem Gs.Le.seqL {K : PySem.W.Frag} {g g' : Gs} {a : Addr} {xs : List V} (e : g.Le g') (h : SqL K g.G a xs) : SqL K g'.G a xs := h.elim (fun h => .inl (e.rd _ _ rfl h)) .inr
theorem Gs.Le.seqT {K : PySem.W.Frag} {g g' : Gs} {a : Addr} {xs : List V} (e : g.Le g') (h : SqT K g.G a xs) : SqT K g'.G a xs := h.elim (fun h => .inl (e.rd _ _ rfl h)) .inr

mutual
inductive Rep (K : PySem.W.Frag) (g : Gs) : V → D → Prop
  | non : Rep K g .non .non
  | bl (b : Bool) : Rep K g (.bl b) (.bl b)
  | int (i : Int) : Rep K g (.int i) (.int i)
  | str (x : Str) : Rep K g (.str x) (.str x)
  | scr {a : Addr} {is : List Int} : SqL K g.G a (is.map V.int) → Rep K g (.ref a) (.scr is)
  | lst {a : Addr} {xs : List V} {ds : List D} : Rd g.G a (.lst xs) → RepL K g xs ds → Rep K g (.ref a) (.lst ds)
  | tup {a : Addr} {xs : List V} {ds : List D} : SqT K g.G a xs → RepL K g xs ds → Rep K g (.ref a) (.tup ds)
  | dcK {a : Addr} {es : List (Key × V)} {kvs : List (Key × D)} : Rd g.G a (.dK es) → RepK K g es kvs → Rep K g (.ref a) (.dct kvs)
  | dcT {a : Addr} {es : List (List Key × V)} {kvs : List (List Key × D)} : Rd g.G a (.dT es) → RepT K g es kvs → Rep K g (.ref a) (.dcu kvs)
  | pool {a : Addr} : g.q = some a → Rep K g (.ref a) .pool
inductive RepL (K : PySem.W.Frag) (g : Gs) : List V → List D → Prop
  | nil : RepL K g [] []
  | cons {v : V} {vs : List V} {d : D} {ds : List D} : Rep K g v d → RepL K g vs ds → RepL K g (v :: vs) (d :: ds)
inductive RepK (K : PySem.W.Frag) (g : Gs) : List (Key × V) → List (Key × D) → Prop
  | nil : RepK K g [] []
  | cons {k : Key} {v : V} {es : List (Key × V)} {d : D} {kvs : List (Key × D)} : Rep K g v d → RepK K g es kvs → RepK K g ((k, v) :: es) ((k, d) :: kvs)
inductive RepT (K : PySem.W.Frag) (g : Gs) : List (List Key × V) → List (List Key × D) → Prop
  | nil : RepT K g [] []
  | cons {k : List Key} {v : V} {es : List (List Key × V)} {d : D} {kvs : List (List Key × D)} : Rep K g v d → RepT K g es kvs → RepT K g ((k, v) :: es) ((k, d) :: kvs)
end

theorem seqT {K : PySem.W.Frag} {H H' : Hp} {a : Addr} {xs : List V} (e : Same H H') (h : SqT K H a xs) : SqT K H' a xs := by
  rcases h with h | h
  · exact .inl (Rd.same e h)
  · exact .inr h

section
variable {K : PySem.W.Frag} {g g' : Gs}
mutual
theorem Rep.mono (e : g.Le g') : ∀ {d : D} {v : V}, Rep K g v d → Rep K g' v d
  | .non, _, h => by cases h; exact .non
  | .bl b, _, h => by cases h; exact .bl b
  | .int i, _, h => by cases h; exact .int i
  | .str x, _, h => by cases h; exact .str x
  | .lst ds, _, h => by
    cases h with
    | lst h1 h2 => exact .lst (e.rd _ _ rfl h1) (RepL.mono e h2)
  | .scr is, _, h => by
    cases h with
    | scr h1 => exact .scr (e.seqL h1)
  | .tup ds, _, h => by
    cases h with
    | tup h1 h2 => exact .tup (e.seqT h1) (RepL.mono e h2)
  | .dct kvs, _, h => by
    cases h with
    | dcK h1 h2 => exact .dcK (e.rd _ _ rfl h1) (RepK.mono e h2)
  | .dcu kvs, _, h => by
    cases h with
    | dcT h1 h2 => exact .dcT (e.rd _ _ rfl h1) (RepT.mono e h2)
  | .pool, _, h => by
    cases h with
    | pool h => exact .pool (e.pool _ h)
theorem RepL.mono (e : g.Le g') : ∀ {ds : List D} {vs : List V}, RepL K g vs ds → RepL K g' vs ds
  | [], _, h => by cases h; exact .nil
  | d :: ds, _, h => by
    cases h with
    | cons h1 h2 => exact .cons (Rep.mono e h1) (RepL.mono e h2)
theorem RepK.mono (e : g.Le g') : ∀ {kvs : List (Key × D)} {es : List (Key × V)}, RepK K g es kvs → RepK K g' es kvs
  | [], _, h => by cases h; exact .nil
  | (k, d) :: kvs, _, h => by
    cases h with
    | cons h1 h2 => exact .cons (Rep.mono e h1) (RepK.mono e h2)
theorem RepT.mono (e : g.Le g') : ∀ {kvs : List (List Key × D)} {es : List (List Key × V)}, RepT K g es kvs → RepT K g' es kvs
  | [], _, h => by cases h; exact .nil
  | (k, d) :: kvs, _, h => by
    cases h with
    | cons h1 h2 => exact .cons (Rep.mono e h1) (RepT.mono e h2)
end

theorem RepL.length : ∀ {vs : List V} {ds : List D}, RepL K g vs ds → vs.length = ds.length
  | _, [], h => by cases h; rfl
  | _, d :: ds, h => by
    cases h with
    | cons _ h2 => simp [RepL.length h2]
theorem RepL.get : ∀ {ds : List D} {vs : List V} {i : Nat} {d : D}, RepL K g vs ds → ds[i]? = some d → ∃ v, vs[i]? = some v ∧ Rep K g v d
  | [], _, _, _, _, e => by simp at e
  | d :: ds, _, 0, _, h, e => by
    cases h with
    | cons h1 h2 => simp at e; subst e; exact ⟨_, rfl, h1⟩
  | d :: ds, _, i + 1, _, h, e => by
    cases h with
    | cons h1 h2 =>
      obtain ⟨v, e1, r⟩ := RepL.get (i := i) h2 (by simpa using e)
      exact ⟨v, by simpa using e1, r⟩
theorem RepL.get' : ∀ {ds : List D} {vs : List V} {i : Nat} {v : V}, RepL K g vs ds → vs[i]? = some v → ∃ d, ds[i]? = some d ∧ Rep K g v d
  | [], _, i, _, h, e => by cases h; simp at e
  | d :: ds, _, 0, _, h, e => by
    cases h with
    | cons h1 h2 => simp at e; subst e; exact ⟨_, rfl, h1⟩
  | d :: ds, _, i + 1, _, h, e => by
    cases h with
    | cons h1 h2 =>
      obtain ⟨v, e1, r⟩ := RepL.get' (i := i) h2 (by simpa using e)
      exact ⟨v, by simpa using e1, r⟩
theorem RepL.append : ∀ {ds es : List D} {vs ws : List V}, RepL K g vs ds → RepL K g ws es → RepL K g (vs ++ ws) (ds ++ es)
  | [], _, _, _, h, h' => by cases h; exact h'
  | d :: ds, _, _, _, h, h' => by
    cases h with
    | cons h1 h2 => exact .cons h1 (RepL.append h2 h')
theorem RepL.take : ∀ (n : Nat) {ds : List D} {vs : List V}, RepL K g vs ds → RepL K g (vs.take n) (ds.take n)
  | 0, _, _, _ => by simp; exact .nil
  | n + 1, [], _, h => by cases h; exact .nil
  | n + 1, d :: ds, _, h => by
    cases h with
    | cons h1 h2 => exact .cons h1 (RepL.take n h2)
theorem RepL.drop : ∀ (n : Nat) {ds : List D} {vs : List V}, RepL K g vs ds → RepL K g (vs.drop n) (ds.drop n)
  | 0, _, _, h => by simpa using h
  | n + 1, [], _, h => by cases h; exact .nil
  | n + 1, d :: ds, _, h => by
    cases h with
    | cons h1 h2 => simpa using RepL.drop n h2
theorem RepL.reverse : ∀ {ds : List D} {vs : List V}, RepL K g vs ds → RepL K g vs.reverse ds.reverse
  | [], _, h => by cases h; exact .nil
  | d :: ds, _, h => by
    cases h with
    | cons h1 h2 => simp only [List.reverse_cons]; exact RepL.append (RepL.reverse h2) (.cons h1 .nil)
theorem RepL.set {v : V} {d : D} (r : Rep K g v d) : ∀ (i : Nat) {ds : List D} {vs : List V}, RepL K g vs ds → RepL K g (vs.set i v) (ds.set i d)
  | _, [], _, h => by cases h; exact .nil
  | 0, d :: ds, _, h => by
    cases h with
    | cons h1 h2 => exact .cons r h2
  | i + 1, d :: ds, _, h => by
    cases h with
    | cons h1 h2 => exact .cons h1 (RepL.set r i h2)
theorem RepL.ints : ∀ (ns : List Int), RepL K g (ns.map V.int) (ns.map D.int)
  | [] => .nil
  | n :: ns => .cons (.int n) (RepL.ints ns)
theorem RepL.ints_of : ∀ {ns : List Int} {vs : List V}, RepL K g vs (ns.map D.int) → vs = ns.map V.int
  | [], _, h => by cases h; rfl
  | n :: ns, _, h => by
    cases h with
    | cons h1 h2 =>
      cases h1
      rw [RepL.ints_of h2]; rfl
end

/-! ### the pure machine -/
structure Ps where
  place : Int
  rest : Int
  fills : Int
abbrev Pl := Option Ps
abbrev M (α : Type) := Pl → Option (α × Pl)
def M.pure {α : Type} (a : α) : M α := fun p => some (a, p)
def M.bind {α β : Type} (m : M α) (f : α → M β) : M β := fun p => match m p with
  | none => none
  | some (a, p') => f a p'
def M.lift {α : Type} (o : Option α) : M α := fun p => match o with
  | none => none
  | some a => some (a, p)
def M.fail {α : Type} : M α := fun _ => none
theorem M.bind_some {α β : Type} {m : M α} {f : α → M β} {p p2 : Pl} {b : β} (h : M.bind m f p = some (b, p2)) : ∃ a p1, m p = some (a, p1) ∧ f a p1 = some (b, p2) := by
  unfold M.bind at h
  cases e : m p with
  | none => rw [e] at h; cases h
  | some r =>
    obtain ⟨a, p1⟩ := r
    rw [e] at h
    exact ⟨a, p1, rfl, h⟩
theorem M.lift_some {α : Type} {o : Option α} {p p2 : Pl} {b : α} (h : M.lift o p = some (b, p2)) : o = some b ∧ p2 = p := by
  unfold M.lift at h
  cases o with
  | none => cases h
  | some a => cases h; exact ⟨rfl, rfl⟩
theorem M.pure_some {α : Type} {a b : α} {p p2 : Pl} (h : M.pure a p = some (b, p2)) : b = a ∧ p2 = p := by
  cases h; exact ⟨rfl, rfl⟩
@[simp] theorem M.pure_bind {α β : Type} (a : α) (f : α → M β) : M.bind (M.pure a) f = f a := id rfl
@[simp] theorem M.bind_pure {α : Type} (m : M α) : M.bind m M.pure = m := by
  funext p; unfold M.bind M.pure; cases m p <;> rfl
@[simp] theorem M.bind_assoc {α β γ : Type} (m : M α) (f : α → M β) (k : β → M γ) : M.bind (M.bind m f) k = M.bind m (fun a => M.bind (f a) k) := by
  funext p; unfold M.bind; cases m p <;> rfl
@[simp] theorem M.lift_some' {α : Type} (a : α) : M.lift (some a) = M.pure a := id rfl
@[simp] theorem M.lift_none' {α : Type} : M.lift (none : Option α) = M.fail := id rfl
@[simp] theorem M.fail_bind {α β : Type} (f : α → M β) : M.bind M.fail f = M.fail := id rfl

abbrev Rho := Nat → Option D
def Rho.upd (ρ : Rho) (i : Nat) (d : D) : Rho := fun j => if j = i then some d else ρ j
def Rho.wipe (ρ : Rho) (vs : List Nat) : Rho := fun j => if vs.contains j then none else ρ j

/-- how a statement ends -/
inductive Fl where
  | nx (ρ : Rho)
  | rt (d : D)
  | bk (ρ : Rho)
  | ct (ρ : Rho)

/-! ### the relation -/
/-- the entry: the heap, what was frozen, where the pool stood; what is locked now -/
structure Bs where
  H : Hp
  g : Gs
  L : Addr → Bool
def Own (K : PySem.W.Frag) (g : Gs) (B : Bs) (H : Hp) (v : V) : D → Prop
  | .lst ds => ∃ a xs, v = .ref a ∧ H a = some (.lst xs) ∧ RepL K g xs ds ∧ g.G a = none ∧ B.H a = none ∧ g.q ≠ some a
  | .dct kvs => ∃ a es, v = .ref a ∧ H a = some (.dK es) ∧ RepK K g es kvs ∧ g.G a = none ∧ B.H a = none ∧ g.q ≠ some a
  | .dcu kvs => ∃ a es, v = .ref a ∧ H a = some (.dT es) ∧ RepT K g es kvs ∧ g.G a = none ∧ B.H a = none ∧ g.q ≠ some a
  | _ => False
def PoolAt (K : PySem.W.Frag) (ns : List Int) (g : Gs) (p : Pl) (H : Hp) : Prop :=
  match g.q, p with
  | none, none => True
  | some a, some ps => g.G a = none ∧ ∃ v, H a = some (.lst [v, .int ps.place, .int ps.rest, .int ps.fills]) ∧ Rep K g v (.scr ns)
  | _, _ => False
def SlotOk (K : PySem.W.Frag) (ms : List Nat) (g : Gs) (B : Bs) (H : Hp) (i : Nat) (v : V) (d : D) : Prop :=
  if ms.contains i = true then Own K g B H v d else Rep K g v d

structure Abs (K : PySem.W.Frag) (n : Nat) (ns : List Int) (ms : List Nat) (B : Bs) (g : Gs) (ρ : Rho) (p : Pl) (σ : L2.St) (H : Hp) : Prop where
  len : σ.length = n
  sub : Same g.G H
  keep : ∀ a o, B.H a = some o → g.q ≠ some a → H a = some o ∨ (B.L a = true ∧ ∃ ob, H a = some (.frz ob o))
  le : B.g.Le g
  fz : ∀ a, g.G a ≠ none → B.H a = none ∨ B.g.G a ≠ none
  qz : ∀ a, g.q = some a → B.g.q = some a ∨ B.H a = none
  pool : PoolAt K ns g p H
  slot : ∀ i d, ρ i = some d → ∃ v, σ[i]? = some (some v) ∧ SlotOk K ms g B H i v d
  dist : ∀ i j a, ms.contains i = true → ms.contains j = true → i ≠ j → ρ i ≠ none → ρ j ≠ none → σ[i]? = some (some (.ref a)) → σ[j]? = some (some (.ref a)) → False

section
variable {K : PySem.W.Frag} {n : Nat} {ns : List Int} {ms : List Nat} {B : Bs} {g g' : Gs} {ρ : Rho} {p : Pl} {σ : L2.St} {H H' : Hp} {v : V} {d : D}

theorem Own.ref (h : Own K g B H v d) : ∃ a o, v = .ref a ∧ H a = some o ∧ g.G a = none ∧ B.H a = none ∧ g.q ≠ some a := by
  cases d with
  | lst ds => obtain ⟨a, xs, e, h1, _, h2⟩ := h; exact ⟨a, _, e, h1, h2⟩
  | dct kvs => obtain ⟨a, xs, e, h1, _, h2⟩ := h; exact ⟨a, _, e, h1, h2⟩
  | dcu kvs => obtain ⟨a, xs, e, h1, _, h2⟩ := h; exact ⟨a, _, e, h1, h2⟩
  | _ => exact h.elim
/-- an own value stays, if its cell does, and what is frozen stays frozen and does not take its cell -/
theorem Own.move (h : Own K g B H v d) (e : g.Le g') (hk : ∀ a, v = .ref a → H' a = H a ∧ g'.G a = none ∧ g'.q ≠ some a) : Own K g' B H' v d := by
  cases d with
  | lst ds =>
    obtain ⟨a, xs, ev, h1, r, h2, h3, h4⟩ := h
    obtain ⟨k1, k2, k3⟩ := hk a ev
    exact ⟨a, xs, ev, by rw [k1]; exact h1, r.mono e, k2, h3, k3⟩
  | dct kvs =>
    obtain ⟨a, xs, ev, h1, r, h2, h3, h4⟩ := h
    obtain ⟨k1, k2, k3⟩ := hk a ev
    exact ⟨a, xs, ev, by rw [k1]; exact h1, r.mono e, k2, h3, k3⟩
  | dcu kvs =>
    obtain ⟨a, xs, ev, h1, r, h2, h3, h4⟩ := h
    obtain ⟨k1, k2, k3⟩ := hk a ev
    exact ⟨a, xs, ev, by rw [k1]; exact h1, r.mono e, k2, h3, k3⟩
  | _ => exact h.elim
theorem PoolAt.move (h : PoolAt K ns g p H) (e : g.Le g') (hq : g'.q = g.q) (hk : ∀ a, g.q = some a → H' a = H a ∧ g'.G a = none) : PoolAt K ns g' p H' := by
  unfold PoolAt at h ⊢
  rw [hq]
  cases eq : g.q with
  | none =>
    rw [eq] at h
    cases p with
    | none => trivial
    | some ps => exact h.elim
  | some a =>
    rw [eq] at h
    cases p with
    | none => exact h.elim
    | some ps =>
      obtain ⟨h1, w, h2, h3⟩ := h
      obtain ⟨k1, k2⟩ := hk a eq
      exact ⟨k2, w, by rw [k1]; exact h2, h3.mono e⟩
theorem PoolAt.at (h : PoolAt K ns g p H) {a : Addr} (e : g.q = some a) : g.G a = none ∧ ∃ o, H a = some o := by
  unfold PoolAt at h
  rw [e] at h
  cases p with
  | none => exact h.elim
  | some ps =>
    obtain ⟨h1, w, h2, _⟩ := h
    exact ⟨h1, _, h2⟩
/-- a new object that nobody holds yet -/
theorem Abs.alloc (h : Abs K n ns ms B g ρ p σ H) {a : Addr} {o : HO} (hn : H a = none) : Abs K n ns ms B g ρ p σ (upd H a o) := by
  have ne : ∀ {b u}, H b = some u → b ≠ a := fun {b u} e => ne_of_none e hn
  refine ⟨h.len, fun b u e => ?_, fun b u e hq => ?_, h.le, h.fz, h.qz, ?_, fun i d e => ?_, h.dist⟩
  · have e' := h.sub b u e
    rw [upd_ne (ne e')]; exact e'
  · rcases h.keep b u e hq with e' | ⟨l, ob, e'⟩
    · exact .inl (by rw [upd_ne (ne e')]; exact e')
    · exact .inr ⟨l, ob, by rw [upd_ne (ne e')]; exact e'⟩
  · refine h.pool.move (Gs.Le.refl g) rfl fun b e => ?_
    obtain ⟨h1, u, h2⟩ := h.pool.at e
    exact ⟨upd_ne (ne h2), h1⟩
  · obtain ⟨v, e1, h1⟩ := h.slot i d e
    refine ⟨v, e1, ?_⟩
    unfold SlotOk at h1 ⊢
    split
    · rename_i hm
      rw [if_pos hm] at h1
      obtain ⟨b, u, ev, hb, h2, h3, h4⟩ := h1.ref
      exact h1.move (Gs.Le.refl g) fun c ec => by
        rw [ev] at ec; cases ec
        exact ⟨upd_ne (ne hb), h2, h4⟩
    · rename_i hm
      rw [if_neg hm] at h1
      exact h1

def D.isBox : D → Bool
  | .lst _ => true
  | .dct _ => true
  | .dcu _ => true
  | _ => false
/-- what is freshly made, held by nobody -/
def Fresh (K : PySem.W.Frag) (ms : List Nat) (g : Gs) (B : Bs) (ρ : Rho) (σ : L2.St) (H : Hp) (v : V) (d : D) : Prop :=
  (d.isBox = false ∧ Rep K g v d) ∨ (Own K g B H v d ∧ ∀ i, ms.contains i = true → ρ i ≠ none → ∀ a, v = .ref a → σ[i]? ≠ some (some (.ref a)))

/-- a list to the frozen part -/
theorem Own.freeze (h : Own K g B H v d) : ∃ a o, v = .ref a ∧ H a = some o ∧ g.G a = none ∧ B.H a = none ∧ g.q ≠ some a ∧ Rep K ⟨upd g.G a o, g.q⟩ v d := by
  have le : ∀ {a o}, g.G a = none → g.Le ⟨upd g.G a o, g.q⟩ := fun {a o} hn => .of (fun b u e => by
    show upd g.G a o b = some u
    rw [upd_ne (ne_of_none e hn)]; exact e) fun _ e => e
  cases d with
  | lst ds =>
    obtain ⟨a, xs, ev, h1, r, h2, h3, h4⟩ := h
    subst ev
    exact ⟨a, _, rfl, h1, h2, h3, h4, .lst (.inl upd_same) (r.mono (le h2))⟩
  | dct kvs =>
    obtain ⟨a, xs, ev, h1, r, h2, h3, h4⟩ := h
    subst ev
    exact ⟨a, _, rfl, h1, h2, h3, h4, .dcK (.inl upd_same) (r.mono (le h2))⟩
  | dcu kvs =>
    obtain ⟨a, xs, ev, h1, r, h2, h3, h4⟩ := h
    subst ev
    exact ⟨a, _, rfl, h1, h2, h3, h4, .dcT (.inl upd_same) (r.mono (le h2))⟩
  | _ => exact h.elim
theorem Gs.le_upd {a : Addr} {o : HO} (hn : g.G a = none) : g.Le ⟨upd g.G a o, g.q⟩ := .of (fun b u e => by
    show upd g.G a o b = some u
    rw [upd_ne (ne_of_none e hn)]; exact e) fun _ e => e
/-- a cell that no own slot (of ms') holds goes to the frozen part -/
theorem Abs.freezeAt {ms' : List Nat} (h : Abs K n ns ms B g ρ p σ H) {a : Addr} {o : HO} (ha : H a = some o) (hg : g.G a = none) (hB : B.H a = none) (hq : g.q ≠ some a)
    (hms : ∀ i, ms'.contains i = true → ms.contains i = true)
    (ho : ∀ i, ms'.contains i = true → ρ i ≠ none → σ[i]? ≠ some (some (.ref a)))
    (hrep : ∀ i v d, ms.contains i = true → ms'.contains i = false → ρ i = some d → σ[i]? = some (some v) → Own K g B H v d → Rep K ⟨upd g.G a o, g.q⟩ v d) :
    Abs K n ns ms' B ⟨upd g.G a o, g.q⟩ ρ p σ H := by
  have le := Gs.le_upd (o := o) hg
  refine ⟨h.len, fun b u e => ?_, fun b u e hq' => h.keep b u e hq', h.le.trans le, fun b e => ?_, h.qz, ?_, fun i d e => ?_, fun i j b hi hj hij h1 h2 => h.dist i j b (hms i hi) (hms j hj) hij h1 h2⟩
  · by_cases hb : b = a
    · subst hb
      have e' : upd g.G b o b = some u := e
      rw [upd_same] at e'; cases e'
      exact ha
    · have e' : upd g.G a o b = some u := e
      rw [upd_ne hb] at e'
      exact h.sub b u e'
  · by_cases hb : b = a
    · subst hb; exact .inl hB
    · have e' : upd g.G a o b ≠ none := e
      rw [upd_ne hb] at e'
      exact h.fz b e'
  · refine h.pool.move le rfl fun b e => ?_
    obtain ⟨h1, _⟩ := h.pool.at e
    refine ⟨rfl, ?_⟩
    show upd g.G a o b = none
    rw [upd_ne (fun z => hq (by rw [← z]; exact e))]
    exact h1
  · obtain ⟨v, e1, h1⟩ := h.slot i d e
    refine ⟨v, e1, ?_⟩
    unfold SlotOk at h1 ⊢
    by_cases hm' : ms'.contains i = true
    · rw [if_pos hm']
      rw [if_pos (hms i hm')] at h1
      obtain ⟨b, u, ev, hb, h2, h3, h4⟩ := h1.ref
      refine h1.move le fun c ec => ?_
      rw [ev] at ec; cases ec
      refine ⟨rfl, ?_, h4⟩
      show upd g.G a o b = none
      rw [upd_ne]
      · exact h2
      · intro z
        subst z
        exact ho i hm' (by rw [e]; simp) (by rw [e1, ev])
    · rw [if_neg hm']
      by_cases hm : ms.contains i = true
      · rw [if_pos hm] at h1
        exact hrep i v d hm (by simpa using hm') e e1 h1
      · rw [if_neg hm] at h1
        exact h1.mono le
def del (ms : List Nat) (i : Nat) : List Nat := ms.filter fun j => j != i
theorem del_iff {i j : Nat} : (del ms i).contains j = true ↔ ms.contains j = true ∧ j ≠ i := by
  unfold del
  rw [List.contains_iff_mem, List.contains_iff_mem, List.mem_filter]
  simp
/-- the slot i is no longer own -/
theorem Abs.freeze (h : Abs K n ns ms B g ρ p σ H) (i : Nat) : ∃ g', g.Le g' ∧ g'.q = g.q ∧ Abs K n ns (del ms i) B g' ρ p σ H := by
  by_cases hi : ms.contains i = true
  · cases e : ρ i with
    | none =>
      refine ⟨g, Gs.Le.refl g, rfl, h.len, h.sub, h.keep, h.le, h.fz, h.qz, h.pool, fun j d ej => ?_, fun j k b hj hk hjk h1 h2 => h.dist j k b (del_iff.mp hj).1 (del_iff.mp hk).1 hjk h1 h2⟩
      obtain ⟨v, e1, h1⟩ := h.slot j d ej
      refine ⟨v, e1, ?_⟩
      have hji : j ≠ i := fun z => by subst z; rw [e] at ej; cases ej
      unfold SlotOk at h1 ⊢
      by_cases hm : ms.contains j = true
      · rw [if_pos hm] at h1
        rw [if_pos (del_iff.mpr ⟨hm, hji⟩)]
        exact h1
      · rw [if_neg hm] at h1
        rw [if_neg (fun z => hm (del_iff.mp z).1)]
        exact h1
    | some d =>
      obtain ⟨v, e1, h1⟩ := h.slot i d e
      unfold SlotOk at h1
      rw [if_pos hi] at h1
      obtain ⟨a, o, ev, ha, hg, hB, hq, hr⟩ := h1.freeze
      refine ⟨_, Gs.le_upd (o := o) hg, rfl, h.freezeAt ha hg hB hq (fun j hj => (del_iff.mp hj).1) (fun j hj hρ z => ?_) (fun j w d' hm hm' ej ew ho => ?_)⟩
      · exact h.dist j i a (del_iff.mp hj).1 hi (del_iff.mp hj).2 hρ (by rw [e]; simp) z (by rw [e1, ev])
      · have hji : j = i := by
          by_cases hji : j = i
          · exact hji
          · rw [del_iff.mpr ⟨hm, hji⟩] at hm'; cases hm'
        subst hji
        rw [e1] at ew; cases ew
        rw [e] at ej; cases ej
        exact hr
  · have e : ∀ j, (del ms i).contains j = ms.contains j := fun j => by
      by_cases hj : ms.contains j = true
      · rw [hj]
        exact del_iff.mpr ⟨hj, fun z => hi (by rw [← z]; exact hj)⟩
      · rw [Bool.eq_false_iff.mpr hj]
        exact Bool.eq_false_iff.mpr fun z => hj (del_iff.mp z).1
    refine ⟨g, Gs.Le.refl g, rfl, h.len, h.sub, h.keep, h.le, h.fz, h.qz, h.pool, fun j d ej => ?_, fun j k b hj hk => h.dist j k b (by rw [← e]; exact hj) (by rw [← e]; exact hk)⟩
    obtain ⟨v, e1, h1⟩ := h.slot j d ej
    exact ⟨v, e1, by unfold SlotOk at h1 ⊢; rw [e]; exact h1⟩
/-- fewer own slots -/
theorem Abs.weak_del (h : Abs K n ns ms B g ρ p σ H) (is : List Nat) : ∃ g', g.Le g' ∧ g'.q = g.q ∧ Abs K n ns (is.foldl del ms) B g' ρ p σ H := by
  induction is generalizing ms g with
  | nil => exact ⟨g, Gs.Le.refl g, rfl, h⟩
  | cons i is ih =>
    obtain ⟨g1, e1, q1, h1⟩ := h.freeze i
    obtain ⟨g2, e2, q2, h2⟩ := ih h1
    exact ⟨g2, e1.trans e2, by rw [q2, q1], h2⟩
theorem Abs.congr {ms' : List Nat} (h : Abs K n ns ms B g ρ p σ H) (e : ∀ j, ms'.contains j = ms.contains j) : Abs K n ns ms' B g ρ p σ H := by
  refine ⟨h.len, h.sub, h.keep, h.le, h.fz, h.qz, h.pool, fun j d ej => ?_, fun j k b hj hk => h.dist j k b (by rw [← e]; exact hj) (by rw [← e]; exact hk)⟩
  obtain ⟨v, e1, h1⟩ := h.slot j d ej
  exact ⟨v, e1, by unfold SlotOk at h1 ⊢; rw [e]; exact h1⟩
theorem foldl_del (is : List Nat) : ∀ (ms : List Nat) (j : Nat), (is.foldl del ms).contains j = true ↔ ms.contains j = true ∧ is.contains j = false := by
  induction is with
  | nil => intro ms j; simp
  | cons i is ih =>
    intro ms j
    show (is.foldl del (del ms i)).contains j = true ↔ _
    rw [ih, del_iff]
    have : (i :: is).contains j = (j == i || is.contains j) := by rw [List.contains_cons]
    rw [this]
    constructor
    · rintro ⟨⟨h1, h2⟩, h3⟩
      exact ⟨h1, by simp [h2, h3]; simpa using h3⟩
    · rintro ⟨h1, h2⟩
      rw [Bool.or_eq_false_iff] at h2
      exact ⟨⟨h1, by simpa using h2.1⟩, h2.2⟩
def subm (ms' ms : List Nat) : Bool := ms'.all fun j => ms.contains j
theorem Abs.weak {ms' : List Nat} (h : Abs K n ns ms B g ρ p σ H) (hs : subm ms' ms = true) : ∃ g', g.Le g' ∧ g'.q = g.q ∧ Abs K n ns ms' B g' ρ p σ H := by
  obtain ⟨g', e, q, h'⟩ := h.weak_del (ms.filter fun j => !ms'.contains j)
  refine ⟨g', e, q, h'.congr fun j => ?_⟩
  have key := foldl_del (ms.filter fun j => !ms'.contains j) ms j
  have hs' : ∀ j, ms'.contains j = true → ms.contains j = true := fun j hj => List.all_eq_true.mp hs j (List.contains_iff_mem.mp hj)
  by_cases hj : ms'.contains j = true
  · rw [hj]
    refine (key.mpr ⟨hs' j hj, ?_⟩).symm
    refine Bool.eq_false_iff.mpr fun z => ?_
    have z' := List.contains_iff_mem.mp z
    rw [List.mem_filter] at z'
    rw [hj] at z'
    exact absurd z'.2 (by simp)
  · rw [Bool.eq_false_iff.mpr hj]
    refine (Bool.eq_false_iff.mpr fun z => ?_).symm
    obtain ⟨z1, z2⟩ := key.mp z
    have : (ms.filter fun j => !ms'.contains j).contains j = true := List.contains_iff_mem.mpr (List.mem_filter.mpr ⟨List.contains_iff_mem.mp z1, by rw [Bool.eq_false_iff.mpr hj]; rfl⟩)
    rw [this] at z2; cases z2
/-- a slot is set to a frozen value -/
theorem Abs.set (h : Abs K n ns ms B g ρ p σ H) {i : Nat} (hi : i < n) (r : Rep K g v d) : Abs K n ns (del ms i) B g (ρ.upd i d) p (σ.set i (some v)) H := by
  refine ⟨by rw [List.length_set]; exact h.len, h.sub, h.keep, h.le, h.fz, h.qz, h.pool, fun j d' ej => ?_, fun j k b hj hk hjk h1 h2 e1 e2 => ?_⟩
  · unfold Rho.upd at ej
    by_cases hji : j = i
    · subst hji
      rw [if_pos rfl] at ej; cases ej
      refine ⟨v, by rw [List.getElem?_set_self (by rw [h.len]; exact hi)], ?_⟩
      unfold SlotOk
      rw [if_neg (fun z => (del_iff.mp z).2 rfl)]
      exact r
    · rw [if_neg hji] at ej
      obtain ⟨w, e1, h1⟩ := h.slot j d' ej
      refine ⟨w, by rw [List.getElem?_set_ne (fun z => hji z.symm)]; exact e1, ?_⟩
      unfold SlotOk at h1 ⊢
      by_cases hm : ms.contains j = true
      · rw [if_pos hm] at h1
        rw [if_pos (del_iff.mpr ⟨hm, hji⟩)]
        exact h1
      · rw [if_neg hm] at h1
        rw [if_neg (fun z => hm (del_iff.mp z).1)]
        exact h1
  · have hj' := del_iff.mp hj
    have hk' := del_iff.mp hk
    rw [List.getElem?_set_ne (fun z => hj'.2 z.symm)] at e1
    rw [List.getElem?_set_ne (fun z => hk'.2 z.symm)] at e2
    unfold Rho.upd at h1 h2
    rw [if_neg hj'.2] at h1
    rw [if_neg hk'.2] at h2
    exact h.dist j k b hj'.1 hk'.1 hjk h1 h2 e1 e2
/-- a slot is set to a freshly made list or dict -/
theorem Abs.setOwn (h : Abs K n ns ms B g ρ p σ H) {i : Nat} (hi : i < n) (r : Own K g B H v d) (hf : ∀ j, ms.contains j = true → ρ j ≠ none → ∀ a, v = .ref a → σ[j]? ≠ some (some (.ref a))) :
    Abs K n ns (i :: del ms i) B g (ρ.upd i d) p (σ.set i (some v)) H := by
  have hc : ∀ j, (i :: del ms i).contains j = true ↔ j = i ∨ (ms.contains j = true ∧ j ≠ i) := fun j => by
    rw [List.contains_cons, Bool.or_eq_true, del_iff]; simp
  refine ⟨by rw [List.length_set]; exact h.len, h.sub, h.keep, h.le, h.fz, h.qz, h.pool, fun j d' ej => ?_, fun j k b hj hk hjk h1 h2 e1 e2 => ?_⟩
  · unfold Rho.upd at ej
    by_cases hji : j = i
    · subst hji
      rw [if_pos rfl] at ej; cases ej
      refine ⟨v, by rw [List.getElem?_set_self (by rw [h.len]; exact hi)], ?_⟩
      unfold SlotOk
      rw [if_pos ((hc j).mpr (.inl rfl))]
      exact r
    · rw [if_neg hji] at ej
      obtain ⟨w, e1, h1⟩ := h.slot j d' ej
      refine ⟨w, by rw [List.getElem?_set_ne (fun z => hji z.symm)]; exact e1, ?_⟩
      unfold SlotOk at h1 ⊢
      by_cases hm : ms.contains j = true
      · rw [if_pos hm] at h1
        rw [if_pos ((hc j).mpr (.inr ⟨hm, hji⟩))]
        exact h1
      · rw [if_neg hm] at h1
        rw [if_neg (fun z => by
          rcases (hc j).mp z with z | z
          · exact hji z
          · exact hm z.1)]
        exact h1
  · have self : ∀ {c}, (σ.set i (some v))[i]? = some (some (V.ref c)) → v = .ref c := fun {c} e => by
      rw [List.getElem?_set_self (by rw [h.len]; exact hi)] at e
      cases e; rfl
    have other : ∀ {l c}, l ≠ i → (σ.set i (some v))[l]? = some (some (V.ref c)) → σ[l]? = some (some (V.ref c)) := fun {l c} hl e => by
      rw [List.getElem?_set_ne (fun z => hl z.symm)] at e; exact e
    have otherρ : ∀ {l}, l ≠ i → ρ.upd i d l ≠ none → ρ l ≠ none := fun {l} hl e => by
      unfold Rho.upd at e; rw [if_neg hl] at e; exact e
    rcases (hc j).mp hj with z | ⟨mj, nj⟩
    · subst z
      rcases (hc k).mp hk with z | ⟨mk, nk⟩
      · exact hjk z.symm
      · exact hf k mk (otherρ nk h2) b (self e1) (other nk e2)
    · rcases (hc k).mp hk with z | ⟨mk, nk⟩
      · subst z
        exact hf j mj (otherρ nj h1) b (self e2) (other nj e1)
      · exact h.dist j k b mj mk hjk (otherρ nj h1) (otherρ nk h2) (other nj e1) (other nk e2)
end
end Lf

/-! Lift1: the lifted judgements; names, constants, operators, tests, calls. -/
namespace Lf
open PySem PySem.Spec PyProof.Rows L2

/-- weaken a reading -/
theorem pe_weak {X : Cx} {e : Expr} {t t' : TE} (h : PE X e t) (w : ∀ σ H Q, t' σ H Q → t σ H Q) : PE X e t' := ⟨fun pins s σ H Q I q => h.run pins s σ H Q I (w σ H Q q)⟩
theorem pt_weak {X : Cx} {e : Expr} {t t' : TT} (h : PT X e t) (w : ∀ σ H Q, t' σ H Q → t σ H Q) : PT X e t' := ⟨fun pins s σ H Q I q => h.run pins s σ H Q I (w σ H Q q)⟩
theorem pw_weak {X : Cx} {e : Expr} {t t' : TT} (h : PW X e t) (w : ∀ σ H Q, t' σ H Q → t σ H Q) : PW X e t' := ⟨fun wh pins s σ H Q I q => h.run wh pins s σ H Q I (w σ H Q q)⟩
theorem pa_weak {X : Cx} {es : List Expr} {t t' : TA} (h : PA X es t) (w : ∀ σ H Q, t' σ H Q → t σ H Q) : PA X es t' := ⟨fun pos pins s σ H Q I q => h.run pos pins s σ H Q I (w σ H Q q)⟩
theorem ps_weak {X : Cx} {st : Stmt} {t t' : TS} (h : PS X st t) (w : ∀ D σ H, t' D σ H → t D σ H) : PS X st t' := ⟨fun pins s σ H D I q => h.run pins s σ H D I (w D σ H q)⟩
theorem pss_weak {X : Cx} {st : List Stmt} {t t' : TS} (h : PSs X st t) (w : ∀ D σ H, t' D σ H → t D σ H) : PSs X st t' := ⟨fun pins s σ H D I q => h.run pins s σ H D I (w D σ H q)⟩

/-- borrowed: frozen, or as a slot has it -/
def Held (K : PySem.W.Frag) (g : Gs) (ρ : Rho) (σ : L2.St) (v : V) (d : D) : Prop := Rep K g v d ∨ ∃ i : Nat, ρ i = some d ∧ σ[i]? = some (some v)
inductive HeldL (K : PySem.W.Frag) (g : Gs) (ρ : Rho) (σ : L2.St) : List V → List D → Prop
  | nil : HeldL K g ρ σ [] []
  | cons {v : V} {vs : List V} {d : D} {ds : List D} : Held K g ρ σ v d → HeldL K g ρ σ vs ds → HeldL K g ρ σ (v :: vs) (d :: ds)
/-- what may be read of a value at once -/
def View (K : PySem.W.Frag) (g : Gs) (H : Hp) (v : V) : D → Prop
  | .lst ds => ∃ a xs, v = .ref a ∧ Rd H a (.lst xs) ∧ RepL K g xs ds
  | .dct kvs => ∃ a es, v = .ref a ∧ Rd H a (.dK es) ∧ RepK K g es kvs
  | .dcu kvs => ∃ a es, v = .ref a ∧ Rd H a (.dT es) ∧ RepT K g es kvs
  | d => Rep K g v d
inductive ViewL (K : PySem.W.Frag) (g : Gs) (H : Hp) : List V → List D → Prop
  | nil : ViewL K g H [] []
  | cons {v : V} {vs : List V} {d : D} {ds : List D} : View K g H v d → ViewL K g H vs ds → ViewL K g H (v :: vs) (d :: ds)

section
variable {K : PySem.W.Frag} {n : Nat} {ns : List Int} {ms : List Nat} {B : Bs} {g g' : Gs} {ρ : Rho} {p : Pl} {σ : L2.St} {H H' : Hp} {v : V} {d : D} {vs : List V} {ds : List D}
theorem Held.mono (e : g.Le g') (h : Held K g ρ σ v d) : Held K g' ρ σ v d := h.elim (fun h => .inl (h.mono e)) .inr
theorem HeldL.mono (e : g.Le g') (h : HeldL K g ρ σ vs ds) : HeldL K g' ρ σ vs ds := by
  induction h with
  | nil => exact .nil
  | cons h _ ih => exact .cons (h.mono e) ih
theorem RepL.held (h : RepL K g vs ds) : HeldL K g ρ σ vs ds := by
  induction ds generalizing vs with
  | nil => cases h; exact .nil
  | cons d ds ih =>
    cases h with
    | cons h1 h2 => exact .cons (.inl h1) (ih h2)
theorem Rep.view (e : Same g.G H) (h : Rep K g v d) : View K g H v d := by
  cases d with
  | lst ds =>
    cases h with
    | lst h1 h2 => exact ⟨_, _, rfl, Rd.same e h1, h2⟩
  | dct kvs =>
    cases h with
    | dcK h1 h2 => exact ⟨_, _, rfl, Rd.same e h1, h2⟩
  | dcu kvs =>
    cases h with
    | dcT h1 h2 => exact ⟨_, _, rfl, Rd.same e h1, h2⟩
  | _ => exact h
theorem Own.view (h : Own K g B H v d) : View K g H v d := by
  cases d with
  | lst ds => obtain ⟨a, xs, e, h1, r, _⟩ := h; exact ⟨a, xs, e, .inl h1, r⟩
  | dct kvs => obtain ⟨a, xs, e, h1, r, _⟩ := h; exact ⟨a, xs, e, .inl h1, r⟩
  | dcu kvs => obtain ⟨a, xs, e, h1, r, _⟩ := h; exact ⟨a, xs, e, .inl h1, r⟩
  | _ => exact h.elim
theorem Held.view (A : Abs K n ns ms B g ρ p σ H) (h : Held K g ρ σ v d) : View K g H v d := by
  rcases h with h | ⟨i, e1, e2⟩
  · exact h.view A.sub
  · obtain ⟨w, e3, h⟩ := A.slot i d e1
    rw [e2] at e3; cases e3
    unfold SlotOk at h
    split at h
    · exact h.view
    · exact h.view A.sub
theorem HeldL.view (A : Abs K n ns ms B g ρ p σ H) (h : HeldL K g ρ σ vs ds) : ViewL K g H vs ds := by
  induction h with
  | nil => exact .nil
  | cons h _ ih => exact .cons (h.view A) ih
theorem SqL.sub {a : Addr} {xs : List V} (h : SqL K H a xs) : SqL K H a xs := h
/-- a view is a representation over the whole heap -/
theorem View.rep (e : Same g.G H) (h : View K g H v d) : Rep K ⟨H, g.q⟩ v d := by
  have le : g.Le ⟨H, g.q⟩ := .of e fun _ h => h
  cases d with
  | lst ds => obtain ⟨a, xs, rfl, h1, h2⟩ := h; exact .lst h1 (h2.mono le)
  | tup ds => exact Rep.mono le h
  | dct kvs => obtain ⟨a, xs, rfl, h1, h2⟩ := h; exact .dcK h1 (h2.mono le)
  | dcu kvs => obtain ⟨a, xs, rfl, h1, h2⟩ := h; exact .dcT h1 (h2.mono le)
  | non => exact Rep.mono le h
  | bl b => exact Rep.mono le h
  | int i => exact Rep.mono le h
  | str x => exact Rep.mono le h
  | pool => exact Rep.mono le h
  | scr is => exact Rep.mono le h
end

/-! ### the judgements -/
abbrev RR := Gs → Bs → Rho → L2.St → Hp → V → D → Prop
abbrev RF := PySem.W.Frag → List Nat → RR
def lX (R : RR) (K : PySem.W.Frag) (n : Nat) (ns : List Int) (ms ms' : List Nat) (f : Rho → M D) : TE := fun σ H Q =>
  ∃ B g ρ p d p', Abs K n ns ms B g ρ p σ H ∧ f ρ p = some (d, p') ∧ ∀ g' v H', g.Le g' → Abs K n ns ms' B g' ρ p' σ H' → R g' B ρ σ H' v d → Q v H'
def rE : RF := fun K _ g _ _ _ _ v d => Rep K g v d
def rN : RF := fun K ms g B ρ σ H v d => Fresh K ms g B ρ σ H v d
def rB : RF := fun K _ g _ ρ σ _ v d => Held K g ρ σ v d
def lT (K : PySem.W.Frag) (n : Nat) (ns : List Int) (ms ms' : List Nat) (f : Rho → M Bool) : TT := fun σ H Q =>
  ∃ B g ρ p d p', Abs K n ns ms B g ρ p σ H ∧ f ρ p = some (d, p') ∧ ∀ g' H', g.Le g' → Abs K n ns ms' B g' ρ p' σ H' → Q d H'
def lA (K : PySem.W.Frag) (n : Nat) (ns : List Int) (ms ms' : List Nat) (f : Rho → M (List D)) : TA := fun σ H Q =>
  ∃ B g ρ p d p', Abs K n ns ms B g ρ p σ H ∧ f ρ p = some (d, p') ∧ ∀ g' v H', g.Le g' → Abs K n ns ms' B g' ρ p' σ H' → RepL K g' v d → Q v H'
def lAB (K : PySem.W.Frag) (n : Nat) (ns : List Int) (ms ms' : List Nat) (f : Rho → M (List D)) : TA := fun σ H Q =>
  ∃ B g ρ p d p', Abs K n ns ms B g ρ p σ H ∧ f ρ p = some (d, p') ∧ ∀ g' v H', g.Le g' → Abs K n ns ms' B g' ρ p' σ H' → HeldL K g' ρ σ v d → Q v H'

/-- an expression: R tells how its value is had (rN: new, rE: frozen, rB: borrowed) -/
def LX (R : RF) (X : Cx) (ns : List Int) (ms ms' : List Nat) (e : Expr) (f : Rho → M D) : Prop := PE X e (lX (R X.K ms') X.K X.N.length ns ms ms' f)
abbrev LE := LX rE
abbrev LN := LX rN
abbrev LB := LX rB
def LT (X : Cx) (ns : List Int) (ms ms' : List Nat) (e : Expr) (f : Rho → M Bool) : Prop := PT X e (lT X.K X.N.length ns ms ms' f)
def LW (X : Cx) (ns : List Int) (ms ms' : List Nat) (e : Expr) (f : Rho → M Bool) : Prop := PW X e (lT X.K X.N.length ns ms ms' f)
def LA (X : Cx) (ns : List Int) (ms ms' : List Nat) (es : List Expr) (f : Rho → M (List D)) : Prop := PA X es (lA X.K X.N.length ns ms ms' f)
def LAB (X : Cx) (ns : List Int) (ms ms' : List Nat) (es : List Expr) (f : Rho → M (List D)) : Prop := PA X es (lAB X.K X.N.length ns ms ms' f)

/-! ### the pure readings -/
def eVar (i : Nat) : Rho → M D := fun ρ => M.lift (ρ i)
def eC (d : D) : Rho → M D := fun _ => M.pure d
def eOp (op : D → D → Option D) (f h : Rho → M D) : Rho → M D := fun ρ => (f ρ).bind fun x => (h ρ).bind fun y => M.lift (op x y)
def eUn (op : D → Option D) (f : Rho → M D) : Rho → M D := fun ρ => (f ρ).bind fun x => M.lift (op x)
def asB : D → Option Bool
  | .bl b => some b
  | _ => none
def tOf (f : Rho → M D) : Rho → M Bool := fun ρ => (f ρ).bind fun x => M.lift (asB x)
def truthy : D → Option Bool
  | .non => some false
  | .bl b => some b
  | .int i => some (i != 0)
  | .str x => if x.length ≤ 16777216 then some ((x.length : Int) != 0) else none
  | .lst ds => some (!ds.isEmpty)
  | .tup ds => some (!ds.isEmpty)
  | _ => none
def tTru (f : Rho → M D) : Rho → M Bool := fun ρ => (f ρ).bind fun x => M.lift (truthy x)
def tNotS (f : Rho → M Bool) : Rho → M Bool := fun ρ => (f ρ).bind fun b => M.pure (!b)
def tAndS (f h : Rho → M Bool) : Rho → M Bool := fun ρ => (f ρ).bind fun b => if b = true then h ρ else M.pure false
def tOrS (f h : Rho → M Bool) : Rho → M Bool := fun ρ => (f ρ).bind fun b => if b = true then M.pure true else h ρ
def eAndS (f h : Rho → M D) : Rho → M D := fun ρ => (f ρ).bind fun x => (M.lift (truthy x)).bind fun b => if b = true then h ρ else M.pure x
def eOrS (f h : Rho → M D) : Rho → M D := fun ρ => (f ρ).bind fun x => (M.lift (truthy x)).bind fun b => if b = true then M.pure x else h ρ
def eNotS (f : Rho → M D) : Rho → M D := fun ρ => (f ρ).bind fun x => (M.lift (truthy x)).bind fun b => M.pure (.bl (!b))
def eIf (c : Rho → M Bool) (f h : Rho → M D) : Rho → M D := fun ρ => (c ρ).bind fun b => if b = true then f ρ else h ρ
def eTup (fs : Rho → M (List D)) : Rho → M D := fun ρ => (fs ρ).bind fun ds => if ds.length ≤ 16777216 then M.pure (.tup ds) else M.fail
def eLst (fs : Rho → M (List D)) : Rho → M D := fun ρ => (fs ρ).bind fun ds => if ds.length ≤ 16777216 then M.pure (.lst ds) else M.fail
def aNil : Rho → M (List D) := fun _ => M.pure []
def aCons (f : Rho → M D) (fs : Rho → M (List D)) : Rho → M (List D) := fun ρ => (f ρ).bind fun x => (fs ρ).bind fun xs => M.pure (x :: xs)
def eCallB (op : List D → Option D) (fs : Rho → M (List D)) : Rho → M D := fun ρ => (fs ρ).bind fun xs => M.lift (op xs)
def eCall (F : List D → M D) (fs : Rho → M (List D)) : Rho → M D := fun ρ => (fs ρ).bind F

section
variable {X : Cx} {ns : List Int} {ms m0 m1 m2 m3 : List Nat} {e a b c : Expr} {es : List Expr} {f h k : Rho → M D} {fs : Rho → M (List D)} {tf th : Rho → M Bool} {pos : Pos}

/-! ### between the judgements -/
theorem lb_of_le (h : LE X ns m0 m1 e f) : LB X ns m0 m1 e f := pe_weak h fun σ H Q ⟨B, g, ρ, p, d, p', A, hf, q⟩ => ⟨B, g, ρ, p, d, p', A, hf, fun g' v H' e A' r => q g' v H' e A' (.inl r)⟩
theorem le_of_ln (h : LN X ns m0 m1 e f) : LE X ns m0 m1 e f := pe_weak h fun σ H Q ⟨B, g, ρ, p, d, p', A, hf, q⟩ => ⟨B, g, ρ, p, d, p', A, hf, fun g' v H' e A' r => by
  rcases r with ⟨_, r⟩ | ⟨r, hf⟩
  · exact q g' v H' e A' r
  · obtain ⟨x, o, ev, ha, hg, hB, hq, hr⟩ := r.freeze
    exact q _ v H' (e.trans (Gs.le_upd (o := o) hg)) (A'.freezeAt ha hg hB hq (fun i hi => hi) (fun i hi hρ => hf i hi hρ x ev) (fun i v d h1 h2 => by rw [h1] at h2; cases h2)) hr⟩
theorem lb_of_ln (h : LN X ns m0 m1 e f) : LB X ns m0 m1 e f := lb_of_le (le_of_ln h)
theorem le_weak (h : LE X ns m0 m1 e f) (hs : subm m2 m1 = true) : LE X ns m0 m2 e f := pe_weak h fun σ H Q ⟨B, g, ρ, p, d, p', A, hf, q⟩ => ⟨B, g, ρ, p, d, p', A, hf, fun g' v H' e A' r => by
  obtain ⟨g2, e2, _, A2⟩ := A'.weak hs
  exact q g2 v H' (e.trans e2) A2 (r.mono e2)⟩
theorem lt_of_lw (h : LW X ns m0 m1 e tf) : LT X ns m0 m1 e tf := PW.pt h
theorem lt_weak (h : LT X ns m0 m1 e tf) (hs : subm m2 m1 = true) : LT X ns m0 m2 e tf := pt_weak h fun σ H Q ⟨B, g, ρ, p, d, p', A, hf, q⟩ => ⟨B, g, ρ, p, d, p', A, hf, fun g' H' e A' => by
  obtain ⟨g2, e2, _, A2⟩ := A'.weak hs
  exact q g2 H' (e.trans e2) A2⟩

/-! ### names, constants -/
theorem lb_var (i : Nat) {x : Str} (hN : X.N[i]? = some x := by rfl) (hv : Vis X.env.scope x := by first | exact Or.inl rfl | exact Or.inr (Or.inl rfl) | exact Or.inr (Or.inr rfl)) (hd : (x == ("__debug__" : Str)) = false := by decide)
    (hcd : (x == ("__classdict__" : Str)) = false := by decide) : LB X ns ms ms (.Name x pos) (eVar i) :=
  pe_weak (pe_var hN hv hd hcd) fun σ H Q ⟨B, g, ρ, p, d, p', A, hf, q⟩ => by
    obtain ⟨e1, e2⟩ := M.lift_some hf
    subst e2
    obtain ⟨v, e3, _⟩ := A.slot i d e1
    exact ⟨v, e3, q g v H (Gs.Le.refl g) A (.inr ⟨i, e1, e3⟩)⟩
theorem le_var (i : Nat) {x : Str} (hm : ms.contains i = false := by rfl) (hN : X.N[i]? = some x := by rfl) (hv : Vis X.env.scope x := by first | exact Or.inl rfl | exact Or.inr (Or.inl rfl) | exact Or.inr (Or.inr rfl)) (hd : (x == ("__debug__" : Str)) = false := by decide)
    (hcd : (x == ("__classdict__" : Str)) = false := by decide) : LE X ns ms ms (.Name x pos) (eVar i) :=
  pe_weak (pe_var hN hv hd hcd) fun σ H Q ⟨B, g, ρ, p, d, p', A, hf, q⟩ => by
    obtain ⟨e1, e2⟩ := M.lift_some hf
    subst e2
    obtain ⟨v, e3, r⟩ := A.slot i d e1
    unfold SlotOk at r
    rw [if_neg (by rw [hm]; decide)] at r
    exact ⟨v, e3, q g v H (Gs.Le.refl g) A r⟩
/-- an own list is handed on: it is frozen from now on -/
theorem le_varF (i : Nat) {x : Str} (hN : X.N[i]? = some x := by rfl) (hv : Vis X.env.scope x := by first | exact Or.inl rfl | exact Or.inr (Or.inl rfl) | exact Or.inr (Or.inr rfl)) (hd : (x == ("__debug__" : Str)) = false := by decide)
    (hcd : (x == ("__classdict__" : Str)) = false := by decide) : LE X ns ms (del ms i) (.Name x pos) (eVar i) :=
  pe_weak (pe_var hN hv hd hcd) fun σ H Q ⟨B, g, ρ, p, d, p', A, hf, q⟩ => by
    obtain ⟨e1, e2⟩ := M.lift_some hf
    subst e2
    obtain ⟨g2, le, _, A2⟩ := A.freeze i
    obtain ⟨v, e3, r⟩ := A2.slot i d e1
    unfold SlotOk at r
    rw [if_neg (fun z => (del_iff.mp z).2 rfl)] at r
    exact ⟨v, e3, q g2 v H le A2 r⟩
theorem le_c {d : D} {v : V} (h : PE X e (tC v)) (r : ∀ g, Rep X.K g v d) : LE X ns ms ms e (eC d) :=
  pe_weak h fun σ H Q ⟨B, g, ρ, p, d', p', A, hf, q⟩ => by
    obtain ⟨e1, e2⟩ := M.pure_some hf
    subst e1; subst e2
    exact q g v H (Gs.Le.refl g) A (r g)
theorem le_int {i j} : LE X ns ms ms (.Constant (.int i) j pos) (eC (.int i)) := le_c pe_int fun _ => .int i
theorem le_bl {b j} : LE X ns ms ms (.Constant (.bool b) j pos) (eC (.bl b)) := le_c pe_bl fun _ => .bl b
theorem le_non {j} : LE X ns ms ms (.Constant .none j pos) (eC .non) := le_c pe_non fun _ => .non
theorem le_str {x j} : LE X ns ms ms (.Constant (.str x) j pos) (eC (.str x)) := le_c pe_str fun _ => .str x

/-! ### operators -/
/-- an operator's rule by values does what op says -/
def Op2 (R : RF) (X : Cx) (r : R2) (op : D → D → Option D) : Prop := ∀ {ns : List Int} {ms : List Nat} {B : Bs} {g : Gs} {ρ : Rho} {p : Pl} {σ : L2.St} {H : Hp} {v w : V} {x y z : D} {Q : VK},
  Abs X.K X.N.length ns ms B g ρ p σ H → View X.K g H v x → View X.K g H w y → op x y = some z → (∀ u g' H', g.Le g' → Abs X.K X.N.length ns ms B g' ρ p σ H' → R X.K ms g' B ρ σ H' u z → Q u H') → r v w H Q
def Op1 (R : RF) (X : Cx) (r : V → Hp → VK → Prop) (op : D → Option D) : Prop := ∀ {ns : List Int} {ms : List Nat} {B : Bs} {g : Gs} {ρ : Rho} {p : Pl} {σ : L2.St} {H : Hp} {v : V} {x z : D} {Q : VK},
  Abs X.K X.N.length ns ms B g ρ p σ H → View X.K g H v x → op x = some z → (∀ u g' H', g.Le g' → Abs X.K X.N.length ns ms B g' ρ p σ H' → R X.K ms g' B ρ σ H' u z → Q u H') → r v H Q
/-- a built-in call's rule by values -/
def OpN (R : RF) (X : Cx) (r : List V → Hp → VK → Prop) (op : List D → Option D) : Prop := ∀ {ns : List Int} {ms : List Nat} {B : Bs} {g : Gs} {ρ : Rho} {p : Pl} {σ : L2.St} {H : Hp} {vs : List V} {xs : List D} {z : D} {Q : VK},
  Abs X.K X.N.length ns ms B g ρ p σ H → ViewL X.K g H vs xs → op xs = some z → (∀ u g' H', g.Le g' → Abs X.K X.N.length ns ms B g' ρ p σ H' → R X.K ms g' B ρ σ H' u z → Q u H') → r vs H Q
theorem Op2.or {R : RF} {r r' : R2} {o o' : D → D → Option D} (h : Op2 R X r o) (h' : Op2 R X r' o') : Op2 R X (fun x y H Q => r x y H Q ∨ r' x y H Q) (fun x y => (o x y).or (o' x y)) := by
  intro ns ms B g ρ p σ H v w x y z Q A vx vy e q
  have e : (o x y).or (o' x y) = some z := e
  cases e1 : o x y with
  | some z1 =>
    rw [e1] at e
    have e' : z1 = z := by simpa using e
    subst e'
    exact .inl (h A vx vy e1 q)
  | none =>
    rw [e1] at e
    exact .inr (h' A vx vy (by simpa using e) q)
theorem OpN.or {R : RF} {r r' : List V → Hp → VK → Prop} {o o' : List D → Option D} (h : OpN R X r o) (h' : OpN R X r' o') : OpN R X (fun x H Q => r x H Q ∨ r' x H Q) (fun x => (o x).or (o' x)) := by
  intro ns ms B g ρ p σ H vs x z Q A vx e q
  have e : (o x).or (o' x) = some z := e
  cases e1 : o x with
  | some z1 =>
    rw [e1] at e
    have e' : z1 = z := by simpa using e
    subst e'
    exact .inl (h A vx e1 q)
  | none =>
    rw [e1] at e
    exact .inr (h' A vx (by simpa using e) q)
/-- two borrowed values, one behind the other -/
theorem bin_w {R : RF} {r : R2} {o : D → D → Option D} (h2 : Op2 R X r o) {σ : L2.St} {H : Hp} {Q : VK} (hw : lX (R X.K m2) X.K X.N.length ns m0 m2 (eOp o f h) σ H Q) :
    tOp r (lX (rB X.K m1) X.K X.N.length ns m0 m1 f) (lX (rB X.K m2) X.K X.N.length ns m1 m2 h) σ H Q := by
  obtain ⟨B, g, ρ, p, d, p', A, hf, q⟩ := hw
  obtain ⟨x, p1, e1, hf⟩ := M.bind_some hf
  obtain ⟨y, p2, e2, hf⟩ := M.bind_some hf
  obtain ⟨e3, e4⟩ := M.lift_some hf
  subst e4
  refine ⟨B, g, ρ, p, x, p1, A, e1, fun g1 v H1 l1 A1 r1 => ⟨B, g1, ρ, p1, y, p', A1, e2, fun g2 w H2 l2 A2 r2 => ?_⟩⟩
  exact h2 A2 ((Held.mono l2 r1).view A2) (Held.view A2 r2) e3 fun u g3 H' l3 A' fr => q g3 u H' ((l1.trans l2).trans l3) A' fr
theorem lx_bin {R : RF} {op : Operator} {r : R2} {o : D → D → Option D} (ho : OpR X (binaryOp op) r) (h2 : Op2 R X r o) (ha : LB X ns m0 m1 a f) (hb : LB X ns m1 m2 b h) : LX R X ns m0 m2 (.BinOp a op b pos) (eOp o f h) :=
  pe_weak (pe_op ho ha hb) fun _ _ _ hw => bin_w h2 hw
theorem lx_cmp {R : RF} {op : CmpOp} {r : R2} {o : D → D → Option D} (ho : OpR X (compareOp op) r) (h2 : Op2 R X r o) (ha : LB X ns m0 m1 a f) (hb : LB X ns m1 m2 b h) (hm : behindInMarks op b = false := by first | exact nomark _ | with_unfolding_all rfl) :
    LX R X ns m0 m2 (.Compare a [op] [b] pos) (eOp o f h) :=
  pe_weak (pe_cmpR ho ha hb hm) fun _ _ _ hw => bin_w h2 hw
theorem asB_some {d : D} {b : Bool} (h : asB d = some b) : d = .bl b := by
  cases d <;> first | (cases h; rfl) | cases h
theorem fresh_bl {K : PySem.W.Frag} {ms : List Nat} {g : Gs} {B : Bs} {ρ : Rho} {σ : L2.St} {H : Hp} {v : V} {b : Bool} (h : Fresh K ms g B ρ σ H v (.bl b)) : v = .bl b := by
  rcases h with ⟨_, h⟩ | ⟨h, _⟩
  · cases h; rfl
  · exact h.elim
theorem lt_cmp {op : CmpOp} {r : R2} {o : D → D → Option D} (ho : OpR X (compareOp op) r) (h2 : Op2 rN X r o) (ha : LB X ns m0 m1 a f) (hb : LB X ns m1 m2 b h) (hm : behindInMarks op b = false := by first | exact nomark _ | with_unfolding_all rfl) :
    LT X ns m0 m2 (.Compare a [op] [b] pos) (tOf (eOp o f h)) :=
  pt_weak (pt_cmpR ho ha hb hm) fun σ H Q ⟨B, g, ρ, p, d, p', A, hf, q⟩ => by
    obtain ⟨x, p1, e1, hf⟩ := M.bind_some hf
    obtain ⟨e2, e3⟩ := M.lift_some hf
    have := asB_some e2
    subst this; subst e3
    exact bin_w h2 ⟨B, g, ρ, p, _, _, A, e1, fun g' v H' l A' fr => ⟨d, fresh_bl fr, q g' H' l A'⟩⟩
theorem lx_un {R : RF} {op : UnaryOp} {r : V → Hp → VK → Prop} {o : D → Option D} (ho : UnR X (unaryOp op) r) (h1 : Op1 R X r o) (ha : LB X ns m0 m1 a f) : LX R X ns m0 m1 (.UnaryOp op a pos) (eUn o f) :=
  pe_weak (pe_un ho ha) fun σ H Q ⟨B, g, ρ, p, d, p', A, hf, q⟩ => by
    obtain ⟨x, p1, e1, hf⟩ := M.bind_some hf
    obtain ⟨e3, e4⟩ := M.lift_some hf
    subst e4
    exact ⟨B, g, ρ, p, x, p', A, e1, fun g1 v H1 l1 A1 r1 => h1 A1 (Held.view A1 r1) e3 fun u g2 H' l2 A' fr => q g2 u H' (l1.trans l2) A' fr⟩

/-! ### tests -/
theorem vw_tup {g : Gs} {K : PySem.W.Frag} {H : Hp} {v : V} {ds : List D} (e : Same g.G H) (hv : View K g H v (.tup ds)) : ∃ a xs, v = .ref a ∧ SqT K H a xs ∧ RepL K g xs ds := by
  cases hv with
  | tup h1 h2 => exact ⟨_, _, rfl, seqT e h1, h2⟩
theorem truthy_ok {g : Gs} {K : PySem.W.Frag} {H : Hp} {v : V} {d : D} {k : Bool} (sg : Same g.G H) (hv : View K g H v d) (e : truthy d = some k) : TruV K v H k := by
  cases d with
  | non => cases hv; cases e; rfl
  | bl b => cases hv; cases e; rfl
  | int i => cases hv; cases e; rfl
  | str x =>
    cases hv
    have e : (if x.length ≤ 16777216 then some ((x.length : Int) != 0) else none) = some k := e
    split at e
    · cases e
      rename_i hx
      exact ⟨by rw [sizeLine_eq]; exact hx, rfl⟩
    · cases e
  | lst ds =>
    obtain ⟨a, xs, rfl, h1, h2⟩ := hv
    cases e
    refine .inl ⟨xs, .inl h1, ?_⟩
    cases h2 <;> rfl
  | tup ds =>
    obtain ⟨a, xs, rfl, h1, h2⟩ := vw_tup sg hv
    cases e
    refine .inr (.inl ⟨xs, h1, ?_⟩)
    cases h2 <;> rfl
  | _ => cases e
theorem lt_tru (ha : LB X ns m0 m1 e f) (he : ∀ whole, isTrue e X.env whole = (do let v ← whole; standAt e.pos; holding [v] (PySem.truthy v)) := by intro _; rfl) : LT X ns m0 m1 e (tTru f) :=
  pt_weak (pt_truth ha he) fun σ H Q ⟨B, g, ρ, p, d, p', A, hf, q⟩ => by
    obtain ⟨x, p1, e1, hf⟩ := M.bind_some hf
    obtain ⟨e2, e3⟩ := M.lift_some hf
    subst e3
    exact ⟨B, g, ρ, p, x, p', A, e1, fun g1 v H1 l1 A1 r1 => ⟨d, truthy_ok A1.sub (Held.view A1 r1) e2, q g1 H1 l1 A1⟩⟩
theorem lt_not (ha : LT X ns m0 m1 a tf) : LT X ns m0 m1 (.UnaryOp .Not a pos) (tNotS tf) :=
  pt_weak (pt_not ha) fun σ H Q ⟨B, g, ρ, p, d, p', A, hf, q⟩ => by
    obtain ⟨x, p1, e1, hf⟩ := M.bind_some hf
    obtain ⟨e2, e3⟩ := M.pure_some hf
    subst e2; subst e3
    exact ⟨B, g, ρ, p, x, p', A, e1, fun g1 H1 l1 A1 => q g1 H1 l1 A1⟩
theorem lw_and1 (ha : LT X ns m0 m1 a tf) : LW X ns m0 m1 (.BoolOp .And [a] pos) tf := pw_and1 ha
theorem lw_or1 (ha : LT X ns m0 m1 a tf) : LW X ns m0 m1 (.BoolOp .Or [a] pos) tf := pw_or1 ha
theorem lw_and {rest : List Expr} (ha : LT X ns m0 m0 a tf) (hb : LW X ns m0 m0 (.BoolOp .And (b :: rest) pos) th) : LW X ns m0 m0 (.BoolOp .And (a :: b :: rest) pos) (tAndS tf th) :=
  pw_weak (pw_and ha hb) fun σ H Q ⟨B, g, ρ, p, d, p', A, hf, q⟩ => by
    obtain ⟨x, p1, e1, hf⟩ := M.bind_some hf
    refine ⟨B, g, ρ, p, x, p1, A, e1, fun g1 H1 l1 A1 => ?_⟩
    cases x with
    | true =>
      rw [if_pos rfl] at hf ⊢
      exact ⟨B, g1, ρ, p1, d, p', A1, hf, fun g2 H2 l2 A2 => q g2 H2 (l1.trans l2) A2⟩
    | false =>
      rw [if_neg Bool.false_ne_true] at hf ⊢
      obtain ⟨e2, e3⟩ := M.pure_some hf
      subst e2; subst e3
      exact q g1 H1 l1 A1
theorem lw_or {rest : List Expr} (ha : LT X ns m0 m0 a tf) (hb : LW X ns m0 m0 (.BoolOp .Or (b :: rest) pos) th) : LW X ns m0 m0 (.BoolOp .Or (a :: b :: rest) pos) (tOrS tf th) :=
  pw_weak (pw_or ha hb) fun σ H Q ⟨B, g, ρ, p, d, p', A, hf, q⟩ => by
    obtain ⟨x, p1, e1, hf⟩ := M.bind_some hf
    refine ⟨B, g, ρ, p, x, p1, A, e1, fun g1 H1 l1 A1 => ?_⟩
    cases x with
    | false =>
      rw [if_neg Bool.false_ne_true] at hf ⊢
      exact ⟨B, g1, ρ, p1, d, p', A1, hf, fun g2 H2 l2 A2 => q g2 H2 (l1.trans l2) A2⟩
    | true =>
      rw [if_pos rfl] at hf ⊢
      obtain ⟨e2, e3⟩ := M.pure_some hf
      subst e2; subst e3
      exact q g1 H1 l1 A1
theorem le_and {rest : List Expr} (ha : LE X ns m0 m0 a f) (hb : LE X ns m0 m0 (.BoolOp .And (b :: rest) pos) h) : LE X ns m0 m0 (.BoolOp .And (a :: b :: rest) pos) (eAndS f h) :=
  pe_weak (pe_andT ha hb) fun σ H Q ⟨B, g, ρ, p, d, p', A, hf, q⟩ => by
    obtain ⟨x, p1, e1, hf⟩ := M.bind_some hf
    obtain ⟨t, p2, e2, hf⟩ := M.bind_some hf
    obtain ⟨e2', e3⟩ := M.lift_some e2
    subst e3
    refine ⟨B, g, ρ, p, x, p2, A, e1, fun g1 v H1 l1 A1 r1 => ⟨t, truthy_ok A1.sub (r1.view A1.sub) e2', ?_⟩⟩
    cases t with
    | true =>
      rw [if_pos rfl] at hf ⊢
      exact ⟨B, g1, ρ, p2, d, p', A1, hf, fun g2 w H2 l2 A2 r2 => q g2 w H2 (l1.trans l2) A2 r2⟩
    | false =>
      rw [if_neg Bool.false_ne_true] at hf ⊢
      obtain ⟨e4, e5⟩ := M.pure_some hf
      subst e4; subst e5
      exact q g1 v H1 l1 A1 r1
theorem le_or {rest : List Expr} (ha : LE X ns m0 m0 a f) (hb : LE X ns m0 m0 (.BoolOp .Or (b :: rest) pos) h) : LE X ns m0 m0 (.BoolOp .Or (a :: b :: rest) pos) (eOrS f h) :=
  pe_weak (pe_orT ha hb) fun σ H Q ⟨B, g, ρ, p, d, p', A, hf, q⟩ => by
    obtain ⟨x, p1, e1, hf⟩ := M.bind_some hf
    obtain ⟨t, p2, e2, hf⟩ := M.bind_some hf
    obtain ⟨e2', e3⟩ := M.lift_some e2
    subst e3
    refine ⟨B, g, ρ, p, x, p2, A, e1, fun g1 v H1 l1 A1 r1 => ⟨t, truthy_ok A1.sub (r1.view A1.sub) e2', ?_⟩⟩
    cases t with
    | false =>
      rw [if_neg Bool.false_ne_true] at hf ⊢
      exact ⟨B, g1, ρ, p2, d, p', A1, hf, fun g2 w H2 l2 A2 r2 => q g2 w H2 (l1.trans l2) A2 r2⟩
    | true =>
      rw [if_pos rfl] at hf ⊢
      obtain ⟨e4, e5⟩ := M.pure_some hf
      subst e4; subst e5
      exact q g1 v H1 l1 A1 r1
theorem le_one {op} (ha : LE X ns m0 m1 a f) : LE X ns m0 m1 (.BoolOp op [a] pos) f := pe_one ha
theorem le_not (ha : LB X ns m0 m1 a f) : LE X ns m0 m1 (.UnaryOp .Not a pos) (eNotS f) :=
  pe_weak (pe_notT ha) fun σ H Q ⟨B, g, ρ, p, d, p', A, hf, q⟩ => by
    obtain ⟨x, p1, e1, hf⟩ := M.bind_some hf
    obtain ⟨t, p2, e2, hf⟩ := M.bind_some hf
    obtain ⟨e2', e3⟩ := M.lift_some e2
    obtain ⟨e4, e5⟩ := M.pure_some hf
    subst e3; subst e4; subst e5
    exact ⟨B, g, ρ, p, x, p', A, e1, fun g1 v H1 l1 A1 r1 => ⟨t, truthy_ok A1.sub (Held.view A1 r1) e2', q g1 _ H1 l1 A1 (.bl _)⟩⟩
/-- a test's value -/
theorem le_ifexp (hc : LT X ns m0 m1 c tf) (ha : LE X ns m1 m2 a f) (hb : LE X ns m1 m2 b h) : LE X ns m0 m2 (.IfExp c a b pos) (eIf tf f h) :=
  pe_weak (pe_ifExp hc ha hb) fun σ H Q ⟨B, g, ρ, p, d, p', A, hf, q⟩ => by
    obtain ⟨x, p1, e1, hf⟩ := M.bind_some hf
    refine ⟨B, g, ρ, p, x, p1, A, e1, fun g1 H1 l1 A1 => ?_⟩
    cases x with
    | true =>
      rw [if_pos rfl] at hf ⊢
      exact ⟨B, g1, ρ, p1, d, p', A1, hf, fun g2 w H2 l2 A2 r2 => q g2 w H2 (l1.trans l2) A2 r2⟩
    | false =>
      rw [if_neg Bool.false_ne_true] at hf ⊢
      exact ⟨B, g1, ρ, p1, d, p', A1, hf, fun g2 w H2 l2 A2 r2 => q g2 w H2 (l1.trans l2) A2 r2⟩

/-! ### argument lists, displays -/
theorem la_nil : LA X ns ms ms [] aNil := pa_weak pa_nil fun σ H Q ⟨B, g, ρ, p, d, p', A, hf, q⟩ => by
  obtain ⟨e1, e2⟩ := M.pure_some hf
  subst e1; subst e2
  exact q g [] H (Gs.Le.refl g) A .nil
theorem la_cons (ha : LE X ns m0 m1 e f) (hr : LA X ns m1 m2 es fs) (hs : starEach (e :: es) X.env = (false, eval e X.env) :: starEach es X.env := by rfl) : LA X ns m0 m2 (e :: es) (aCons f fs) :=
  pa_weak (pa_cons ha hr hs) fun σ H Q ⟨B, g, ρ, p, d, p', A, hf, q⟩ => by
    obtain ⟨x, p1, e1, hf⟩ := M.bind_some hf
    obtain ⟨xs, p2, e2, hf⟩ := M.bind_some hf
    obtain ⟨e3, e4⟩ := M.pure_some hf
    subst e3; subst e4
    exact ⟨B, g, ρ, p, x, p1, A, e1, fun g1 v H1 l1 A1 r1 => ⟨B, g1, ρ, p1, xs, p', A1, e2, fun g2 w H2 l2 A2 r2 => q g2 _ H2 (l1.trans l2) A2 (.cons (r1.mono l2) r2)⟩⟩
theorem lab_nil : LAB X ns ms ms [] aNil := pa_weak pa_nil fun σ H Q ⟨B, g, ρ, p, d, p', A, hf, q⟩ => by
  obtain ⟨e1, e2⟩ := M.pure_some hf
  subst e1; subst e2
  exact q g [] H (Gs.Le.refl g) A .nil
theorem lab_cons (ha : LB X ns m0 m1 e f) (hr : LAB X ns m1 m2 es fs) (hs : starEach (e :: es) X.env = (false, eval e X.env) :: starEach es X.env := by rfl) : LAB X ns m0 m2 (e :: es) (aCons f fs) :=
  pa_weak (pa_cons ha hr hs) fun σ H Q ⟨B, g, ρ, p, d, p', A, hf, q⟩ => by
    obtain ⟨x, p1, e1, hf⟩ := M.bind_some hf
    obtain ⟨xs, p2, e2, hf⟩ := M.bind_some hf
    obtain ⟨e3, e4⟩ := M.pure_some hf
    subst e3; subst e4
    exact ⟨B, g, ρ, p, x, p1, A, e1, fun g1 v H1 l1 A1 r1 => ⟨B, g1, ρ, p1, xs, p', A1, e2, fun g2 w H2 l2 A2 r2 => q g2 _ H2 (l1.trans l2) A2 (.cons (Held.mono l2 r1) r2)⟩⟩
theorem Abs.none_of {K : PySem.W.Frag} {n : Nat} {B : Bs} {g : Gs} {ρ : Rho} {p : Pl} {σ : L2.St} {H : Hp} {a : Addr} (A : Abs K n ns ms B g ρ p σ H) (hn : H a = none) : g.G a = none ∧ B.H a = none ∧ g.q ≠ some a := by
  have hq : g.q ≠ some a := fun e => by
    obtain ⟨_, o', h'⟩ := A.pool.at e
    rw [hn] at h'; cases h'
  refine ⟨A.sub.free hn, ?_, hq⟩
  cases e : B.H a with
  | none => rfl
  | some o =>
    rcases A.keep a o e hq with h | ⟨_, ob, h⟩
    · rw [hn] at h; cases h
    · rw [hn] at h; cases h
theorem Fresh.new {K : PySem.W.Frag} {n : Nat} {B : Bs} {g : Gs} {ρ : Rho} {p : Pl} {σ : L2.St} {H : Hp} {a : Addr} {xs : List V} {ds : List D} (A : Abs K n ns ms B g ρ p σ H) (hn : H a = none) (r : RepL K g xs ds) : Fresh K ms g B ρ σ (upd H a (.lst xs)) (.ref a) (.lst ds) := by
  refine .inr ⟨⟨a, xs, rfl, upd_same, r, A.none_of hn⟩, fun i hi hρ b eb es => ?_⟩
  · cases eb
    cases ed : ρ i with
    | none => exact hρ ed
    | some d =>
      obtain ⟨v, e1, h1⟩ := A.slot i d ed
      unfold SlotOk at h1
      rw [if_pos hi] at h1
      obtain ⟨c, o, ev, hc, _⟩ := h1.ref
      rw [es] at e1
      cases e1; cases ev
      rw [hn] at hc; cases hc
theorem ln_lst (ha : LA X ns m0 m1 es fs) : LN X ns m0 m1 (.List es pos) (eLst fs) :=
  pe_weak (pe_lst ha) fun σ H Q ⟨B, g, ρ, p, d, p', A, hf, q⟩ => by
    obtain ⟨xs, p1, e1, hf⟩ := M.bind_some hf
    split at hf
    · rename_i hl
      obtain ⟨e2, e3⟩ := M.pure_some hf
      subst e2; subst e3
      exact ⟨B, g, ρ, p, xs, p', A, e1, fun g1 vs H1 l1 A1 r1 => ⟨by rw [r1.length, sizeLine_eq]; exact hl, fun a ha => q g1 _ _ l1 (A1.alloc ha) (Fresh.new A1 ha r1)⟩⟩
    · cases hf
/-- a new tuple is frozen at once -/
theorem Abs.tup {K : PySem.W.Frag} {n : Nat} {B : Bs} {g : Gs} {ρ : Rho} {p : Pl} {σ : L2.St} {H : Hp} {a : Addr} {xs : List V} {ds : List D} (A : Abs K n ns ms B g ρ p σ H) (hn : H a = none) (r : RepL K g xs ds) :
    ∃ g', g.Le g' ∧ Abs K n ns ms B g' ρ p σ (upd H a (.tup xs)) ∧ Rep K g' (.ref a) (.tup ds) := by
  have A' := A.alloc (o := .tup xs) hn
  have hg := A.sub.free hn
  have le := Gs.le_upd (o := HO.tup xs) hg
  have hB := (A.none_of hn).2.1
  have hq := (A.none_of hn).2.2
  refine ⟨_, le, A'.freezeAt (ms' := ms) upd_same hg hB hq (fun i hi => hi) (fun i hi hρ es => ?_) (fun i v d h1 h2 => by rw [h1] at h2; cases h2), .tup (.inl (.inl upd_same)) (r.mono le)⟩
  cases ed : ρ i with
  | none => exact hρ ed
  | some d =>
    obtain ⟨v, e1, h1⟩ := A.slot i d ed
    unfold SlotOk at h1
    rw [if_pos hi] at h1
    obtain ⟨c, o, ev, hc, _⟩ := h1.ref
    rw [es] at e1
    cases e1; cases ev
    rw [hn] at hc; cases hc
theorem le_tup {kt : Nat} (ha : LA X ns m0 m1 es fs) : LE X ns m0 m1 (.Tuple es kt pos) (eTup fs) :=
  pe_weak (pe_tup ha) fun σ H Q ⟨B, g, ρ, p, d, p', A, hf, q⟩ => by
    obtain ⟨xs, p1, e1, hf⟩ := M.bind_some hf
    split at hf
    · rename_i hl
      obtain ⟨e2, e3⟩ := M.pure_some hf
      subst e2; subst e3
      refine ⟨B, g, ρ, p, xs, p', A, e1, fun g1 vs H1 l1 A1 r1 => ⟨by rw [r1.length, sizeLine_eq]; exact hl, fun a ha => ?_⟩⟩
      obtain ⟨g2, l2, A2, r2⟩ := A1.tup ha r1
      exact q g2 _ _ (l1.trans l2) A2 r2
    · cases hf

/-! ### calls of built-in functions and types -/
variable {x : Str} {px : Pos}
theorem lx_callB {R : RF} {id : String} {r : List V → Hp → VK → Prop} {o : List D → Option D} (hc : CallR X (.builtin id) r) (h2 : OpN R X r o) (hg : Gl X x) (hm : X.mg x = none) (hv : bootBuiltins x = some (.builtin id)) (ha : LAB X ns m0 m1 (e :: es) fs)
    (hdb : (x == ("__debug__" : Str)) = false := by decide) (he : starEach (e :: es) X.env = (false, eval e X.env) :: starEach es X.env := by rfl) (hpl : (backTo pos (starEach es X.env)).any (·.1) = false := by rfl) (hnn : x ≠ "__name__" := by decide) :
    LX R X ns m0 m1 (.Call (.Name x px) (e :: es) [] pos) (eCallB o fs) :=
  pe_weak (pe_callB hc hg hm hv ha (hn := hnn) (hdb := hdb) (he := he) (hpl := hpl)) fun σ H Q ⟨B, g, ρ, p, d, p', A, hf, q⟩ => by
    obtain ⟨xs, p1, e1, hf⟩ := M.bind_some hf
    obtain ⟨e3, e4⟩ := M.lift_some hf
    subst e4
    exact ⟨B, g, ρ, p, xs, p', A, e1, fun g1 vs H1 l1 A1 r1 => h2 A1 (HeldL.view A1 r1) e3 fun u g2 H' l2 A' fr => q g2 u H' (l1.trans l2) A' fr⟩
theorem lx_callTy {R : RF} {id : String} {r : List V → Hp → VK → Prop} {o : List D → Option D} (hc : CallR X (.type id) r) (h2 : OpN R X r o) (hg : Gl X x) (hm : X.mg x = none) (hv : bootBuiltins x = some (.type id)) (ha : LAB X ns m0 m1 (e :: es) fs)
    (hdb : (x == ("__debug__" : Str)) = false := by decide) (he : starEach (e :: es) X.env = (false, eval e X.env) :: starEach es X.env := by rfl) (hpl : (backTo pos (starEach es X.env)).any (·.1) = false := by rfl) (hnn : x ≠ "__name__" := by decide) :
    LX R X ns m0 m1 (.Call (.Name x px) (e :: es) [] pos) (eCallB o fs) :=
  pe_weak (pe_callTy hc hg hm hv ha (hn := hnn) (hdb := hdb) (he := he) (hpl := hpl)) fun σ H Q ⟨B, g, ρ, p, d, p', A, hf, q⟩ => by
    obtain ⟨xs, p1, e1, hf⟩ := M.bind_some hf
    obtain ⟨e3, e4⟩ := M.lift_some hf
    subst e4
    exact ⟨B, g, ρ, p, xs, p', A, e1, fun g1 vs H1 l1 A1 r1 => h2 A1 (HeldL.view A1 r1) e3 fun u g2 H' l2 A' fr => q g2 u H' (l1.trans l2) A' fr⟩

end

/-! ### what a def promises -/
def spD (K : PySem.W.Frag) (ns : List Int) (np : Nat) (F : List D → M D) : Sp := fun vs H Q _ => ∃ g ds p d p', vs.length = np ∧ Same g.G H ∧ PoolAt K ns g p H ∧ RepL K g vs ds ∧ F ds p = some (d, p') ∧
  ∀ g' v H', g.Le g' → Same g'.G H' → (∀ a o, H a = some o → g.q ≠ some a → H' a = some o) → (∀ a, g'.G a ≠ none → H a = none ∨ g.G a ≠ none) → (∀ a, g'.q = some a → g.q = some a ∨ H a = none) → PoolAt K ns g' p' H' → Rep K g' v d → Q v H'

section
variable {X : Cx} {ns : List Int} {m0 m1 : List Nat} {x : Str} {px pos : Pos} {e : Expr} {es : List Expr} {fs : Rho → M (List D)} {F : List D → M D} {k np : Nat} {fa : Addr} {fd : FuncData} {ps : List Str}
theorem Abs.called {K : PySem.W.Frag} {n : Nat} {B : Bs} {g g' : Gs} {ρ : Rho} {p p' : Pl} {σ : L2.St} {H H' : Hp} {ms : List Nat} (A : Abs K n ns ms B g ρ p σ H) (le : g.Le g') (s : Same g'.G H') (kp : ∀ a o, H a = some o → g.q ≠ some a → H' a = some o)
    (fz : ∀ a, g'.G a ≠ none → H a = none ∨ g.G a ≠ none) (qz : ∀ a, g'.q = some a → g.q = some a ∨ H a = none) (pl : PoolAt K ns g' p' H') : Abs K n ns ms B g' ρ p' σ H' := by
  have hB : ∀ a, H a = none → B.H a = none := fun a hn => (A.none_of hn).2.1
  refine ⟨A.len, s, fun a o e hq => ?_, A.le.trans le, fun a e => ?_, fun a e => ?_, pl, fun i d e => ?_, A.dist⟩
  · have hq' : g.q ≠ some a := fun z => hq (le.pool a z)
    rcases A.keep a o e hq' with h | ⟨l, ob, h⟩
    · exact .inl (kp a o h hq')
    · exact .inr ⟨l, ob, kp a _ h hq'⟩
  · rcases fz a e with h | h
    · exact .inl (hB a h)
    · exact A.fz a h
  · rcases qz a e with h | h
    · exact A.qz a h
    · exact .inr (hB a h)
  · obtain ⟨v, e1, h1⟩ := A.slot i d e
    refine ⟨v, e1, ?_⟩
    unfold SlotOk at h1 ⊢
    split
    · rename_i hm
      rw [if_pos hm] at h1
      obtain ⟨b, u, ev, hb, h2, h3, h4⟩ := h1.ref
      refine h1.move le fun c ec => ?_
      rw [ev] at ec; cases ec
      refine ⟨by rw [hb]; exact kp b u hb h4, ?_, fun z => ?_⟩
      · cases eg : g'.G b with
        | none => rfl
        | some o =>
          rcases fz b (by rw [eg]; simp) with h | h
          · rw [hb] at h; cases h
          · exact absurd h2 h
      · rcases qz b z with h | h
        · exact h4 h
        · rw [hb] at h; cases h
    · rename_i hm
      rw [if_neg hm] at h1
      exact h1.mono le
theorem le_call (Fk : FnOk X.prog X.w X.K X.mg X.base CX0 k fa fd ps (spD X.K ns np F)) (hr : Room k X.A) (hg : Gl X x) (hm : X.mg x = some (.ref fa)) (hk : PySem.W.keepIn X.K (.ref fa) = true) (hb : Binds X.K fd ps []) (ha : LA X ns m0 m1 (e :: es) fs)
    (hnp : (e :: es).length = np := by rfl) (hdb : (x == ("__debug__" : Str)) = false := by decide) (he : starEach (e :: es) X.env = (false, eval e X.env) :: starEach es X.env := by rfl) (hpl : (backTo pos (starEach es X.env)).any (·.1) = false := by rfl)
    (hfl : ∀ ρ p ds p', fs ρ p = some (ds, p') → ds.length = np) :
    LE X ns m0 m1 (.Call (.Name x px) (e :: es) [] pos) (eCall F fs) :=
  pe_weak (pe_call (dvs := []) (E := E0) Fk hr hg hm hk hb .nil pass0 ha hdb he hpl) fun σ H Q ⟨B, g, ρ, p, d, p', A, hf, q⟩ => by
    obtain ⟨xs, p1, e1, hf⟩ := M.bind_some hf
    refine ⟨B, g, ρ, p, xs, p1, A, e1, fun g1 vs H1 l1 A1 r1 => ?_⟩
    show spD X.K ns np F (vs ++ []) H1 Q E0
    rw [List.append_nil]
    exact ⟨g1, xs, p1, d, p', by rw [r1.length]; exact hfl _ _ _ _ e1, A1.sub, A1.pool, r1, hf, fun g2 v H2 l2 s2 k2 z2 q2 pl2 r2 => q g2 v H2 (l1.trans l2) (A1.called l2 s2 k2 z2 q2 pl2) r2⟩
theorem aNil_len : ∀ ρ p ds p', aNil ρ p = some (ds, p') → ds.length = 0 := fun _ _ _ _ h => by
  obtain ⟨e, _⟩ := M.pure_some h
  rw [e]; rfl
theorem aCons_len {f : Rho → M D} {n : Nat} (hf : ∀ ρ p ds p', fs ρ p = some (ds, p') → ds.length = n) : ∀ ρ p ds p', aCons f fs ρ p = some (ds, p') → ds.length = n + 1 := fun ρ p ds p' h => by
  obtain ⟨x, p1, e1, h⟩ := M.bind_some h
  obtain ⟨xs, p2, e2, h⟩ := M.bind_some h
  obtain ⟨e, _⟩ := M.pure_some h
  rw [e, List.length_cons, hf _ _ _ _ e2]
end
end Lf

/-! Lift2: statements, targets, loops, comprehensions, a def's promise. -/
namespace Lf
open PySem PySem.Spec PyProof.Rows L2

/-! ### statements -/
def EndOk (K : PySem.W.Frag) (n : Nat) (ns : List Int) (ms' ml : List Nat) (B : Bs) (g : Gs) (p' : Pl) (D : Ends) : Fl → Prop
  | .nx ρ' => ∀ g' σ' H', g.Le g' → Abs K n ns ms' B g' ρ' p' σ' H' → D.nx σ' H'
  | .rt d => ∀ g' σ' v H', g.Le g' → Abs K n ns [] B g' (fun _ => none) p' σ' H' → Rep K g' v d → D.rt v H'
  | .bk ρ' => ∀ g' σ' H', g.Le g' → Abs K n ns ml B g' ρ' p' σ' H' → D.bk σ' H'
  | .ct ρ' => ∀ g' σ' H', g.Le g' → Abs K n ns ml B g' ρ' p' σ' H' → D.ct σ' H'
def lS (K : PySem.W.Frag) (n : Nat) (ns : List Int) (ms ms' ml : List Nat) (f : Rho → M Fl) : TS := fun D σ H =>
  ∃ B g ρ p r p', Abs K n ns ms B g ρ p σ H ∧ f ρ p = some (r, p') ∧ EndOk K n ns ms' ml B g p' D r
def LS (X : Cx) (ns : List Int) (ml ms ms' : List Nat) (st : Stmt) (f : Rho → M Fl) : Prop := PS X st (lS X.K X.N.length ns ms ms' ml f)
def LSs (X : Cx) (ns : List Int) (ml ms ms' : List Nat) (st : List Stmt) (f : Rho → M Fl) : Prop := PSs X st (lS X.K X.N.length ns ms ms' ml f)

def sNx : Rho → M Fl := fun ρ => M.pure (.nx ρ)
def sThen (k : Rho → M Fl) : Fl → M Fl
  | .nx ρ => k ρ
  | r => M.pure r
def sSeq (f k : Rho → M Fl) : Rho → M Fl := fun ρ => (f ρ).bind (sThen k)
def sSet (i : Nat) (f : Rho → M D) : Rho → M Fl := fun ρ => (f ρ).bind fun d => M.pure (.nx (ρ.upd i d))
def sSetO (i : Nat) (f : Rho → M D) : Rho → M Fl := fun ρ => (f ρ).bind fun d => if d.isBox = true then M.pure (.nx (ρ.upd i d)) else M.fail
def sRet (f : Rho → M D) : Rho → M Fl := fun ρ => (f ρ).bind fun d => M.pure (.rt d)
def sExpr (f : Rho → M D) : Rho → M Fl := fun ρ => (f ρ).bind fun _ => M.pure (.nx ρ)
def sIf (c : Rho → M Bool) (f k : Rho → M Fl) : Rho → M Fl := fun ρ => (c ρ).bind fun b => if b = true then f ρ else k ρ
def sBk : Rho → M Fl := fun ρ => M.pure (.bk ρ)
def sCt : Rho → M Fl := fun ρ => M.pure (.ct ρ)

section
variable {K : PySem.W.Frag} {n : Nat} {ns : List Int} {ms ms' ml m0 m1 m2 : List Nat} {B : Bs} {g g' : Gs} {ρ : Rho} {p p' : Pl} {σ : L2.St} {H : Hp} {v : V} {d : D}
theorem Abs.forget (A : Abs K n ns ms B g ρ p σ H) : Abs K n ns [] B g (fun _ => none) p σ H :=
  ⟨A.len, A.sub, A.keep, A.le, A.fz, A.qz, A.pool, fun _ _ e => (by cases e), fun _ _ _ h => (by cases h)⟩
theorem EndOk.le {D : Ends} {r : Fl} (e : g.Le g') (h : EndOk K n ns ms' ml B g p D r) : EndOk K n ns ms' ml B g' p D r := by
  cases r with
  | nx ρ' => exact fun g2 σ' H' l A => h g2 σ' H' (e.trans l) A
  | rt d => exact fun g2 σ' v H' l A => h g2 σ' v H' (e.trans l) A
  | bk ρ' => exact fun g2 σ' H' l A => h g2 σ' H' (e.trans l) A
  | ct ρ' => exact fun g2 σ' H' l A => h g2 σ' H' (e.trans l) A
theorem EndOk.weak {D : Ends} {r : Fl} (hs : subm ms ms' = true) (h : EndOk K n ns ms ml B g p D r) : EndOk K n ns ms' ml B g p D r := by
  cases r with
  | nx ρ' =>
    intro g2 σ' H' l A
    obtain ⟨g3, l3, _, A3⟩ := A.weak hs
    exact h g3 σ' H' (l.trans l3) A3
  | rt d => exact h
  | bk ρ' => exact h
  | ct ρ' => exact h
end

section
variable {X : Cx} {ns : List Int} {ml ms ms' m0 m1 m2 m3 : List Nat} {e a b c : Expr} {es : List Expr} {st : Stmt} {sts body orelse : List Stmt} {f h k : Rho → M Fl} {fe he : Rho → M D} {fs : Rho → M (List D)} {tf : Rho → M Bool} {pos pos' : Pos} {x : Str}

theorem lss_nil : LSs X ns ml ms ms [] sNx := pss_weak pss_nil fun D σ H ⟨B, g, ρ, p, r, p', A, hf, q⟩ => by
  obtain ⟨e1, e2⟩ := M.pure_some hf
  subst e1; subst e2
  exact q g σ H (Gs.Le.refl g) A
theorem lss_weak (hs : subm m2 m1 = true) (h1 : LSs X ns ml m0 m1 sts f) : LSs X ns ml m0 m2 sts f := pss_weak h1 fun D σ H ⟨B, g, ρ, p, r, p', A, hf, q⟩ => ⟨B, g, ρ, p, r, p', A, hf, q.weak hs⟩
theorem ls_weak (hs : subm m2 m1 = true) (h1 : LS X ns ml m0 m1 st f) : LS X ns ml m0 m2 st f := ps_weak h1 fun D σ H ⟨B, g, ρ, p, r, p', A, hf, q⟩ => ⟨B, g, ρ, p, r, p', A, hf, q.weak hs⟩
theorem lss_cons (h1 : LS X ns ml m0 m1 st f) (h2 : LSs X ns ml m1 m2 sts k) : LSs X ns ml m0 m2 (st :: sts) (sSeq f k) := pss_weak (pss_cons h1 h2) fun D σ H ⟨B, g, ρ, p, r, p', A, hf, q⟩ => by
  obtain ⟨r1, p1, e1, hf⟩ := M.bind_some hf
  refine ⟨B, g, ρ, p, r1, p1, A, e1, ?_⟩
  cases r1 with
  | nx ρ1 => exact fun g1 σ1 H1 l1 A1 => ⟨B, g1, ρ1, p1, r, p', A1, hf, q.le l1⟩
  | rt d => obtain ⟨e2, e3⟩ := M.pure_some hf; subst e2; subst e3; exact q
  | bk ρ1 => obtain ⟨e2, e3⟩ := M.pure_some hf; subst e2; subst e3; exact q
  | ct ρ1 => obtain ⟨e2, e3⟩ := M.pure_some hf; subst e2; subst e3; exact q
theorem lss_one (h1 : LS X ns ml m0 m1 st f) : LSs X ns ml m0 m1 [st] f := pss_one h1

/-! ### names stored -/
theorem ls_setD (i : Nat) (hN : X.N.Nodup) (hs : LE X ns m0 m1 e fe) (hi : X.N[i]? = some x := by rfl) (hx : Loc X.env.scope x := by first | exact Or.inl rfl | exact Or.inr rfl)
    (hsw : swapsWith e (some (.Name x pos')) pos.line X.env = pure false := by rfl) (hf : X.fn x = true ∨ X.env.scope.names.lookup x = some .local := by first | exact .inl rfl | exact .inr rfl | assumption) :
    LS X ns ml m0 (del m1 i) (.Assign [.Name x pos'] e pos) (sSet i fe) := ps_weak (ps_set hN hi hx hs hsw hf) fun D σ H ⟨B, g, ρ, p, r, p', A, hf, q⟩ => by
  obtain ⟨d, p1, e1, hf⟩ := M.bind_some hf
  obtain ⟨e2, e3⟩ := M.pure_some hf
  subst e2; subst e3
  have hlt : i < X.N.length := by
    by_cases hl : i < X.N.length
    · exact hl
    · rw [List.getElem?_eq_none (Nat.le_of_not_lt hl)] at hi; cases hi
  exact ⟨B, g, ρ, p, d, p', A, e1, fun g1 v H1 l1 A1 r1 => q g1 _ H1 l1 (A1.set hlt r1)⟩
theorem del_not {ms : List Nat} {i : Nat} (h : ms.contains i = false) : ∀ j, ms.contains j = (del ms i).contains j := fun j => by
  by_cases hj : ms.contains j = true
  · rw [hj]
    exact (del_iff.mpr ⟨hj, fun z => by rw [z, h] at hj; cases hj⟩).symm
  · rw [Bool.eq_false_iff.mpr hj]
    exact (Bool.eq_false_iff.mpr fun z => hj (del_iff.mp z).1).symm
theorem ls_congr (hc : ∀ j, m2.contains j = m1.contains j) (h1 : LS X ns ml m0 m1 st f) : LS X ns ml m0 m2 st f := ps_weak h1 fun D σ H ⟨B, g, ρ, p, r, p', A, hf, q⟩ => ⟨B, g, ρ, p, r, p', A, hf, by
  cases r with
  | nx ρ' => exact fun g2 σ' H' l A => q g2 σ' H' l (A.congr hc)
  | rt d => exact q
  | bk ρ' => exact q
  | ct ρ' => exact q⟩
theorem ls_set (i : Nat) (hN : X.N.Nodup) (hs : LE X ns m0 m1 e fe) (hm : m1.contains i = false := by rfl) (hi : X.N[i]? = some x := by rfl) (hx : Loc X.env.scope x := by first | exact Or.inl rfl | exact Or.inr rfl)
    (hsw : swapsWith e (some (.Name x pos')) pos.line X.env = pure false := by rfl) (hf : X.fn x = true ∨ X.env.scope.names.lookup x = some .local := by first | exact .inl rfl | exact .inr rfl | assumption) :
    LS X ns ml m0 m1 (.Assign [.Name x pos'] e pos) (sSet i fe) := ls_congr (del_not hm) (ls_setD i hN hs hi hx hsw hf)
/-- a freshly made list or dict is stored: the slot owns it -/
theorem ls_setO (i : Nat) (hN : X.N.Nodup) (hs : LN X ns m0 m1 e fe) (hi : X.N[i]? = some x := by rfl) (hx : Loc X.env.scope x := by first | exact Or.inl rfl | exact Or.inr rfl)
    (hsw : swapsWith e (some (.Name x pos')) pos.line X.env = pure false := by rfl) (hf : X.fn x = true ∨ X.env.scope.names.lookup x = some .local := by first | exact .inl rfl | exact .inr rfl | assumption) :
    LS X ns ml m0 (i :: del m1 i) (.Assign [.Name x pos'] e pos) (sSetO i fe) := ps_weak (ps_set hN hi hx hs hsw hf) fun D σ H ⟨B, g, ρ, p, r, p', A, hf, q⟩ => by
  obtain ⟨d, p1, e1, hf⟩ := M.bind_some hf
  split at hf
  · rename_i hd
    obtain ⟨e2, e3⟩ := M.pure_some hf
    subst e2; subst e3
    have hlt : i < X.N.length := by
      by_cases hl : i < X.N.length
      · exact hl
      · rw [List.getElem?_eq_none (Nat.le_of_not_lt hl)] at hi; cases hi
    refine ⟨B, g, ρ, p, d, p', A, e1, fun g1 v H1 l1 A1 r1 => ?_⟩
    rcases r1 with ⟨z, _⟩ | ⟨r1, r2⟩
    · rw [hd] at z; cases z
    · exact q g1 _ H1 l1 (A1.setOwn hlt r1 r2)
  · cases hf
theorem ls_expr (h1 : LE X ns m0 m1 e fe) (hs : swapsWith e none pos.line X.env = pure false := by rfl) : LS X ns ml m0 m1 (.Expr e pos) (sExpr fe) := ps_weak (ps_expr h1 hs) fun D σ H ⟨B, g, ρ, p, r, p', A, hf, q⟩ => by
  obtain ⟨d, p1, e1, hf⟩ := M.bind_some hf
  obtain ⟨e2, e3⟩ := M.pure_some hf
  subst e2; subst e3
  exact ⟨B, g, ρ, p, d, p', A, e1, fun g1 v H1 l1 A1 r1 => q g1 σ H1 l1 A1⟩
theorem ls_doc {x : Str} {j} : LS X ns ml ms ms (.Expr (.Constant (.str x) j pos) pos') sNx := ps_weak ps_doc fun D σ H ⟨B, g, ρ, p, r, p', A, hf, q⟩ => by
  obtain ⟨e1, e2⟩ := M.pure_some hf
  subst e1; subst e2
  exact q g σ H (Gs.Le.refl g) A
theorem ls_pass : LS X ns ml ms ms (.Pass pos) sNx := ps_weak ps_pass fun D σ H ⟨B, g, ρ, p, r, p', A, hf, q⟩ => by
  obtain ⟨e1, e2⟩ := M.pure_some hf
  subst e1; subst e2
  exact q g σ H (Gs.Le.refl g) A
theorem ls_ret (h1 : LE X ns m0 m1 e fe) : LS X ns ml m0 ms' (.Return (some e) pos) (sRet fe) := ps_weak (ps_ret h1) fun D σ H ⟨B, g, ρ, p, r, p', A, hf, q⟩ => by
  obtain ⟨d, p1, e1, hf⟩ := M.bind_some hf
  obtain ⟨e2, e3⟩ := M.pure_some hf
  subst e2; subst e3
  exact ⟨B, g, ρ, p, d, p', A, e1, fun g1 v H1 l1 A1 r1 => q g1 σ v H1 l1 A1.forget r1⟩
theorem ls_retN : LS X ns ml m0 ms' (.Return none pos) (sRet (eC .non)) := ps_weak ps_retN fun D σ H ⟨B, g, ρ, p, r, p', A, hf, q⟩ => by
  obtain ⟨d, p1, e1, hf⟩ := M.bind_some hf
  obtain ⟨e2, e3⟩ := M.pure_some hf
  obtain ⟨e4, e5⟩ := M.pure_some e1
  subst e2; subst e3; subst e4; subst e5
  exact q g σ .non H (Gs.Le.refl g) A.forget .non
theorem ls_break (hs : subm ml m0 = true := by rfl) : LS X ns ml m0 ms' (.Break pos) sBk := ps_weak ps_break fun D σ H ⟨B, g, ρ, p, r, p', A, hf, q⟩ => by
  obtain ⟨e1, e2⟩ := M.pure_some hf
  subst e1; subst e2
  obtain ⟨g2, l2, _, A2⟩ := A.weak hs
  exact q g2 σ H l2 A2
theorem ls_continue (hs : subm ml m0 = true := by rfl) : LS X ns ml m0 ms' (.Continue pos) sCt := ps_weak ps_continue fun D σ H ⟨B, g, ρ, p, r, p', A, hf, q⟩ => by
  obtain ⟨e1, e2⟩ := M.pure_some hf
  subst e1; subst e2
  obtain ⟨g2, l2, _, A2⟩ := A.weak hs
  exact q g2 σ H l2 A2
theorem ls_if (hc : LT X ns m0 m1 c tf) (ha : LSs X ns ml m1 m2 body f) (hb : LSs X ns ml m1 m2 orelse k) : LS X ns ml m0 m2 (.If c body orelse pos) (sIf tf f k) := ps_weak (ps_if hc ha hb) fun D σ H ⟨B, g, ρ, p, r, p', A, hf, q⟩ => by
  obtain ⟨t, p1, e1, hf⟩ := M.bind_some hf
  refine ⟨B, g, ρ, p, t, p1, A, e1, fun g1 H1 l1 A1 => ?_⟩
  cases t with
  | true => rw [if_pos rfl] at hf ⊢; exact ⟨B, g1, ρ, p1, r, p', A1, hf, q.le l1⟩
  | false => rw [if_neg Bool.false_ne_true] at hf ⊢; exact ⟨B, g1, ρ, p1, r, p', A1, hf, q.le l1⟩
/-- a branch that ends by return, break or continue: it may claim what it likes behind -/
theorem lss_end (h1 : LS X ns ml m0 m2 st f) : LSs X ns ml m0 m2 [st] f := pss_one h1

/-! ### targets -/
abbrev TgS := D → Rho → Option Rho
def lG (K : PySem.W.Frag) (n : Nat) (ns : List Int) (ms ms' vs : List Nat) (t : TgS) : TG := fun v σ H Q =>
  ∃ B g ρ p d ρ', Abs K n ns ms B g ρ p σ H ∧ Rep K g v d ∧ t d ρ = some ρ' ∧ ∀ g' σ' H', g.Le g' → Abs K n ns ms' B g' ρ' p σ' H' → wipe σ' vs = wipe σ vs → ρ'.wipe vs = ρ.wipe vs → Q σ' H'
def lGs (K : PySem.W.Frag) (n : Nat) (ns : List Int) (ms ms' vs : List Nat) (t : List D → Rho → Option Rho) : TGs := fun v σ H Q =>
  ∃ B g ρ p d ρ', Abs K n ns ms B g ρ p σ H ∧ RepL K g v d ∧ t d ρ = some ρ' ∧ ∀ g' σ' H', g.Le g' → Abs K n ns ms' B g' ρ' p σ' H' → wipe σ' vs = wipe σ vs → ρ'.wipe vs = ρ.wipe vs → Q σ' H'
def LG (X : Cx) (ns : List Int) (vs ms ms' : List Nat) (tg : Expr) (t : TgS) : Prop := PG X tg (lG X.K X.N.length ns ms ms' vs t)
def LGs (X : Cx) (ns : List Int) (vs ms ms' : List Nat) (tgs : List Expr) (t : List D → Rho → Option Rho) : Prop := PGs X tgs (lGs X.K X.N.length ns ms ms' vs t)
def gN (i : Nat) : TgS := fun d ρ => some (ρ.upd i d)
def gsNil : List D → Rho → Option Rho
  | [], ρ => some ρ
  | _, _ => none
def gsCons (t : TgS) (ts : List D → Rho → Option Rho) : List D → Rho → Option Rho
  | d :: ds, ρ => (t d ρ).bind (ts ds)
  | _, _ => none
def gT (ts : List D → Rho → Option Rho) : TgS := fun d ρ => match d with
  | .tup ds => ts ds ρ
  | _ => none
theorem pg_weak {tg : Expr} {t t' : TG} (h : PG X tg t) (w : ∀ v σ H Q, t' v σ H Q → t v σ H Q) : PG X tg t' := ⟨fun pins s σ H v u Q I r q => h.run pins s σ H v u Q I r (w v σ H Q q)⟩
theorem pgs_weak {tg : List Expr} {t t' : TGs} (h : PGs X tg t) (w : ∀ v σ H Q, t' v σ H Q → t v σ H Q) : PGs X tg t' := ⟨fun pins s σ H v u Q I r q => h.run pins s σ H v u Q I r (w v σ H Q q)⟩
theorem set_set_none {σ : L2.St} {i : Nat} {y : Option V} : ∀ {vs : List Nat}, vs.contains i = true → wipe (σ.set i y) vs = wipe σ vs
  | [], h => by simp at h
  | v :: vs, h => by
    unfold wipe
    rw [List.contains_cons, Bool.or_eq_true] at h
    by_cases hv : vs.contains i = true
    · rw [set_set_none hv]
    · have e : i = v := by
        rcases h with h | h
        · simpa using h
        · exact absurd h hv
      subst e
      have out : ∀ (ws : List Nat) (τ : L2.St), ws.contains i = false → wipe (τ.set i y) ws = (wipe τ ws).set i y := by
        intro ws
        induction ws with
        | nil => intro τ _; rfl
        | cons w ws ih =>
          intro τ hw
          rw [List.contains_cons, Bool.or_eq_false_iff] at hw
          unfold wipe
          rw [ih τ hw.2]
          have ne : i ≠ w := by simpa using hw.1
          exact List.set_comm _ _ (fun z => ne z)
      rw [out vs σ (by simpa using hv), List.set_set]
theorem lg_nameD (i : Nat) {vs : List Nat} (hN : X.N.Nodup) (hv : vs.contains i = true := by rfl) (hi : X.N[i]? = some x := by rfl) (hx : Loc X.env.scope x := by first | exact Or.inl rfl | exact Or.inr rfl)
    (hf : X.fn x = true ∨ X.env.scope.names.lookup x = some .local := by first | exact .inl rfl | exact .inr rfl | assumption) : LG X ns vs ms (del ms i) (.Name x pos) (gN i) :=
  pg_weak (pg_name hN hi hx hf) fun v σ H Q ⟨B, g, ρ, p, d, ρ', A, r, e, q⟩ => by
    cases e
    have hlt : i < X.N.length := by
      by_cases hl : i < X.N.length
      · exact hl
      · rw [List.getElem?_eq_none (Nat.le_of_not_lt hl)] at hi; cases hi
    refine q g _ H (Gs.Le.refl g) (A.set hlt r) (set_set_none hv) ?_
    funext j
    unfold Rho.wipe Rho.upd
    by_cases hj : vs.contains j = true
    · rw [if_pos hj, if_pos hj]
    · rw [if_neg hj, if_neg hj, if_neg (fun z => hj (by rw [z]; exact hv))]
theorem lg_congr {vs : List Nat} {tg : Expr} {t : TgS} (hc : ∀ j, m2.contains j = m1.contains j) (h : LG X ns vs m0 m1 tg t) : LG X ns vs m0 m2 tg t :=
  pg_weak h fun v σ H Q ⟨B, g, ρ, p, d, ρ', A, r, e, q⟩ => ⟨B, g, ρ, p, d, ρ', A, r, e, fun g' σ' H' l A' => q g' σ' H' l (A'.congr hc)⟩
theorem lg_name (i : Nat) {vs : List Nat} (hN : X.N.Nodup) (hm : ms.contains i = false := by rfl) (hv : vs.contains i = true := by rfl) (hi : X.N[i]? = some x := by rfl) (hx : Loc X.env.scope x := by first | exact Or.inl rfl | exact Or.inr rfl)
    (hf : X.fn x = true ∨ X.env.scope.names.lookup x = some .local := by first | exact .inl rfl | exact .inr rfl | assumption) : LG X ns vs ms ms (.Name x pos) (gN i) :=
  lg_congr (del_not hm) (lg_nameD i hN hv hi hx hf)
theorem lgs_nil {vs : List Nat} : LGs X ns vs ms ms [] gsNil := pgs_weak pgs_nil fun v σ H Q ⟨B, g, ρ, p, d, ρ', A, r, e, q⟩ => by
  cases d with
  | nil => cases r; cases e; exact ⟨rfl, q g σ H (Gs.Le.refl g) A rfl rfl⟩
  | cons d ds => cases e
theorem lgs_cons {vs : List Nat} {tg : Expr} {tgs : List Expr} {t : TgS} {ts : List D → Rho → Option Rho} (h1 : LG X ns vs m0 m1 tg t) (h2 : LGs X ns vs m1 m2 tgs ts)
    (hs : (assignEach (tg :: tgs) X.env).map (·.2) = assign tg X.env :: (assignEach tgs X.env).map (·.2) := by rfl) : LGs X ns vs m0 m2 (tg :: tgs) (gsCons t ts) := pgs_weak (pgs_cons h1 h2 hs) fun v σ H Q ⟨B, g, ρ, p, d, ρ', A, r, e, q⟩ => by
  cases d with
  | nil => cases e
  | cons d ds =>
    cases r with
    | cons r1 r2 =>
      have e' : (t d ρ).bind (ts ds) = some ρ' := e
      obtain ⟨ρ1, e1, e2⟩ := Option.bind_eq_some_iff.mp e'
      exact ⟨_, _, rfl, B, g, ρ, p, d, ρ1, A, r1, e1, fun g1 σ1 H1 l1 A1 w1 y1 => ⟨B, g1, ρ1, p, ds, ρ', A1, r2.mono l1, e2, fun g2 σ2 H2 l2 A2 w2 y2 => q g2 σ2 H2 (l1.trans l2) A2 (w2.trans w1) (y2.trans y1)⟩⟩
theorem gs_len : ∀ {ds : List D} {ρ ρ' : Rho}, gsNil ds ρ = some ρ' → ds.length = 0
  | [], _, _, _ => rfl
  | _ :: _, _, _, h => by cases h
theorem gsCons_len {t : TgS} {ts : List D → Rho → Option Rho} {n : Nat} (h : ∀ {ds ρ ρ'}, ts ds ρ = some ρ' → ds.length = n) : ∀ {ds : List D} {ρ ρ' : Rho}, gsCons t ts ds ρ = some ρ' → ds.length = n + 1
  | [], _, _, e => by cases e
  | d :: ds, ρ, ρ', e => by
    have e' : (t d ρ).bind (ts ds) = some ρ' := e
    obtain ⟨ρ1, e1, e2⟩ := Option.bind_eq_some_iff.mp e'
    rw [List.length_cons, h e2]
theorem lg_tup {vs : List Nat} {kt : Nat} {ts : List D → Rho → Option Rho} (n : Nat) (hc : X.calm = true) (h : LGs X ns vs m0 m1 es ts) (hl : ∀ {ds ρ ρ'}, ts ds ρ = some ρ' → ds.length = n)
    (hn : (assignEach es X.env).length = n := by rfl) (hst : (assignEach es X.env).findIdx? (·.1) = none := by rfl) : LG X ns vs m0 m1 (.Tuple es kt pos) (gT ts) := pg_weak (pg_tup hc h hn hst) fun v σ H Q ⟨B, g, ρ, p, d, ρ', A, r, e, q⟩ => by
  cases d with
  | tup ds =>
    cases r with
    | tup h1 h2 => exact ⟨_, _, rfl, seqT A.sub h1, by rw [h2.length]; exact hl e, B, g, ρ, p, ds, ρ', A, h2, e, q⟩
  | _ => cases e
/-- target = value -/
def sAsg (t : TgS) (f : Rho → M D) : Rho → M Fl := fun ρ => (f ρ).bind fun d => (M.lift (t d ρ)).bind fun ρ' => M.pure (.nx ρ')
theorem ls_asg {vs : List Nat} {tg : Expr} {t : TgS} (h1 : LE X ns m0 m1 e fe) (hg : LG X ns vs m1 m2 tg t) (hs : swapsWithSole [tg] e pos.line X.env = pure false := by rfl) (hw : swappedStores [tg] e X.env = pure none := by rfl)
    (h2 : (assignEach [tg] X.env).map (·.2) = [assign tg X.env] := by rfl) : LS X ns ml m0 m2 (.Assign [tg] e pos) (sAsg t fe) := ps_weak (ps_asg h1 hg hs hw h2) fun D σ H ⟨B, g, ρ, p, r, p', A, hf, q⟩ => by
  obtain ⟨d, p1, e1, hf⟩ := M.bind_some hf
  obtain ⟨ρ', p2, e2, hf⟩ := M.bind_some hf
  obtain ⟨e3, e4⟩ := M.pure_some hf
  obtain ⟨e5, e6⟩ := M.lift_some e2
  subst e3; subst e4; subst e6
  exact ⟨B, g, ρ, p, d, _, A, e1, fun g1 v H1 l1 A1 r1 => ⟨B, g1, ρ, _, d, ρ', A1, r1, e5, fun g2 σ2 H2 l2 A2 _ _ => q g2 σ2 H2 (l1.trans l2) A2⟩⟩

/-! ### what a loop walks -/
def Yld (K : PySem.W.Frag) (g : Gs) (H : Hp) (x : V) (H' : Hp) (d : D) : Prop := (H' = H ∧ Rep K g x d) ∨ ∃ T vs ds, x = .ref T ∧ H T = none ∧ H' = upd H T (.tup vs) ∧ RepL K g vs ds ∧ d = .tup ds
/-- what is frozen may be read in H -/
def Sub (g : Gs) (H : Hp) : Prop := ∀ a u, plainO u = true → Rd g.G a u → Rd H a u
theorem Sub.of {g : Gs} {H : Hp} (h : Same g.G H) : Sub g H := fun _ _ _ r => Rd.same h r
theorem Sub.le {g g' : Gs} {H : Hp} (h : Sub g' H) (e : g.Le g') : Sub g H := fun a u p r => h a u p (e.rd a u p r)
structure ItOk (K : PySem.W.Frag) (g : Gs) (J : It) (items : List D) : Prop where
  go : ∀ i d H, items[i]? = some d → Sub g H → J.go i H ∧ ∀ x H', J.yld i H x H' → Yld K g H x H' d
  stop : ∀ i H, items.length ≤ i → Sub g H → J.stop i H
theorem Yld.mono {K : PySem.W.Frag} {g g' : Gs} {H H' : Hp} {x : V} {d : D} (e : g.Le g') (h : Yld K g H x H' d) : Yld K g' H x H' d := by
  rcases h with ⟨h1, h2⟩ | ⟨T, vs, ds, h1, h2, h3, h4, h5⟩
  · exact .inl ⟨h1, h2.mono e⟩
  · exact .inr ⟨T, vs, ds, h1, h2, h3, h4.mono e, h5⟩
theorem ItOk.mono {K : PySem.W.Frag} {g g' : Gs} {J : It} {items : List D} (e : g.Le g') (h : ItOk K g J items) : ItOk K g' J items :=
  ⟨fun i d H h1 h2 => ⟨(h.go i d H h1 (h2.le e)).1, fun x H' y => ((h.go i d H h1 (h2.le e)).2 x H' y).mono e⟩, fun i H h1 h2 => h.stop i H h1 (h2.le e)⟩
theorem Abs.yld {K : PySem.W.Frag} {n : Nat} {B : Bs} {g : Gs} {ρ : Rho} {p : Pl} {σ : L2.St} {H H' : Hp} {x : V} {d : D} (A : Abs K n ns ms B g ρ p σ H) (y : Yld K g H x H' d) : ∃ g', g.Le g' ∧ Abs K n ns ms B g' ρ p σ H' ∧ Rep K g' x d := by
  rcases y with ⟨rfl, r⟩ | ⟨T, vs, ds, rfl, hn, rfl, r, rfl⟩
  · exact ⟨g, Gs.Le.refl g, A, r⟩
  · exact A.tup hn r
def lI (K : PySem.W.Frag) (n : Nat) (ns : List Int) (ms ms' : List Nat) (f : Rho → M (List D)) : TI := fun σ H R =>
  ∃ B g ρ p ds p', Abs K n ns ms B g ρ p σ H ∧ f ρ p = some (ds, p') ∧ ∀ g' J H', g.Le g' → Abs K n ns ms' B g' ρ p' σ H' → ItOk K g' J ds → R J H'
def LI (X : Cx) (ns : List Int) (ms ms' : List Nat) (tg iter : Expr) (f : Rho → M (List D)) : Prop := PI X tg iter (lI X.K X.N.length ns ms ms' f)
theorem pi_weak {tg iter : Expr} {t t' : TI} (h : PI X tg iter t) (w : ∀ σ H Q, t' σ H Q → t σ H Q) : PI X tg iter t' := ⟨fun pins s σ H R I q => h.run pins s σ H R I (w σ H R q)⟩

/-! ### for -/
def forNext (k : Rho → M Fl) : Fl → M Fl
  | .nx ρ => k ρ
  | .ct ρ => k ρ
  | .bk ρ => M.pure (.nx ρ)
  | .rt d => M.pure (.rt d)
def forGo (t : TgS) (body : Rho → M Fl) : List D → Rho → M Fl
  | [], ρ => M.pure (.nx ρ)
  | x :: xs, ρ => (M.lift (t x ρ)).bind fun ρ1 => (body ρ1).bind (forNext (forGo t body xs))
def sFor (t : TgS) (it : Rho → M (List D)) (body : Rho → M Fl) : Rho → M Fl := fun ρ => (it ρ).bind fun xs => forGo t body xs ρ
theorem ls_for {vs : List Nat} {tg iter : Expr} {t : TgS} {fi : Rho → M (List D)} (hp : PassesOwn (model X.prog X.w) X.A X.env X.xe) (hc : X.calm = true) (hi : LI X ns m0 m1 tg iter fi) (hw : subm ml m1 = true) (hg : LG X ns vs ml m2 tg t) (hb : LSs X ns ml m2 ml body f)
    (hs : ∀ x, foldedSetIterable iter X.env x = pure x := by intro _; rfl) {mo : List Nat} : LS X ns mo m0 ml (.For tg iter body [] pos) (sFor t fi f) := ps_weak (ps_for hp hc hi hg hb hs) fun D σ H ⟨B, g, ρ, p, r, p', A, hf, q⟩ => by
  obtain ⟨xs, p1, e1, hf⟩ := M.bind_some hf
  refine ⟨B, g, ρ, p, xs, p1, A, e1, fun g1 J H1 l1 A1 it => ?_⟩
  obtain ⟨g2, l2, _, A2⟩ := A1.weak hw
  refine ⟨fun i m σ H => ∃ g3 ρ3 p3, g2.Le g3 ∧ Abs X.K X.N.length ns ml B g3 ρ3 p3 σ H ∧ forGo t f (xs.drop i) ρ3 p3 = some (r, p') ∧ m = xs.length - i, ⟨xs.length, g2, ρ, p1, Gs.Le.refl _, A2, by simpa using hf, by simp⟩, fun i m σ3 H3 ⟨g3, ρ3, p3, l3, A3, hf3, em⟩ => ?_⟩
  by_cases hx : i < xs.length
  · have ex : xs[i]? = some xs[i] := List.getElem?_eq_getElem hx
    obtain ⟨go, yl⟩ := ((it.mono (l2.trans l3)).go i _ H3 ex (.of A3.sub))
    rw [List.drop_eq_getElem_cons hx] at hf3
    obtain ⟨ρ4, p4, e4', hf3'⟩ := M.bind_some hf3
    obtain ⟨e4, e4q⟩ := M.lift_some e4'
    rw [e4q] at hf3'
    obtain ⟨r5, p5, e5, hf3⟩ := M.bind_some hf3'
    refine .inr ⟨go, fun σ' H' => ∃ g3 ρ3 p3, g2.Le g3 ∧ Abs X.K X.N.length ns ml B g3 ρ3 p3 σ' H' ∧ forGo t f (xs.drop (i + 1)) ρ3 p3 = some (r, p'), fun σ' H' ⟨g6, ρ6, p6, l6, A6, hf6⟩ => ⟨xs.length - (i + 1), by omega, g6, ρ6, p6, l6, A6, hf6, rfl⟩, fun x H' y => ?_⟩
    obtain ⟨g4, l4, A4, r4⟩ := A3.yld (yl x H' y)
    refine ⟨B, g4, ρ3, p3, _, ρ4, A4, r4, e4, fun g5 σ5 H5 l5 A5 _ _ => ⟨B, g5, ρ4, p3, r5, p5, A5, e5, ?_⟩⟩
    cases r5 with
    | nx ρ6 => exact fun g6 σ6 H6 l6 A6 => ⟨g6, ρ6, p5, (((l3.trans l4).trans l5).trans l6), A6, hf3⟩
    | ct ρ6 => exact fun g6 σ6 H6 l6 A6 => ⟨g6, ρ6, p5, (((l3.trans l4).trans l5).trans l6), A6, hf3⟩
    | bk ρ6 =>
      obtain ⟨e6, e7⟩ := M.pure_some hf3
      subst e6; subst e7
      exact fun g6 σ6 H6 l6 A6 => q g6 σ6 H6 ((l1.trans l2).trans (((l3.trans l4).trans l5).trans l6)) A6
    | rt d =>
      obtain ⟨e6, e7⟩ := M.pure_some hf3
      subst e6; subst e7
      exact fun g6 σ6 v H6 l6 A6 r6 => q g6 σ6 v H6 ((l1.trans l2).trans (((l3.trans l4).trans l5).trans l6)) A6 r6
  · refine .inl ⟨(it.mono (l2.trans l3)).stop i H3 (by omega) (.of A3.sub), ?_⟩
    rw [List.drop_eq_nil_of_le (by omega)] at hf3
    obtain ⟨e6, e7⟩ := M.pure_some hf3
    subst e6; subst e7
    exact q g3 σ3 H3 ((l1.trans l2).trans l3) A3

/-! ### while -/
def whileGo (c : Rho → M Bool) (body : Rho → M Fl) : Nat → Rho → M Fl
  | 0, _ => M.fail
  | n + 1, ρ => (c ρ).bind fun b => if b = true then (body ρ).bind (forNext (whileGo c body n)) else M.pure (.nx ρ)
def sWhile (fuel : Nat) (c : Rho → M Bool) (body : Rho → M Fl) : Rho → M Fl := fun ρ => whileGo c body fuel ρ
theorem ls_while (fuel : Nat) (hp : PassesOwn (model X.prog X.w) X.A X.env X.xe) (hw : subm ml m0 = true) (hc : LT X ns ml ml c tf) (hb : LSs X ns ml ml ml body f) {mo : List Nat} : LS X ns mo m0 ml (.While c body [] pos) (sWhile fuel tf f) := ps_weak (ps_while hp hc hb) fun D σ H ⟨B, g, ρ, p, r, p', A, hf, q⟩ => by
  obtain ⟨g2, l2, _, A2⟩ := A.weak hw
  refine ⟨fun m σ H => ∃ g3 ρ3 p3, g2.Le g3 ∧ Abs X.K X.N.length ns ml B g3 ρ3 p3 σ H ∧ whileGo tf f m ρ3 p3 = some (r, p'), ⟨fuel, g2, ρ, p, Gs.Le.refl _, A2, hf⟩, fun m σ3 H3 ⟨g3, ρ3, p3, l3, A3, hf3⟩ => ?_⟩
  cases m with
  | zero => cases hf3
  | succ m =>
    obtain ⟨t, p4, e4, hf3⟩ := M.bind_some hf3
    refine ⟨B, g3, ρ3, p3, t, p4, A3, e4, fun g4 H4 l4 A4 => ?_⟩
    cases t with
    | true =>
      rw [if_pos rfl] at hf3 ⊢
      obtain ⟨r5, p5, e5, hf3⟩ := M.bind_some hf3
      refine ⟨fun σ' H' => ∃ g3 ρ3 p3, g2.Le g3 ∧ Abs X.K X.N.length ns ml B g3 ρ3 p3 σ' H' ∧ whileGo tf f m ρ3 p3 = some (r, p'), fun σ' H' h => ⟨m, Nat.lt_succ_self m, h⟩, B, g4, ρ3, p4, r5, p5, A4, e5, ?_⟩
      cases r5 with
      | nx ρ6 => exact fun g6 σ6 H6 l6 A6 => ⟨g6, ρ6, p5, (l3.trans l4).trans l6, A6, hf3⟩
      | ct ρ6 => exact fun g6 σ6 H6 l6 A6 => ⟨g6, ρ6, p5, (l3.trans l4).trans l6, A6, hf3⟩
      | bk ρ6 =>
        obtain ⟨e6, e7⟩ := M.pure_some hf3
        subst e6; subst e7
        exact fun g6 σ6 H6 l6 A6 => q g6 σ6 H6 (l2.trans ((l3.trans l4).trans l6)) A6
      | rt d =>
        obtain ⟨e6, e7⟩ := M.pure_some hf3
        subst e6; subst e7
        exact fun g6 σ6 v H6 l6 A6 r6 => q g6 σ6 v H6 (l2.trans ((l3.trans l4).trans l6)) A6 r6
    | false =>
      rw [if_neg Bool.false_ne_true] at hf3 ⊢
      obtain ⟨e6, e7⟩ := M.pure_some hf3
      subst e6; subst e7
      exact q g4 σ3 H4 (l2.trans (l3.trans l4)) A4
end

/-! ### a def -/
def endFn : Fl → M D
  | .rt d => M.pure d
  | .nx _ => M.pure .non
  | _ => M.fail
def argsOf (ds : List D) : Rho := fun i => ds[i]?
def runFn (body : Rho → M Fl) : List D → M D := fun ds => (body (argsOf ds)).bind endFn
theorem start_length {N : List Str} {vs : List V} (h : vs.length ≤ N.length) : (L2.start N vs).length = N.length := by
  unfold L2.start
  rw [List.length_append, List.length_map, List.length_replicate]
  omega
theorem fn_lift {P : Program} {w : World} {K : PySem.W.Frag} {mg : Str → Option Value} {base : Heap} {x qual : Str} {st : Stmt} {f : Addr} {fd : FuncData} {N ps : List Str} {k : Nat} {ns : List Int} {body : Rho → M Fl}
    (F : Fun K x qual st f fd) (S : FnScope N ps (defScope st)) (hle : ps.length ≤ N.length)
    (h : ∀ (cdv : Value) (A : Around) (outer : List Env) (s : Shared) (H : Hp) (E : XK), Room k (A.deeper (envOfC qual (defScope st) s.heap.objs.size f cdv)) →
      ∃ ms', LSs (cxOf CX0 P w K mg base N qual (defScope st) f cdv A outer s H E).nox ns [] [] ms' (defBody st) body) :
    FnOk P w K mg base CX0 (k + 1) f fd ps (spD K ns ps.length (runFn body)) := by
  refine F.ok S (fun vs H Q E h => ?_) (fun cdv A outer s H vs Q E hr hsp => ?_)
  · obtain ⟨_, _, _, _, _, h, _⟩ := h
    exact h
  · obtain ⟨ms', hb⟩ := h cdv A outer s H E hr
    refine ⟨_, hb, ?_⟩
    obtain ⟨g, ds, p, d, p', hl, hs, hp, hr', hF, q⟩ := hsp
    obtain ⟨r, p1, e1, hF⟩ := M.bind_some hF
    refine ⟨⟨H, g, fun _ => false⟩, g, argsOf ds, p, r, p1, ⟨?_, hs, fun _ _ e _ => .inl e, Gs.Le.refl g, fun _ e => .inr e, fun _ e => .inl e, hp, fun i d e => ?_, fun _ _ _ h => (by cases h)⟩, e1, ?_⟩
    · exact start_length (by rw [hl]; exact hle)
    · obtain ⟨v, ev, rv⟩ := RepL.get hr' e
      have hi : i < vs.length := by
        by_cases hi : i < vs.length
        · exact hi
        · rw [List.getElem?_eq_none (Nat.le_of_not_lt hi)] at ev; cases ev
      refine ⟨v, ?_, ?_⟩
      · unfold L2.start
        rw [List.getElem?_append_left (by rw [List.length_map]; exact hi), List.getElem?_map, ev]
        rfl
      · unfold SlotOk
        rw [if_neg (fun z => by cases z)]
        exact rv
    · have fin : ∀ {g' : Gs} {ms : List Nat} {ρ' : Rho} {σ' : L2.St} {v : V} {H' : Hp}, Abs K N.length ns ms ⟨H, g, fun _ => false⟩ g' ρ' p' σ' H' → Rep K g' v d → Q v H' := fun {g' ms ρ' σ' v H'} A r => by
        refine q g' v H' A.le A.sub (fun a o e hq => (A.keep a o e fun z => ?_).elim id fun z => by cases z.1) A.fz A.qz A.pool r
        rcases A.qz a z with z | z
        · exact hq z
        · have e' : H a = some o := e
          have z' : H a = none := z
          rw [e'] at z'; cases z'
      cases r with
      | nx ρ' =>
        obtain ⟨e2, e3⟩ := M.pure_some hF
        subst e2; subst e3
        exact fun g' σ' H' _ A => fin A .non
      | rt d' =>
        obtain ⟨e2, e3⟩ := M.pure_some hF
        subst e2; subst e3
        exact fun g' σ' v H' _ A r => fin A r
      | bk ρ' => cases hF
      | ct ρ' => cases hF
end Lf

/-! Lift3: operators and built-ins by data. -/
namespace Lf
open PySem PySem.Spec PyProof.Rows L2

/-! ### results -/
section
variable {X : Cx} {ns : List Int} {ms : List Nat} {B : Bs} {g : Gs} {ρ : Rho} {p : Pl} {σ : L2.St} {H : Hp} {v : V} {d : D}
theorem fr_int (i : Int) {K : PySem.W.Frag} : rN K ms g B ρ σ H (.int i) (.int i) := .inl ⟨rfl, .int i⟩
theorem fr_bl (b : Bool) {K : PySem.W.Frag} : rN K ms g B ρ σ H (.bl b) (.bl b) := .inl ⟨rfl, .bl b⟩
theorem fr_str (x : Str) {K : PySem.W.Frag} : rN K ms g B ρ σ H (.str x) (.str x) := .inl ⟨rfl, .str x⟩
theorem vw_int {K : PySem.W.Frag} {i : Int} (h : View K g H v (.int i)) : v = .int i := by cases h; rfl
theorem vw_bl {K : PySem.W.Frag} {b : Bool} (h : View K g H v (.bl b)) : v = .bl b := by cases h; rfl
theorem vw_str {K : PySem.W.Frag} {x : Str} (h : View K g H v (.str x)) : v = .str x := by cases h; rfl
theorem vw_non {K : PySem.W.Frag} (h : View K g H v .non) : v = .non := by cases h; rfl
end

/-! ### ints -/
def dII (f : Int → Int → Option D) : D → D → Option D
  | .int i, .int j => f i j
  | _, _ => none
theorem op2_ii {R : RF} {X : Cx} {C : Int → Int → Prop} {g : Int → Int → V} {f : Int → Int → Option D} (h : ∀ {i j z}, f i j = some z → C i j) (h2 : ∀ {i j z ms gs B ρ σ H}, f i j = some z → R X.K ms gs B ρ σ H (g i j) z) : Op2 R X (rI C g) (dII f) := by
  intro ns ms B gs ρ p σ H v w x y z Q A vx vy e q
  cases x <;> try (cases e; done)
  cases y <;> try (cases e; done)
  rename_i i j
  have e' : f i j = some z := e
  cases vw_int vx; cases vw_int vy
  exact ⟨i, j, rfl, rfl, h e', q _ gs H (Gs.Le.refl gs) A (h2 e')⟩
theorem op2_ii0 {R : RF} {X : Cx} {g : Int → Int → V} {f : Int → Int → Option D} (h2 : ∀ {i j z ms gs B ρ σ H}, f i j = some z → R X.K ms gs B ρ σ H (g i j) z) : Op2 R X (rI0 g) (dII f) := by
  intro ns ms B gs ρ p σ H v w x y z Q A vx vy e q
  cases x <;> try (cases e; done)
  cases y <;> try (cases e; done)
  rename_i i j
  have e' : f i j = some z := e
  cases vw_int vx; cases vw_int vy
  exact ⟨i, j, rfl, rfl, q _ gs H (Gs.Le.refl gs) A (h2 e')⟩
def dSub : D → D → Option D := dII fun i j => some (.int (i - j))
theorem op2_sub {X : Cx} : Op2 rN X (rI0 fun i j => .int (i - j)) dSub := op2_ii0 fun e => by cases e; exact fr_int _
def mulOk (i j : Int) : Bool := (decide (-(2 ^ 64) < i) && decide (i < 2 ^ 64)) || (decide (-(2 ^ 64) < j) && decide (j < 2 ^ 64)) || decide (i.natAbs.log2 + j.natAbs.log2 < 100000000)
theorem mulOk_ok {i j : Int} (h : mulOk i j = true) : IntMulOk i j := by
  unfold mulOk at h
  rw [Bool.or_eq_true, Bool.or_eq_true] at h
  rcases h with (h | h) | h
  · rw [Bool.and_eq_true] at h
    exact CMul.ok (.inl ⟨of_decide_eq_true h.1, of_decide_eq_true h.2⟩)
  · rw [Bool.and_eq_true] at h
    exact CMul.ok (.inr ⟨of_decide_eq_true h.1, of_decide_eq_true h.2⟩)
  · have b : ∀ x : Int, Builtin.Int.intBits x ≤ x.natAbs.log2 + 1 := fun x => by
      unfold Builtin.Int.intBits
      split <;> omega
    have h3 := of_decide_eq_true h
    have h1 := b i
    have h2 := b j
    have e : bitsLine = 134217728 := by decide
    unfold IntMulOk
    intro z
    rw [Bool.and_eq_true] at z
    have z2 := z.2
    unfold Builtin.Int.intTooBig at z2
    have z3 := of_decide_eq_true z2
    rw [e] at z3
    omega
def CMulX (i j : Int) : Prop := mulOk i j = true
theorem op_mulX {X : Cx} : OpR X (binaryOp .Mult) (rI CMulX fun i j => .int (i * j)) := opI fun _ _ _ _ _ _ _ hc q => mul_int q (mulOk_ok hc)
def dMulI (i j : Int) : Option D := if mulOk i j = true then some (.int (i * j)) else none
theorem op2_mul {X : Cx} : Op2 rN X (rI CMulX fun i j => .int (i * j)) (dII dMulI) := op2_ii (fun e => by
    unfold dMulI at e; split at e
    · assumption
    · cases e) (fun e => by
    unfold dMulI at e; split at e
    · cases e; exact fr_int _
    · cases e)
def CDivX (_ j : Int) : Prop := j ≠ 0 ∧ j.natAbs.log2 < 9000
theorem op_fdivX {X : Cx} : OpR X (binaryOp .FloorDiv) (rI CDivX fun i j => .int (i.fdiv j)) := opI fun i j _ _ _ _ _ hc q => floordiv_int hc.1 q (.inl (PyProof.noPylong_of_log2 hc.2))
def dDivI (i j : Int) : Option D := if 0 < j then (if j.natAbs.log2 < 9000 then some (.int (i / j)) else none) else if j ≠ 0 ∧ j.natAbs.log2 < 9000 then some (.int (i.fdiv j)) else none
theorem op2_fdiv {X : Cx} : Op2 rN X (rI CDivX fun i j => .int (i.fdiv j)) (dII dDivI) := op2_ii (fun {i j z} e => by
    unfold dDivI at e; split at e
    · split at e
      · exact ⟨by omega, by assumption⟩
      · cases e
    · split at e
      · assumption
      · cases e) (fun {i j z _ _ _ _ _ _} e => by
    unfold dDivI at e; split at e
    · split at e
      · rw [Int.fdiv_eq_ediv_of_nonneg i (by omega)]; cases e; exact fr_int _
      · cases e
    · split at e
      · cases e; exact fr_int _
      · cases e)
def dModI (i j : Int) : Option D := if 0 < j then some (.int (i % j)) else if j ≠ 0 then some (.int (i.fmod j)) else none
theorem op2_mod {X : Cx} : Op2 rN X (rI (fun _ j => j ≠ 0) fun i j => .int (i.fmod j)) (dII dModI) := op2_ii (fun {i j z} e => by
    unfold dModI at e; split at e
    · omega
    · split at e
      · assumption
      · cases e) (fun {i j z _ _ _ _ _ _} e => by
    unfold dModI at e; split at e
    · rw [Int.fmod_eq_emod_of_nonneg i (by omega)]; cases e; exact fr_int _
    · split at e
      · cases e; exact fr_int _
      · cases e)
def powOk (i j : Int) : Bool := decide (0 ≤ j) && decide (j ≤ 1000000) && decide (i.natAbs < 2 ^ 64)
def dPowI (i j : Int) : Option D := if powOk i j = true then some (.int (i ^ j.toNat)) else none
theorem op2_pow {X : Cx} : Op2 rN X (rI CPow fun i j => .int (i ^ j.toNat)) (dII dPowI) := op2_ii (fun e => by
    unfold dPowI at e; split at e
    · rename_i h
      unfold powOk at h
      rw [Bool.and_eq_true, Bool.and_eq_true] at h
      exact ⟨of_decide_eq_true h.1.1, of_decide_eq_true h.1.2, of_decide_eq_true h.2⟩
    · cases e) (fun e => by
    unfold dPowI at e; split at e
    · cases e; exact fr_int _
    · cases e)
def dLt : D → D → Option D := dII fun i j => some (.bl (decide (i < j)))
def dLe : D → D → Option D := dII fun i j => some (.bl (decide (i ≤ j)))
def dGt : D → D → Option D := dII fun i j => some (.bl (decide (j < i)))
def dGe : D → D → Option D := dII fun i j => some (.bl (decide (j ≤ i)))
theorem op2_lt {X : Cx} : Op2 rN X (rI0 fun i j => .bl (decide (i < j))) dLt := op2_ii0 fun e => by cases e; exact fr_bl _
theorem op2_le {X : Cx} : Op2 rN X (rI0 fun i j => .bl (decide (i ≤ j))) dLe := op2_ii0 fun e => by cases e; exact fr_bl _
theorem op2_gt {X : Cx} : Op2 rN X (rI0 fun i j => .bl (decide (j < i))) dGt := op2_ii0 fun e => by cases e; exact fr_bl _
theorem op2_ge {X : Cx} : Op2 rN X (rI0 fun i j => .bl (decide (j ≤ i))) dGe := op2_ii0 fun e => by cases e; exact fr_bl _
def dNeg : D → Option D
  | .int i => some (.int (-i))
  | _ => none
theorem op1_neg {X : Cx} : Op1 rN X (fun x H Q => ∃ i, x = .int i ∧ Q (.int (-i)) H) dNeg := by
  intro ns ms B gs ρ p σ H v x z Q A vx e q
  cases x <;> try (cases e; done)
  cases e
  cases vw_int vx
  exact ⟨_, rfl, q _ gs H (Gs.Le.refl gs) A (fr_int _)⟩

/-! ### + -/
section
variable {X : Cx}
def rCatS (K : PySem.W.Frag) : R2 := fun x y H Q => ∃ l b xs zs, x = .ref l ∧ y = .ref b ∧ SqL K H l xs ∧ SqL K H b zs ∧ xs.length + zs.length ≤ sizeLine ∧ ∀ p, H p = none → Q (.ref p) (upd H p (.lst (xs ++ zs)))
theorem op_catS : OpR X (binaryOp .Add) (rCatS X.K) := by
  intro pins s σ H x y v u Q I rx ry h
  obtain ⟨l, b, xs, zs, rfl, rfl, hH, hB, hz, q⟩ := h
  cases rx
  cases ry
  obtain ⟨vs, r1, p1, _⟩ := I.list hH
  obtain ⟨ws, r2, p2, _⟩ := I.list hB
  obtain ⟨⟨cls, dd, data, sl⟩, ho, hc, n, hd⟩ := id p1.isList
  obtain ⟨⟨cls2, dd2, data2, sl2⟩, ho2, hc2, n2, hd2⟩ := id p2.isList
  simp only at hc hd hc2 hd2
  subst hc hd hc2 hd2
  have e : vs.toArray ++ ws.toArray = (vs ++ ws).toArray := by simp
  refine concat_meets ⟨_, ho, rfl⟩ ⟨_, ho2, rfl⟩ noFill_list_add seq_list_add PySem.F.slot_list_add PySem.F.entry_list_add (PySem.F.args_list_add_2 _ _) (list_addW l b vs.toArray ws.toArray n n2 dd dd2 sl sl2 (by rw [List.size_toArray, List.size_toArray, ← r1.length, ← r2.length]; exact hz)) ⟨ho, ho2, ?_⟩
  rw [e]
  exact ⟨.ref _, _, I.lnew (t' := s.toks) (r1.append r2) (by rw [List.length_append]; exact hz), rfl, q _ I.fresh⟩
def dAdd : D → D → Option D
  | .int i, .int j => some (.int (i + j))
  | .lst xs, .lst ys => if xs.length + ys.length ≤ 16777216 then some (.lst (xs ++ ys)) else none
  | .str x, .str y => if x.length + y.length ≤ 16777216 then some (.str (x ++ y)) else none
  | _, _ => none
def rAdd (K : PySem.W.Frag) : R2 := fun x y H Q => rI0 (fun i j => .int (i + j)) x y H Q ∨ rCatS K x y H Q ∨ ∃ i j, x = .str i ∧ y = .str j ∧ i.length + j.length ≤ sizeLine ∧ Q (.str (i ++ j)) H
theorem op_addX : OpR X (binaryOp .Add) (rAdd X.K) := op_add.or (op_catS.or op_add_str)
theorem op2_add : Op2 rN X (rAdd X.K) dAdd := by
  intro ns ms B gs ρ p σ H v w x y z Q A vx vy e q
  cases x with
  | int i =>
    cases y <;> try (cases e; done)
    cases e
    cases vw_int vx; cases vw_int vy
    exact .inl ⟨_, _, rfl, rfl, q _ gs H (Gs.Le.refl gs) A (fr_int _)⟩
  | lst xs =>
    cases y with
    | lst ys =>
      have e : (if xs.length + ys.length ≤ 16777216 then some (D.lst (xs ++ ys)) else none) = some z := e
      split at e
      · rename_i hl
        cases e
        obtain ⟨a, vs, rfl, h1, h2⟩ := vx
        obtain ⟨b, ws, rfl, h3, h4⟩ := vy
        exact .inr (.inl ⟨a, b, vs, ws, rfl, rfl, .inl h1, .inl h3, by rw [h2.length, h4.length, sizeLine_eq]; exact hl, fun l hl => q _ gs _ (Gs.Le.refl gs) (A.alloc hl) (Fresh.new A hl (h2.append h4))⟩)
      · cases e
    | _ => cases e
  | str x =>
    cases y with
    | str y =>
      have e : (if x.length + y.length ≤ 16777216 then some (D.str (x ++ y)) else none) = some z := e
      split at e
      · rename_i hl
        cases e
        cases vw_str vx; cases vw_str vy
        exact .inr (.inr ⟨_, _, rfl, rfl, by rw [sizeLine_eq]; exact hl, q _ gs H (Gs.Le.refl gs) A (fr_str _)⟩)
      · cases e
    | _ => cases e
  | _ => cases e
/-- tuples -/
def dAddT : D → D → Option D
  | .tup xs, .tup ys => if xs.length + ys.length ≤ 16777216 then some (.tup (xs ++ ys)) else none
  | _, _ => none
theorem op2_addT : Op2 rE X (rCatA X.K) dAddT := by
  intro ns ms B gs ρ p σ H v w x y z Q A vx vy e q
  cases x with
  | tup xs =>
    cases y with
    | tup ys =>
      have e : (if xs.length + ys.length ≤ 16777216 then some (D.tup (xs ++ ys)) else none) = some z := e
      split at e
      · rename_i hl
        cases e
        have vx' : Rep X.K gs v (.tup xs) := vx
        have vy' : Rep X.K gs w (.tup ys) := vy
        obtain ⟨a, vs, rfl, h1, h2⟩ := vw_tup A.sub vx
        obtain ⟨b, ws, rfl, h3, h4⟩ := vw_tup A.sub vy
        refine ⟨a, b, vs, ws, rfl, rfl, h1, h3, by rw [h2.length, h4.length, sizeLine_eq]; exact hl, fun e0 => ?_, fun _ e0 => ?_, fun _ _ l hn => ?_⟩
        · subst e0
          cases h2
          exact q _ gs H (Gs.Le.refl gs) A vy'
        · subst e0
          cases h4
          exact q _ gs H (Gs.Le.refl gs) A (by rw [List.append_nil]; exact vx')
        · obtain ⟨g2, l2, A2, r2⟩ := A.tup hn (h2.append h4)
          exact q _ g2 _ l2 A2 r2
      · cases e
    | _ => cases e
  | _ => cases e

/-! ### == -/
variable {ns : List Int} {ms : List Nat} {B : Bs} {g : Gs} {ρ : Rho} {p : Pl} {σ : L2.St} {H : Hp} {v : V} {d : D}
mutual
def toPy : D → PyData
  | .non => .none
  | .bl b => .bool b
  | .int i => .int i
  | .str x => .str x
  | .tup ds => .tuple (toPyL ds)
  | .lst ds => .list (toPyL ds)
  | .dct _ => .dict []
  | .dcu _ => .dict []
  | .pool => .dict []
  | .scr _ => .dict []
def toPyL : List D → List PyData
  | [] => []
  | d :: ds => toPy d :: toPyL ds
end
mutual
theorem Rep.dp {K : PySem.W.Frag} {g : Gs} : ∀ {d : D} {v : V}, Rep K g v d → (toPy d).canLay0 = true → Dp K g.G v (toPy d)
  | .non, _, h, _ => by cases h; exact .non
  | .bl b, _, h, _ => by cases h; exact .bl b
  | .int i, _, h, _ => by cases h; exact .int i
  | .str x, _, h, _ => by cases h; exact .str x
  | .tup ds, _, h, c => by
    cases h with
    | tup h1 h2 => exact .tup h1 (RepL.dp h2 c)
  | .lst ds, _, h, c => by
    cases h with
    | lst h1 h2 => exact .lst (.inl h1) (RepL.dp h2 c)
  | .dct kvs, _, h, c => by cases c
  | .dcu kvs, _, h, c => by cases c
  | .pool, _, h, c => by cases c
  | .scr _, _, h, c => by cases c
theorem RepL.dp {K : PySem.W.Frag} {g : Gs} : ∀ {ds : List D} {vs : List V}, RepL K g vs ds → PyData.canLayAll0 (toPyL ds) = true → DpAll K g.G vs (toPyL ds)
  | [], _, h, _ => by cases h; exact .nil
  | d :: ds, _, h, c => by
    cases h with
    | cons h1 h2 =>
      have c' : ((toPy d).canLay0 && PyData.canLayAll0 (toPyL ds)) = true := c
      rw [Bool.and_eq_true] at c'
      exact .cons (Rep.dp h1 c'.1) (RepL.dp h2 c'.2)
end
def shp (d : D) : Bool := SeqAt.shaped (toPy d)
theorem View.dp (A : Abs X.K X.N.length ns ms B g ρ p σ H) (h : View X.K g H v d) (c : shp d = true) : Dp X.K H v (toPy d) :=
  Rep.dp (h.rep A.sub) (SeqAt.canLay_of_shaped c)
def dEq (x y : D) : Option D := if (shp x && shp y) = true then some (.bl (PyData.eqv (toPy x) (toPy y))) else none
def dNe (x y : D) : Option D := if (shp x && shp y) = true then some (.bl (!PyData.eqv (toPy x) (toPy y))) else none
theorem op2_eq : Op2 rN X (rEqD X.K) dEq := by
  intro ns ms B gs ρ p σ H v w x y z Q A vx vy e q
  unfold dEq at e
  split at e
  · rename_i c
    rw [Bool.and_eq_true] at c
    cases e
    exact ⟨_, _, vx.dp A c.1, vy.dp A c.2, c.1, c.2, q _ gs H (Gs.Le.refl gs) A (fr_bl _)⟩
  · cases e
theorem op2_ne : Op2 rN X (rNeD X.K) dNe := by
  intro ns ms B gs ρ p σ H v w x y z Q A vx vy e q
  unfold dNe at e
  split at e
  · rename_i c
    rw [Bool.and_eq_true] at c
    cases e
    exact ⟨_, _, vx.dp A c.1, vy.dp A c.2, c.1, c.2, q _ gs H (Gs.Le.refl gs) A (fr_bl _)⟩
  · cases e
/-- is None -/
def dIsN : D → D → Option D
  | .non, .non => some (.bl true)
  | _, .non => some (.bl false)
  | _, _ => none
def dNotN : D → D → Option D
  | .non, .non => some (.bl false)
  | _, .non => some (.bl true)
  | _, _ => none
theorem vw_ref {K : PySem.W.Frag} (h : View K g H v d) (hd : d ≠ .non) : v ≠ .non := by
  cases d with
  | non => exact absurd rfl hd
  | lst ds => obtain ⟨a, xs, rfl, _⟩ := h; exact fun z => nomatch z
  | dct ds => obtain ⟨a, xs, rfl, _⟩ := h; exact fun z => nomatch z
  | dcu ds => obtain ⟨a, xs, rfl, _⟩ := h; exact fun z => nomatch z
  | bl b => cases h; exact fun z => nomatch z
  | int i => cases h; exact fun z => nomatch z
  | str x => cases h; exact fun z => nomatch z
  | tup ds => cases h; exact fun z => nomatch z
  | pool => cases h; exact fun z => nomatch z
  | scr is => cases h; exact fun z => nomatch z
theorem op2_isN : Op2 rN X (fun x y H Q => y = .non ∧ Q (.bl (decide (x = .non))) H) dIsN := by
  intro ns ms B gs ρ p σ H v w x y z Q A vx vy e q
  cases y <;> try (cases x <;> cases e; done)
  cases vy
  refine ⟨rfl, ?_⟩
  by_cases hx : x = .non
  · subst hx
    cases vx; cases e
    exact q _ gs H (Gs.Le.refl gs) A (fr_bl _)
  · have e' : z = .bl false := by
      cases x <;> first | exact absurd rfl hx | (cases e; rfl)
    subst e'
    rw [decide_eq_false (vw_ref vx hx)]
    exact q _ gs H (Gs.Le.refl gs) A (fr_bl _)
theorem op2_notN : Op2 rN X (fun x y H Q => y = .non ∧ Q (.bl (!decide (x = .non))) H) dNotN := by
  intro ns ms B gs ρ p σ H v w x y z Q A vx vy e q
  cases y <;> try (cases x <;> cases e; done)
  cases vy
  refine ⟨rfl, ?_⟩
  by_cases hx : x = .non
  · subst hx
    cases vx; cases e
    exact q _ gs H (Gs.Le.refl gs) A (fr_bl _)
  · have e' : z = .bl true := by
      cases x <;> first | exact absurd rfl hx | (cases e; rfl)
    subst e'
    rw [decide_eq_false (vw_ref vx hx)]
    exact q _ gs H (Gs.Le.refl gs) A (fr_bl _)

/-! ### subscripts -/
theorem RepL.atI {K : PySem.W.Frag} {vs : List V} {ds : List D} {i : Int} {z : D} (h : RepL K g vs ds) (e : L2.atI ds i = some z) : ∃ v, L2.atI vs i = some v ∧ Rep K g v z := by
  unfold L2.atI at e ⊢
  rw [h.length]
  obtain ⟨j, e1, e2⟩ := Option.bind_eq_some_iff.mp e
  obtain ⟨v, e3, r⟩ := h.get e2
  exact ⟨v, by rw [e1]; exact e3, r⟩
def dIx : D → D → Option D
  | .lst ds, .int i => L2.atI ds i
  | .tup ds, .int i => L2.atI ds i
  | .scr is, .int i => (L2.atI is i).map .int
  | .str x, .int i => if x.length ≤ 16777216 then (L2.atI x.cps.toList i).map fun c => .str ⟨#[c]⟩ else none
  | _, _ => none
theorem atI_map {α β : Type} (f : α → β) (xs : List α) (i : Int) : L2.atI (xs.map f) i = (L2.atI xs i).map f := by
  unfold L2.atI
  rw [List.length_map]
  cases ixN xs.length i with
  | none => rfl
  | some j => simp [List.getElem?_map]
theorem op2_ix : Op2 rE X (fun x y H Q => rIxL X.K x y H Q ∨ (rIxT X.K x y H Q ∨ rIxS x y H Q)) dIx := by
  intro ns ms B gs ρ p σ H v w x y z Q A vx vy e q
  cases y <;> try (cases x <;> cases e; done)
  rename_i i
  cases vw_int vy
  cases x with
  | lst ds =>
    obtain ⟨a, vs, rfl, h1, h2⟩ := vx
    obtain ⟨u, e1, r⟩ := h2.atI e
    exact .inl ⟨_, _, _, _, rfl, rfl, .inl h1, e1, q u gs H (Gs.Le.refl gs) A r⟩
  | tup ds =>
    obtain ⟨a, vs, rfl, h1, h2⟩ := vw_tup A.sub vx
    obtain ⟨u, e1, r⟩ := h2.atI e
    exact .inr (.inl ⟨_, _, _, _, rfl, rfl, h1, e1, q u gs H (Gs.Le.refl gs) A r⟩)
  | scr is =>
    have vx' : Rep X.K gs v (.scr is) := vx
    cases vx' with
    | scr h1 =>
      have e' : (L2.atI is i).map D.int = some z := e
      obtain ⟨j, e1, e2⟩ := Option.map_eq_some_iff.mp e'
      subst e2
      exact .inl ⟨_, _, _, _, rfl, rfl, A.sub.seq h1, by rw [atI_map, e1]; rfl, q _ gs H (Gs.Le.refl gs) A (.int j)⟩
  | str x =>
    cases vw_str vx
    have e : (if x.length ≤ 16777216 then (L2.atI x.cps.toList i).map fun c => D.str ⟨#[c]⟩ else none) = some z := e
    split at e
    · rename_i hl
      obtain ⟨c, e1, e2⟩ := Option.map_eq_some_iff.mp e
      subst e2
      exact .inr (.inr ⟨_, _, _, rfl, rfl, by rw [sizeLine_eq]; exact hl, e1, q _ gs H (Gs.Le.refl gs) A (.str _)⟩)
    · cases e
  | _ => cases e
theorem le_ix {m0 m1 m2 : List Nat} {a b : Expr} {f h : Rho → M D} {pos : Pos} (ha : LB X ns m0 m1 a f) (hb : LB X ns m1 m2 b h) (hs : PlainIx b := by exact fun _ _ => rfl) : LE X ns m0 m2 (.Subscript a b pos) (eOp dIx f h) :=
  pe_weak (pe_ix ix_seq ha hb hs) fun _ _ _ hw => bin_w op2_ix hw
/-- d[k] -/
def kOf : D → Option Key
  | .int i => some (.inl i)
  | .str x => some (.inr x)
  | _ => none
def kOfs : List D → Option (List Key)
  | [] => some []
  | d :: ds => match kOf d, kOfs ds with
    | some k, some ks => some (k :: ks)
    | _, _ => none
theorem kOf_some {d : D} {k : Key} (h : kOf d = some k) : d = kD k := by
  cases d <;> try (cases h; done)
  all_goals (cases h; rfl)
theorem kOfs_some : ∀ {ds : List D} {ks : List Key}, kOfs ds = some ks → ds = ks.map kD
  | [], _, h => by cases h; rfl
  | d :: ds, ks, h => by
    unfold kOfs at h
    cases e1 : kOf d with
    | none => rw [e1] at h; cases h
    | some k =>
      cases e2 : kOfs ds with
      | none => rw [e1, e2] at h; cases h
      | some ks' =>
        rw [e1, e2] at h
        cases h
        rw [kOf_some e1, kOfs_some e2]; rfl
end
end Lf

/-! Lift4: subscripts, slices, in, built-ins, stores, comprehensions, what loops walk. -/
namespace Lf
open PySem PySem.Spec PyProof.Rows L2

section
variable {X : Cx} {ns : List Int} {ms m0 m1 m2 m3 ml : List Nat} {B : Bs} {g : Gs} {ρ : Rho} {p : Pl} {σ : L2.St} {H : Hp} {v : V} {d : D} {a b c e : Expr} {es : List Expr} {f h k : Rho → M D} {fs : Rho → M (List D)} {tf : Rho → M Bool} {pos px : Pos} {x : Str}

/-! ### dicts read -/
def dGet {κ : Type} [DecidableEq κ] : List (κ × D) → κ → Option D
  | [], _ => none
  | (k, d) :: r, q => if k = q then some d else dGet r q
def dPut {κ : Type} [DecidableEq κ] (kvs : List (κ × D)) (k : κ) (d : D) : List (κ × D) :=
  if (kvs.any fun kv => decide (kv.1 = k)) = true then kvs.map (fun kv => if kv.1 = k then (kv.1, d) else kv) else kvs ++ [(k, d)]
theorem RepK.get {K : PySem.W.Frag} {q : Key} : ∀ {kvs : List (Key × D)} {es : List (Key × V)}, RepK K g es kvs → (∀ d, dGet kvs q = some d → ∃ v, valV es q = some v ∧ Rep K g v d) ∧ (dGet kvs q = none → valV es q = none)
  | [], _, h => by cases h; exact ⟨fun _ e => (by cases e), fun _ => rfl⟩
  | (k, d) :: r, _, h => by
    cases h with
    | cons h1 h2 =>
      by_cases hk : k = q
      · subst hk
        refine ⟨fun d' e => ?_, fun e => ?_⟩
        · unfold dGet at e; rw [if_pos rfl] at e; cases e
          exact ⟨_, valV_pos rfl, h1⟩
        · unfold dGet at e; rw [if_pos rfl] at e; cases e
      · obtain ⟨i1, i2⟩ := RepK.get (q := q) h2
        refine ⟨fun d' e => ?_, fun e => ?_⟩
        · unfold dGet at e; rw [if_neg hk] at e
          obtain ⟨v, e1, r1⟩ := i1 d' e
          exact ⟨v, by rw [valV_neg (by exact hk)]; exact e1, r1⟩
        · unfold dGet at e; rw [if_neg hk] at e
          rw [valV_neg (by exact hk)]; exact i2 e
theorem RepK.keys {K : PySem.W.Frag} : ∀ {kvs : List (Key × D)} {es : List (Key × V)}, RepK K g es kvs → es.map (·.1) = kvs.map (·.1)
  | [], _, h => by cases h; rfl
  | (k, d) :: r, _, h => by
    cases h with
    | cons h1 h2 => simp only [List.map_cons, RepK.keys h2]
theorem RepK.append {K : PySem.W.Frag} : ∀ {kvs kvs' : List (Key × D)} {es es' : List (Key × V)}, RepK K g es kvs → RepK K g es' kvs' → RepK K g (es ++ es') (kvs ++ kvs')
  | [], _, _, _, h, h' => by cases h; exact h'
  | (k, d) :: r, _, _, _, h, h' => by
    cases h with
    | cons h1 h2 => exact .cons h1 (RepK.append h2 h')
theorem RepK.any {K : PySem.W.Frag} {q : Key} {kvs : List (Key × D)} {es : List (Key × V)} (h : RepK K g es kvs) : (es.any fun kv => decide (kv.1 = q)) = (kvs.any fun kv => decide (kv.1 = q)) := by
  have e := h.keys
  have : ∀ {α : Type} (l : List (Key × α)), (l.any fun kv => decide (kv.1 = q)) = ((l.map (·.1)).any fun k => decide (k = q)) := fun l => by rw [List.any_map]; rfl
  rw [this, this, e]
theorem RepK.length {K : PySem.W.Frag} {kvs : List (Key × D)} {es : List (Key × V)} (h : RepK K g es kvs) : es.length = kvs.length := by
  have := congrArg List.length h.keys
  simpa using this
theorem RepK.mapPut {K : PySem.W.Frag} {q : Key} (r : Rep K g v d) : ∀ {kvs : List (Key × D)} {es : List (Key × V)}, RepK K g es kvs → RepK K g (es.map fun kv => if kv.1 = q then (kv.1, v) else kv) (kvs.map fun kv => if kv.1 = q then (kv.1, d) else kv)
  | [], _, h => by cases h; exact .nil
  | (k, d') :: kvs, _, h => by
    cases h with
    | cons h1 h2 =>
      simp only [List.map_cons]
      by_cases hk : k = q
      · subst hk
        rw [if_pos rfl, if_pos rfl]
        exact .cons r (RepK.mapPut r h2)
      · rw [if_neg hk, if_neg hk]
        exact .cons h1 (RepK.mapPut r h2)
theorem RepK.put {K : PySem.W.Frag} {q : Key} (r : Rep K g v d) {kvs : List (Key × D)} {es : List (Key × V)} (h : RepK K g es kvs) : RepK K g (putK es q v) (dPut kvs q d) := by
  unfold putK dPut
  rw [h.any]
  split
  · exact h.mapPut r
  · exact h.append (.cons r .nil)

/-! ### d[k] -/
def rIxD : R2 := fun x y H Q => ∃ a v, x = .ref a ∧ DGet H a y (some v) ∧ Q v H
theorem ix_dict (hu : X.A.units + 1 < cLine) : IxR X rIxD := by
  intro value slice pins s σ H x y v u Q I rx ry h hs
  obtain ⟨a, z, rfl, gt, q⟩ := h
  obtain rfl : v = Value.ref a := rx
  unfold subscriptTail
  have hT := dict_typeIs I gt
  refine wpAny_bind ?_
  rw [getitemInPython_of_ne hT.not_modules]
  refine wpAny_bind (wpAny_specialOf hT PySem.F.slot_dict_getitem.lookup ?_)
  have fin : wpAny (model X.prog X.w) X.A (subscripted slice false (.ref a) u) (fun r s₃ => wpAny (model X.prog X.w) X.A (letTemporaryGo value (.ref a) r >>= fun _ => pure r) (EP X pins σ Q) X.xe s₃) X.xe s := by
    rw [hs]
    exact wpAny_operating (d_getItem hu I gt ry fun w' s3 I3 rw' => wpAny_bind (wpAny_letTemporaryGo (wpAny_pure ⟨z, H, I3, rw', q⟩)))
  first
    | exact wpAny_pure (wpAny_bind fin)
    | exact wpAny_bind (wpAny_pure (wpAny_bind fin))
    | exact wpAny_bind fin
def dIxA : D → D → Option D
  | .lst ds, .int i => L2.atI ds i
  | .tup ds, .int i => L2.atI ds i
  | .scr is, .int i => (L2.atI is i).map .int
  | .str x, .int i => if x.length ≤ 16777216 then (L2.atI x.cps.toList i).map fun c => .str ⟨#[c]⟩ else none
  | .dct kvs, .int i => dGet kvs (.inl i)
  | .dct kvs, .str y => dGet kvs (.inr y)
  | _, _ => none
theorem op2_ixA : Op2 rE X (fun x y H Q => rIxD x y H Q ∨ (rIxL X.K x y H Q ∨ (rIxT X.K x y H Q ∨ rIxS x y H Q))) dIxA := by
  intro ns ms B gs ρ p σ H v w x y z Q A vx vy e q
  cases x with
  | dct kvs =>
    obtain ⟨a, es, rfl, h1, h2⟩ := vx
    cases y with
    | int i =>
      cases vw_int vy
      obtain ⟨u, e1, r⟩ := h2.get.1 z e
      exact .inl ⟨a, u, rfl, .inl ⟨es, .inl i, h1, rfl, e1.symm⟩, q u gs H (Gs.Le.refl gs) A r⟩
    | str y =>
      cases vw_str vy
      obtain ⟨u, e1, r⟩ := h2.get.1 z e
      exact .inl ⟨a, u, rfl, .inl ⟨es, .inr y, h1, rfl, e1.symm⟩, q u gs H (Gs.Le.refl gs) A r⟩
    | _ => cases e
  | lst ds => exact .inr (op2_ix A vx vy (x := .lst ds) (y := y) (by cases y <;> first | exact e | cases e) q)
  | scr ds => exact .inr (op2_ix A vx vy (x := .scr ds) (y := y) (by cases y <;> first | exact e | cases e) q)
  | tup ds => exact .inr (op2_ix A vx vy (x := .tup ds) (y := y) (by cases y <;> first | exact e | cases e) q)
  | str s => exact .inr (op2_ix A vx vy (x := .str s) (y := y) (by cases y <;> first | exact e | cases e) q)
  | _ => cases e
theorem le_ixA (hu : X.A.units + 64 < cLine) (ha : LB X ns m0 m1 a f) (hb : LB X ns m1 m2 b h) (hs : PlainIx b := by exact fun _ _ => rfl) : LE X ns m0 m2 (.Subscript a b pos) (eOp dIxA f h) :=
  pe_weak (pe_ix ((ix_dict (by omega)).or ix_seq) ha hb hs) fun _ _ _ hw => bin_w op2_ixA hw

/-! ### in -/
def rDIn : R2 := fun y x H Q => ∃ a o, x = .ref a ∧ DGet H a y o ∧ Q (.bl o.isSome) H
def rDNotIn : R2 := fun y x H Q => ∃ a o, x = .ref a ∧ DGet H a y o ∧ Q (.bl (!o.isSome)) H
theorem op_din (hu : X.A.units + 1 < cLine) : OpR X (compareOp .In) rDIn := by
  intro pins s σ H x y v u Q I rx ry h
  obtain ⟨a, o, rfl, gt, q⟩ := h
  obtain rfl : u = Value.ref a := ry
  exact d_in hu I gt rx fun s3 I3 => ⟨.bl o.isSome, H, I3, rfl, q⟩
theorem op_dnotin (hu : X.A.units + 1 < cLine) : OpR X (compareOp .NotIn) rDNotIn := by
  intro pins s σ H x y v u Q I rx ry h
  obtain ⟨a, o, rfl, gt, q⟩ := h
  obtain rfl : u = Value.ref a := ry
  exact d_notIn hu I gt rx fun s3 I3 => ⟨.bl (!o.isSome), H, I3, rfl, q⟩
def inB : D → D → Option Bool
  | d, .lst ds => if (shp d && shp (.lst ds)) = true then some ((toPyL ds).any fun z => PyData.eqv z (toPy d)) else none
  | .int i, .dct kvs => some (dGet kvs (.inl i)).isSome
  | .str y, .dct kvs => some (dGet kvs (.inr y)).isSome
  | _, _ => none
def dIn (x y : D) : Option D := (inB x y).map fun b => .bl b
def dNotIn (x y : D) : Option D := (inB x y).map fun b => .bl (!b)
theorem getIs {K : PySem.W.Frag} {kvs : List (Key × D)} {es : List (Key × V)} (h : RepK K g es kvs) (q : Key) : (valV es q).isSome = (dGet kvs q).isSome := by
  cases e : dGet kvs q with
  | none => rw [h.get.2 e]; rfl
  | some d => obtain ⟨v, e1, _⟩ := h.get.1 d e; rw [e1]; rfl
theorem op2_in : Op2 rN X (fun x y H Q => rInD X.K x y H Q ∨ rDIn x y H Q) dIn := by
  intro ns ms B gs ρ p σ H v w x y z Q A vx vy e q
  obtain ⟨t, e1, e2⟩ := Option.map_eq_some_iff.mp e
  subst e2
  have fin : ∀ {x : Key}, (∃ kvs, y = .dct kvs ∧ some (dGet kvs x).isSome = some t ∧ v = kV x) → rDIn v w H Q := fun {x} ⟨kvs, ey, et, ev⟩ => by
    subst ey
    obtain ⟨a, es, rfl, h1, h2⟩ := vy
    refine ⟨a, valV es x, rfl, .inl ⟨es, x, h1, ev, rfl⟩, ?_⟩
    rw [getIs h2 x, Option.some.inj et]
    exact q _ gs H (Gs.Le.refl gs) A (fr_bl _)
  cases y with
  | lst ds =>
    have e1 : (if (shp x && shp (.lst ds)) = true then some ((toPyL ds).any fun z => PyData.eqv z (toPy x)) else none) = some t := by cases x <;> exact e1
    split at e1
    · rename_i c
      rw [Bool.and_eq_true] at c
      cases e1
      exact .inl ⟨_, _, vx.dp A c.1, vy.dp A c.2, c.1, c.2, q _ gs H (Gs.Le.refl gs) A (fr_bl _)⟩
    · cases e1
  | dct kvs =>
    cases x with
    | int i => exact .inr (fin (x := .inl i) ⟨kvs, rfl, e1, vw_int vx⟩)
    | str i => exact .inr (fin (x := .inr i) ⟨kvs, rfl, e1, vw_str vx⟩)
    | _ => cases e1
  | _ => cases x <;> cases e1
theorem op2_notIn : Op2 rN X (fun x y H Q => rNotInD X.K x y H Q ∨ rDNotIn x y H Q) dNotIn := by
  intro ns ms B gs ρ p σ H v w x y z Q A vx vy e q
  obtain ⟨t, e1, e2⟩ := Option.map_eq_some_iff.mp e
  subst e2
  have fin : ∀ {x : Key}, (∃ kvs, y = .dct kvs ∧ some (dGet kvs x).isSome = some t ∧ v = kV x) → rDNotIn v w H Q := fun {x} ⟨kvs, ey, et, ev⟩ => by
    subst ey
    obtain ⟨a, es, rfl, h1, h2⟩ := vy
    refine ⟨a, valV es x, rfl, .inl ⟨es, x, h1, ev, rfl⟩, ?_⟩
    rw [getIs h2 x, Option.some.inj et]
    exact q _ gs H (Gs.Le.refl gs) A (fr_bl _)
  cases y with
  | lst ds =>
    have e1 : (if (shp x && shp (.lst ds)) = true then some ((toPyL ds).any fun z => PyData.eqv z (toPy x)) else none) = some t := by cases x <;> exact e1
    split at e1
    · rename_i c
      rw [Bool.and_eq_true] at c
      cases e1
      exact .inl ⟨_, _, vx.dp A c.1, vy.dp A c.2, c.1, c.2, q _ gs H (Gs.Le.refl gs) A (fr_bl _)⟩
    · cases e1
  | dct kvs =>
    cases x with
    | int i => exact .inr (fin (x := .inl i) ⟨kvs, rfl, e1, vw_int vx⟩)
    | str i => exact .inr (fin (x := .inr i) ⟨kvs, rfl, e1, vw_str vx⟩)
    | _ => cases e1
  | _ => cases x <;> cases e1

/-! ### slices -/
def cutD (xs : List D) (lo hi : Option Int) : List D := (xs.drop (HT.sIx xs.length 0 lo)).take (HT.sIx xs.length xs.length hi - HT.sIx xs.length 0 lo)
theorem RepL.cut {K : PySem.W.Frag} {vs : List V} {ds : List D} (h : RepL K g vs ds) (lo hi : Option Int) : RepL K g (cutV vs lo hi) (cutD ds lo hi) := by
  unfold cutV cutD
  rw [h.length]
  exact (h.drop _).take _
def lO (K : PySem.W.Frag) (n : Nat) (ns : List Int) (ms ms' : List Nat) (f : Rho → M (Option Int)) : TO := fun σ H Q =>
  ∃ B g ρ p d p', Abs K n ns ms B g ρ p σ H ∧ f ρ p = some (d, p') ∧ ∀ g' H', g.Le g' → Abs K n ns ms' B g' ρ p' σ H' → Q d H'
def LPO (X : Cx) (ns : List Int) (ms ms' : List Nat) (e : Option Expr) (f : Rho → M (Option Int)) : Prop := PO X e (lO X.K X.N.length ns ms ms' f)
def oNone : Rho → M (Option Int) := fun _ => M.pure none
def oSome (f : Rho → M D) : Rho → M (Option Int) := fun ρ => (f ρ).bind fun d => match d with
  | .int i => M.pure (some i)
  | _ => M.fail
theorem po_weak {e : Option Expr} {t t' : TO} (h : PO X e t) (w : ∀ σ H Q, t' σ H Q → t σ H Q) : PO X e t' := ⟨fun pins s σ H Q I q => h.run pins s σ H Q I (w σ H Q q)⟩
theorem lpo_none : LPO X ns ms ms none oNone := po_weak po_none fun σ H Q ⟨B, g, ρ, p, d, p', A, hf, q⟩ => by
  obtain ⟨e1, e2⟩ := M.pure_some hf
  subst e1; subst e2
  exact q g H (Gs.Le.refl g) A
theorem lpo_some (ha : LB X ns m0 m1 e f) : LPO X ns m0 m1 (some e) (oSome f) := po_weak (po_some ha) fun σ H Q ⟨B, g, ρ, p, d, p', A, hf, q⟩ => by
  obtain ⟨y, p1, e1, hf⟩ := M.bind_some hf
  cases y <;> try (cases hf; done)
  obtain ⟨e2, e3⟩ := M.pure_some hf
  subst e2; subst e3
  exact ⟨B, g, ρ, p, _, _, A, e1, fun g1 v H1 l1 A1 r1 => ⟨_, vw_int (Held.view A1 r1), q g1 H1 l1 A1⟩⟩
def eSl (f : Rho → M D) (lo hi : Rho → M (Option Int)) : Rho → M D := fun ρ => (f ρ).bind fun d => (lo ρ).bind fun l => (hi ρ).bind fun u => match d with
  | .lst ds => M.pure (.lst (cutD ds l u))
  | _ => M.fail
theorem ln_slice {lo hi : Option Expr} {fl fh : Rho → M (Option Int)} {p2 : Pos} (ha : LB X ns m0 m1 a f) (hl : LPO X ns m1 m2 lo fl) (hh : LPO X ns m2 m3 hi fh) : LN X ns m0 m3 (.Subscript a (.Slice lo hi none p2) pos) (eSl f fl fh) :=
  pe_weak (pe_slice sl_list ha hl hh) fun σ H Q ⟨B, g, ρ, p, d, p', A, hf, q⟩ => by
    obtain ⟨y, p1, e1, hf⟩ := M.bind_some hf
    obtain ⟨l, p2, e2, hf⟩ := M.bind_some hf
    obtain ⟨u, p3, e3, hf⟩ := M.bind_some hf
    cases y <;> try (cases hf; done)
    obtain ⟨e4, e5⟩ := M.pure_some hf
    subst e4; subst e5
    refine ⟨B, g, ρ, p, _, p1, A, e1, fun g1 v H1 l1 A1 r1 => ⟨B, g1, ρ, p1, l, p2, A1, e2, fun g2 H2 l2 A2 => ⟨B, g2, ρ, p2, u, _, A2, e3, fun g3 H3 l3 A3 => ?_⟩⟩⟩
    obtain ⟨x, xs, rfl, h1, h2⟩ := (Held.mono (l2.trans l3) r1).view A3
    exact ⟨x, xs, rfl, .inl h1, fun t ht => q g3 _ _ ((l1.trans l2).trans l3) (A3.alloc ht) (Fresh.new A3 ht (h2.cut l u))⟩
/-- a slice of a tuple -/
def eSlT (f : Rho → M D) (lo hi : Rho → M (Option Int)) : Rho → M D := fun ρ => (f ρ).bind fun d => (lo ρ).bind fun l => (hi ρ).bind fun u => match d with
  | .tup ds => M.pure (.tup (cutD ds l u))
  | _ => M.fail
theorem cut_whole {α : Type} {xs : List α} {l u : Nat} (h : l = 0 ∧ u = xs.length) : (xs.drop l).take (u - l) = xs := by
  obtain ⟨rfl, rfl⟩ := h
  simp
theorem le_sliceT {lo hi : Option Expr} {fl fh : Rho → M (Option Int)} {p2 : Pos} (ha : LB X ns m0 m1 a f) (hl : LPO X ns m1 m2 lo fl) (hh : LPO X ns m2 m3 hi fh) : LE X ns m0 m3 (.Subscript a (.Slice lo hi none p2) pos) (eSlT f fl fh) :=
  pe_weak (pe_slice sl_tupA ha hl hh) fun σ H Q ⟨B, g, ρ, p, d, p', A, hf, q⟩ => by
    obtain ⟨y, p1, e1, hf⟩ := M.bind_some hf
    obtain ⟨l, p2, e2, hf⟩ := M.bind_some hf
    obtain ⟨u, p3, e3, hf⟩ := M.bind_some hf
    cases y <;> try (cases hf; done)
    obtain ⟨e4, e5⟩ := M.pure_some hf
    subst e4; subst e5
    refine ⟨B, g, ρ, p, _, p1, A, e1, fun g1 v H1 l1 A1 r1 => ⟨B, g1, ρ, p1, l, p2, A1, e2, fun g2 H2 l2 A2 => ⟨B, g2, ρ, p2, u, _, A2, e3, fun g3 H3 l3 A3 => ?_⟩⟩⟩
    have rv := (Held.mono (l2.trans l3) r1).view A3
    have rr : Rep X.K g3 v (.tup _) := rv
    obtain ⟨x, xs, rfl, h1, h2⟩ := vw_tup A3.sub rv
    refine ⟨x, xs, rfl, h1, fun w => ?_, fun w t ht => ?_⟩
    · refine q g3 _ _ ((l1.trans l2).trans l3) A3 ?_
      have : cutD _ l u = _ := cut_whole (by rw [h2.length] at w; exact w)
      rw [this]
      exact rr
    · obtain ⟨g4, l4, A4, r4⟩ := A3.tup ht (h2.cut l u)
      exact q g4 _ _ (((l1.trans l2).trans l3).trans l4) A4 r4

/-! ### built-ins -/
theorem vl1 {K : PySem.W.Frag} {vs : List V} {d : D} (h : ViewL K g H vs [d]) : ∃ v, vs = [v] ∧ View K g H v d := by
  cases h with
  | cons h1 h2 => cases h2; exact ⟨_, rfl, h1⟩
theorem vl2 {K : PySem.W.Frag} {vs : List V} {d d' : D} (h : ViewL K g H vs [d, d']) : ∃ v v', vs = [v, v'] ∧ View K g H v d ∧ View K g H v' d' := by
  cases h with
  | cons h1 h2 =>
    obtain ⟨v', rfl, h3⟩ := vl1 h2
    exact ⟨_, _, rfl, h1, h3⟩
def dLen : List D → Option D
  | [.lst ds] => some (.int ds.length)
  | [.tup ds] => some (.int ds.length)
  | [.scr ds] => some (.int ds.length)
  | [.dct kvs] => some (.int kvs.length)
  | [.str x] => if x.length ≤ 16777216 then some (.int x.length) else none
  | _ => none
def rLenX (X : Cx) : List V → Hp → VK → Prop := fun xs H Q => (∃ p ys, xs = [.ref p] ∧ (SqL X.K H p ys ∨ SqT X.K H p ys) ∧ Q (.int ys.length) H) ∨ ((∃ z, xs = [.str z] ∧ z.length ≤ sizeLine ∧ Q (.int z.length) H) ∨ ∃ d kvs, xs = [.ref d] ∧ Rd H d (.dK kvs) ∧ Q (.int kvs.length) H)
theorem call_lenRd : CallR X (.builtin "len") (fun xs H Q => ∃ d kvs, xs = [.ref d] ∧ Rd H d (.dK kvs) ∧ Q (.int kvs.length) H) := by
  intro pins s σ H xs us Q I r h
  obtain ⟨p, kvs, rfl, hx, q⟩ := h
  obtain ⟨u, rfl, ru⟩ := vals1 r
  cases ru
  exact d_len I hx fun t s' I' => ⟨.int kvs.length, H, I', ⟨t, rfl⟩, q⟩
theorem call_lenX : CallR X (.builtin "len") (rLenX X) := call_len_seq.or (call_len_str.or call_lenRd)
theorem opn_len : OpN rN X (rLenX X) dLen := by
  intro ns ms B gs ρ p σ H vs xs z Q A vx e q
  match xs, e, vx with
  | [.lst ds], e, vx =>
    obtain ⟨v, rfl, h⟩ := vl1 vx
    obtain ⟨a, ys, rfl, h1, h2⟩ := h
    cases e
    refine .inl ⟨a, ys, rfl, .inl (.inl h1), ?_⟩
    rw [h2.length]
    exact q _ gs H (Gs.Le.refl gs) A (fr_int _)
  | [.scr is], e, vx =>
    obtain ⟨v, rfl, h⟩ := vl1 vx
    have h' : Rep X.K gs v (.scr is) := h
    cases h' with
    | scr h1 =>
      cases e
      refine .inl ⟨_, _, rfl, .inl (A.sub.seq h1), ?_⟩
      rw [List.length_map]
      exact q _ gs H (Gs.Le.refl gs) A (fr_int _)
  | [.tup ds], e, vx =>
    obtain ⟨v, rfl, h⟩ := vl1 vx
    obtain ⟨a, ys, rfl, h1, h2⟩ := vw_tup A.sub h
    cases e
    refine .inl ⟨a, ys, rfl, .inr h1, ?_⟩
    rw [h2.length]
    exact q _ gs H (Gs.Le.refl gs) A (fr_int _)
  | [.dct kvs], e, vx =>
    obtain ⟨v, rfl, h⟩ := vl1 vx
    obtain ⟨a, ys, rfl, h1, h2⟩ := h
    cases e
    refine .inr (.inr ⟨a, ys, rfl, h1, ?_⟩)
    rw [h2.length]
    exact q _ gs H (Gs.Le.refl gs) A (fr_int _)
  | [.str x], e, vx =>
    obtain ⟨v, rfl, h⟩ := vl1 vx
    cases vw_str h
    have e : (if x.length ≤ 16777216 then some (D.int x.length) else none) = some z := e
    split at e
    · rename_i hl
      cases e
      exact .inr (.inl ⟨_, rfl, by rw [sizeLine_eq]; exact hl, q _ gs H (Gs.Le.refl gs) A (fr_int _)⟩)
    · cases e
  | [], e, _ | [.non], e, _ | [.bl _], e, _ | [.int _], e, _ | [.dcu _], e, _ | [.pool], e, _ => cases e
  | a :: b :: c, e, _ => exact absurd e (by cases a <;> simp [dLen])
end
end Lf

/-! Lift5: more built-ins, stores, comprehensions, what loops walk. -/
namespace Lf
open PySem PySem.Spec PyProof.Rows L2

section
variable {X : Cx} {ns : List Int} {ms m0 m1 m2 m3 ml : List Nat} {B : Bs} {g : Gs} {ρ : Rho} {p : Pl} {σ : L2.St} {H : Hp} {v : V} {d : D} {a b c e : Expr} {es : List Expr} {f h k : Rho → M D} {fs : Rho → M (List D)} {tf : Rho → M Bool} {pos px : Pos} {x : Str}

/-! ### lists of ints, of bools -/
def asInts : List D → Option (List Int)
  | [] => some []
  | .int i :: r => (asInts r).map (i :: ·)
  | _ => none
theorem asInts_some : ∀ {ds : List D} {is : List Int}, asInts ds = some is → ds = is.map D.int
  | [], _, h => by cases h; rfl
  | d :: r, is, h => by
    cases d <;> try (cases h; done)
    have h' : (asInts r).map (_ :: ·) = some is := h
    obtain ⟨is', e1, e2⟩ := Option.map_eq_some_iff.mp h'
    subst e2
    rw [asInts_some e1]; rfl
@[simp] theorem asInts_map : ∀ (is : List Int), asInts (is.map D.int) = some is
  | [] => rfl
  | i :: is => by
    show (asInts (is.map D.int)).map (i :: ·) = some (i :: is)
    rw [asInts_map is]; rfl
def asBools : List D → Option (List Bool)
  | [] => some []
  | .bl i :: r => (asBools r).map (i :: ·)
  | _ => none
theorem asBools_some : ∀ {ds : List D} {is : List Bool}, asBools ds = some is → ds = is.map D.bl
  | [], _, h => by cases h; rfl
  | d :: r, is, h => by
    cases d <;> try (cases h; done)
    have h' : (asBools r).map (_ :: ·) = some is := h
    obtain ⟨is', e1, e2⟩ := Option.map_eq_some_iff.mp h'
    subst e2
    rw [asBools_some e1]; rfl
@[simp] theorem asBools_map : ∀ (is : List Bool), asBools (is.map D.bl) = some is
  | [] => rfl
  | i :: is => by
    show (asBools (is.map D.bl)).map (i :: ·) = some (i :: is)
    rw [asBools_map is]; rfl
theorem RepL.bools_of {K : PySem.W.Frag} : ∀ {ns : List Bool} {vs : List V}, RepL K g vs (ns.map D.bl) → vs = ns.map V.bl
  | [], _, h => by cases h; rfl
  | n :: ns, _, h => by
    cases h with
    | cons h1 h2 =>
      cases h1
      rw [RepL.bools_of h2]; rfl
def box1 (f : List D → Option D) : List D → Option D
  | [.lst ds] => f ds
  | _ => none
/-- a call of one list of ints -/
theorem opn_ints {R : RF} {r : List V → Hp → VK → Prop} {f : List Int → Option D}
    (hr : ∀ {ms : List Nat} {B : Bs} {g : Gs} {ρ : Rho} {p : Pl} {σ : L2.St} {H : Hp} {Q : VK} {a : Addr} {is : List Int} {z : D}, Abs X.K X.N.length ns ms B g ρ p σ H → f is = some z → Rd H a (.lst (is.map V.int)) →
      (∀ u g' H', g.Le g' → Abs X.K X.N.length ns ms B g' ρ p σ H' → R X.K ms g' B ρ σ H' u z → Q u H') → r [.ref a] H Q) :
    ∀ {ms : List Nat} {B : Bs} {g : Gs} {ρ : Rho} {p : Pl} {σ : L2.St} {H : Hp} {vs : List V} {xs : List D} {z : D} {Q : VK},
      Abs X.K X.N.length ns ms B g ρ p σ H → ViewL X.K g H vs xs → box1 (fun ds => (asInts ds).bind f) xs = some z → (∀ u g' H', g.Le g' → Abs X.K X.N.length ns ms B g' ρ p σ H' → R X.K ms g' B ρ σ H' u z → Q u H') → r vs H Q := by
  intro ms B g ρ p σ H vs xs z Q A vx e q
  match xs, e, vx with
  | [.lst ds], e, vx =>
    obtain ⟨v, rfl, h⟩ := vl1 vx
    obtain ⟨a, ys, rfl, h1, h2⟩ := h
    have e' : (asInts ds).bind f = some z := e
    obtain ⟨is, e1, e2⟩ := Option.bind_eq_some_iff.mp e'
    have := asInts_some e1
    subst this
    have := h2.ints_of
    subst this
    exact hr A e2 h1 q
  | [], e, _ | [.non], e, _ | [.bl _], e, _ | [.int _], e, _ | [.str _], e, _ | [.tup _], e, _ | [.dct _], e, _ | [.dcu _], e, _ | [.pool], e, _ | [.scr _], e, _ => cases e
  | a :: b :: c, e, _ => exact absurd e (by cases a <;> simp [box1])
def dSum : List D → Option D := box1 fun ds => (asInts ds).bind fun is => some (.int is.sum)
theorem opn_sum : OpN rN X (rSum X.K) dSum := by
  intro ns
  refine opn_ints fun {ms B g ρ p σ H Q a is z} A e hs q => ?_
  cases e
  exact ⟨a, is, rfl, .inl hs, q _ g H (Gs.Le.refl g) A (fr_int _)⟩
def maxL : List Int → Option Int
  | [] => none
  | x :: xs => some (xs.foldl (fun m y => if y > m then y else m) x)
def minL : List Int → Option Int
  | [] => none
  | x :: xs => some (xs.foldl (fun m y => if y < m then y else m) x)
theorem maxL_go : ∀ (xs : List Int) (x : Int), (xs.foldl (fun m y => if y > m then y else m) x = x ∨ xs.foldl (fun m y => if y > m then y else m) x ∈ xs) ∧ x ≤ xs.foldl (fun m y => if y > m then y else m) x ∧ ∀ y ∈ xs, y ≤ xs.foldl (fun m y => if y > m then y else m) x
  | [], x => ⟨.inl rfl, Int.le_refl _, fun _ h => (by cases h)⟩
  | z :: xs, x => by
    obtain ⟨h1, h2, h3⟩ := maxL_go xs (if z > x then z else x)
    rw [List.foldl_cons]
    refine ⟨?_, ?_, fun y hy => ?_⟩
    · rcases h1 with h1 | h1
      · by_cases hz : z > x
        · rw [if_pos hz] at h1 ⊢; exact .inr (by rw [h1]; exact List.mem_cons_self)
        · rw [if_neg hz] at h1 ⊢; exact .inl h1
      · exact .inr (List.mem_cons_of_mem _ h1)
    · refine Int.le_trans ?_ h2; split <;> omega
    · rcases List.mem_cons.mp hy with rfl | hy
      · refine Int.le_trans ?_ h2; split <;> omega
      · exact h3 y hy
theorem minL_go : ∀ (xs : List Int) (x : Int), (xs.foldl (fun m y => if y < m then y else m) x = x ∨ xs.foldl (fun m y => if y < m then y else m) x ∈ xs) ∧ xs.foldl (fun m y => if y < m then y else m) x ≤ x ∧ ∀ y ∈ xs, xs.foldl (fun m y => if y < m then y else m) x ≤ y
  | [], x => ⟨.inl rfl, Int.le_refl _, fun _ h => (by cases h)⟩
  | z :: xs, x => by
    obtain ⟨h1, h2, h3⟩ := minL_go xs (if z < x then z else x)
    rw [List.foldl_cons]
    refine ⟨?_, ?_, fun y hy => ?_⟩
    · rcases h1 with h1 | h1
      · by_cases hz : z < x
        · rw [if_pos hz] at h1 ⊢; exact .inr (by rw [h1]; exact List.mem_cons_self)
        · rw [if_neg hz] at h1 ⊢; exact .inl h1
      · exact .inr (List.mem_cons_of_mem _ h1)
    · refine Int.le_trans h2 ?_; split <;> omega
    · rcases List.mem_cons.mp hy with rfl | hy
      · refine Int.le_trans h2 ?_; split <;> omega
      · exact h3 y hy
theorem maxL_some {is : List Int} {m : Int} (h : maxL is = some m) : m ∈ is ∧ ∀ y ∈ is, y ≤ m := by
  cases is with
  | nil => cases h
  | cons x xs =>
    cases h
    obtain ⟨h1, h2, h3⟩ := maxL_go xs x
    refine ⟨?_, fun y hy => ?_⟩
    · rcases h1 with h1 | h1
      · rw [h1]; exact List.mem_cons_self
      · exact List.mem_cons_of_mem _ h1
    · rcases List.mem_cons.mp hy with rfl | hy
      · exact h2
      · exact h3 y hy
theorem minL_some {is : List Int} {m : Int} (h : minL is = some m) : m ∈ is ∧ ∀ y ∈ is, m ≤ y := by
  cases is with
  | nil => cases h
  | cons x xs =>
    cases h
    obtain ⟨h1, h2, h3⟩ := minL_go xs x
    refine ⟨?_, fun y hy => ?_⟩
    · rcases h1 with h1 | h1
      · rw [h1]; exact List.mem_cons_self
      · exact List.mem_cons_of_mem _ h1
    · rcases List.mem_cons.mp hy with rfl | hy
      · exact h2
      · exact h3 y hy
def dMaxL : List D → Option D := box1 fun ds => (asInts ds).bind fun is => (maxL is).map .int
def dMinL : List D → Option D := box1 fun ds => (asInts ds).bind fun is => (minL is).map .int
theorem opn_maxL : OpN rN X (rMax X.K) dMaxL := by
  intro ns
  refine opn_ints fun {ms B g ρ p σ H Q a is z} A e hs q => ?_
  obtain ⟨m, e1, e2⟩ := Option.map_eq_some_iff.mp e
  subst e2
  obtain ⟨h1, h2⟩ := maxL_some e1
  refine ⟨a, is, rfl, .inl hs, List.length_pos_of_mem h1, fun m' k1 k2 => ?_⟩
  have : m' = m := Int.le_antisymm (h2 m' k1) (k2 m h1)
  subst this
  exact q _ g H (Gs.Le.refl g) A (fr_int _)
theorem opn_minL : OpN rN X (rMin X.K) dMinL := by
  intro ns
  refine opn_ints fun {ms B g ρ p σ H Q a is z} A e hs q => ?_
  obtain ⟨m, e1, e2⟩ := Option.map_eq_some_iff.mp e
  subst e2
  obtain ⟨h1, h2⟩ := minL_some e1
  refine ⟨a, is, rfl, .inl hs, List.length_pos_of_mem h1, fun m' k1 k2 => ?_⟩
  have : m' = m := Int.le_antisymm (k2 m h1) (h2 m' k1)
  subst this
  exact q _ g H (Gs.Le.refl g) A (fr_int _)
def insI (x : Int) : List Int → List Int
  | [] => [x]
  | y :: ys => if x ≤ y then x :: y :: ys else y :: insI x ys
def sortI : List Int → List Int
  | [] => []
  | x :: xs => insI x (sortI xs)
theorem insI_perm (x : Int) : ∀ ys : List Int, (insI x ys).Perm (x :: ys)
  | [] => .refl _
  | y :: ys => by
    unfold insI
    split
    · exact .refl _
    · exact ((insI_perm x ys).cons y).trans (.swap x y ys)
theorem insI_sorted (x : Int) : ∀ {ys : List Int}, ys.Pairwise (· ≤ ·) → (insI x ys).Pairwise (· ≤ ·)
  | [], _ => by unfold insI; exact List.pairwise_singleton _ _
  | y :: ys, h => by
    unfold insI
    rw [List.pairwise_cons] at h
    split
    · rename_i hxy
      rw [List.pairwise_cons, List.pairwise_cons]
      refine ⟨fun z hz => ?_, h⟩
      rcases List.mem_cons.mp hz with rfl | hz
      · exact hxy
      · exact Int.le_trans hxy (h.1 z hz)
    · rename_i hxy
      rw [List.pairwise_cons]
      refine ⟨fun z hz => ?_, insI_sorted x h.2⟩
      rcases List.mem_cons.mp ((insI_perm x ys).mem_iff.mp hz) with rfl | hz
      · omega
      · exact h.1 z hz
theorem sortI_perm : ∀ xs : List Int, (sortI xs).Perm xs
  | [] => .refl _
  | x :: xs => (insI_perm x _).trans ((sortI_perm xs).cons x)
theorem sortI_sorted : ∀ xs : List Int, (sortI xs).Pairwise (· ≤ ·)
  | [] => .nil
  | x :: xs => insI_sorted x (sortI_sorted xs)
theorem sortI_eq {xs ys : List Int} (hp : ys.Perm xs) (hs : ys.Pairwise (· ≤ ·)) : ys = sortI xs := PySem.W.ksm_same (hp.trans (sortI_perm xs).symm) hs (sortI_sorted xs)
def dSortI : List D → Option D := box1 fun ds => (asInts ds).bind fun is => some (.lst ((sortI is).map .int))
theorem opn_sortI : OpN rN X (rSortedI X.K) dSortI := by
  intro ns
  refine opn_ints fun {ms B g ρ p σ H Q a is z} A e hs q => ?_
  cases e
  refine ⟨a, is, rfl, .inl hs, fun is' t k1 k2 ht => ?_⟩
  rw [sortI_eq k1 k2]
  exact q _ g _ (Gs.Le.refl g) (A.alloc ht) (Fresh.new A ht (.ints _))
def dAll : List D → Option D := box1 fun ds => (asBools ds).map fun bs => .bl (bs.all id)
def dAny : List D → Option D := box1 fun ds => (asBools ds).map fun bs => .bl (bs.any id)
theorem opn_all : OpN rN X (rAll X.K) dAll := by
  intro ns ms B gs ρ p σ H vs xs z Q A vx e q
  match xs, e, vx with
  | [.lst ds], e, vx =>
    obtain ⟨v, rfl, h⟩ := vl1 vx
    obtain ⟨a, ys, rfl, h1, h2⟩ := h
    obtain ⟨is, e1, e2⟩ := Option.map_eq_some_iff.mp (show (asBools ds).map _ = some z from e)
    subst e2
    have := asBools_some e1
    subst this
    have := h2.bools_of
    subst this
    exact ⟨a, is, rfl, .inl h1, q _ gs H (Gs.Le.refl gs) A (fr_bl _)⟩
  | [], e, _ | [.non], e, _ | [.bl _], e, _ | [.int _], e, _ | [.str _], e, _ | [.tup _], e, _ | [.dct _], e, _ | [.dcu _], e, _ | [.pool], e, _ | [.scr _], e, _ => cases e
  | a :: b :: c, e, _ => exact absurd e (by cases a <;> simp [dAll, box1])
theorem opn_any : OpN rN X (rAny X.K) dAny := by
  intro ns ms B gs ρ p σ H vs xs z Q A vx e q
  match xs, e, vx with
  | [.lst ds], e, vx =>
    obtain ⟨v, rfl, h⟩ := vl1 vx
    obtain ⟨a, ys, rfl, h1, h2⟩ := h
    obtain ⟨is, e1, e2⟩ := Option.map_eq_some_iff.mp (show (asBools ds).map _ = some z from e)
    subst e2
    have := asBools_some e1
    subst this
    have := h2.bools_of
    subst this
    exact ⟨a, is, rfl, .inl h1, q _ gs H (Gs.Le.refl gs) A (fr_bl _)⟩
  | [], e, _ | [.non], e, _ | [.bl _], e, _ | [.int _], e, _ | [.str _], e, _ | [.tup _], e, _ | [.dct _], e, _ | [.dcu _], e, _ | [.pool], e, _ | [.scr _], e, _ => cases e
  | a :: b :: c, e, _ => exact absurd e (by cases a <;> simp [dAny, box1])
/-! ### int, abs, max, min, list, tuple -/
def dInt : List D → Option D
  | [.int i] => some (.int i)
  | [.bl b] => some (.int (if b then 1 else 0))
  | _ => none
theorem opn_int : OpN rN X (fun xs H Q => (∃ i, xs = [.int i] ∧ Q (.int i) H) ∨ ∃ k, xs = [.bl k] ∧ Q (.int (if k then 1 else 0)) H) dInt := by
  intro ns ms B gs ρ p σ H vs xs z Q A vx e q
  match xs, e, vx with
  | [.int i], e, vx =>
    obtain ⟨v, rfl, h⟩ := vl1 vx
    cases e; cases vw_int h
    exact .inl ⟨_, rfl, q _ gs H (Gs.Le.refl gs) A (fr_int _)⟩
  | [.bl i], e, vx =>
    obtain ⟨v, rfl, h⟩ := vl1 vx
    cases e; cases vw_bl h
    exact .inr ⟨_, rfl, q _ gs H (Gs.Le.refl gs) A (fr_int _)⟩
  | [], e, _ | [.non], e, _ | [.lst _], e, _ | [.str _], e, _ | [.tup _], e, _ | [.dct _], e, _ | [.dcu _], e, _ | [.pool], e, _ | [.scr _], e, _ => cases e
  | a :: b :: c, e, _ => exact absurd e (by cases a <;> simp [dInt])
def dAbs : List D → Option D
  | [.int i] => some (.int (if i < 0 then -i else i))
  | _ => none
theorem opn_abs : OpN rN X (fun xs H Q => ∃ i, xs = [.int i] ∧ Q (.int (if i < 0 then -i else i)) H) dAbs := by
  intro ns ms B gs ρ p σ H vs xs z Q A vx e q
  match xs, e, vx with
  | [.int i], e, vx =>
    obtain ⟨v, rfl, h⟩ := vl1 vx
    cases e; cases vw_int h
    exact ⟨_, rfl, q _ gs H (Gs.Le.refl gs) A (fr_int _)⟩
  | [], e, _ | [.non], e, _ | [.bl _], e, _ | [.lst _], e, _ | [.str _], e, _ | [.tup _], e, _ | [.dct _], e, _ | [.dcu _], e, _ | [.pool], e, _ | [.scr _], e, _ => cases e
  | a :: b :: c, e, _ => exact absurd e (by cases a <;> simp [dAbs])
def dII2 (f : Int → Int → D) : List D → Option D
  | [.int i, .int j] => some (f i j)
  | _ => none
theorem opn_ii {r : List V → Hp → VK → Prop} {f : Int → Int → Int} (hr : ∀ {i j H Q}, Q (.int (f i j)) H → r [.int i, .int j] H Q) : OpN rN X r (dII2 fun i j => .int (f i j)) := by
  intro ns ms B gs ρ p σ H vs xs z Q A vx e q
  match xs, e, vx with
  | [.int i, .int j], e, vx =>
    obtain ⟨v, w, rfl, h, h'⟩ := vl2 vx
    cases e; cases vw_int h; cases vw_int h'
    exact hr (q _ gs H (Gs.Le.refl gs) A (fr_int _))
  | [], e, _ => cases e
  | [a], e, _ => exact absurd e (by cases a <;> simp [dII2])
  | a :: b :: c :: r, e, _ => exact absurd e (by cases a <;> cases b <;> simp [dII2])
def dMax2 : List D → Option D := dII2 fun i j => .int (if j > i then j else i)
def dMin2 : List D → Option D := dII2 fun i j => .int (if j < i then j else i)
theorem opn_max2 : OpN rN X (fun xs H Q => ∃ i j, xs = [.int i, .int j] ∧ Q (.int (if j > i then j else i)) H) dMax2 := opn_ii (X := X) (r := (fun xs H Q => ∃ i j, xs = [.int i, .int j] ∧ Q (.int (if j > i then j else i)) H)) (f := fun i j => if j > i then j else i) fun q => ⟨_, _, rfl, q⟩
theorem opn_min2 : OpN rN X (fun xs H Q => ∃ i j, xs = [.int i, .int j] ∧ Q (.int (if j < i then j else i)) H) dMin2 := opn_ii (X := X) (r := (fun xs H Q => ∃ i j, xs = [.int i, .int j] ∧ Q (.int (if j < i then j else i)) H)) (f := fun i j => if j < i then j else i) fun q => ⟨_, _, rfl, q⟩
def dGcd : List D → Option D := dII2 fun i j => .int ((Nat.gcd i.natAbs j.natAbs : Nat) : Int)
theorem opn_gcd : OpN rN X rGcd dGcd := opn_ii fun q => ⟨_, _, rfl, q⟩
def dList : List D → Option D
  | [.lst ds] => some (.lst ds)
  | [.tup ds] => some (.lst ds)
  | _ => none
theorem opn_list : OpN rN X (fun xs H Q => ∃ p ys, xs = [.ref p] ∧ (SqL X.K H p ys ∨ SqT X.K H p ys) ∧ ∀ l, H l = none → Q (.ref l) (upd H l (.lst ys))) dList := by
  intro ns ms B gs ρ p σ H vs xs z Q A vx e q
  match xs, e, vx with
  | [.lst ds], e, vx =>
    obtain ⟨v, rfl, h⟩ := vl1 vx
    obtain ⟨a, ys, rfl, h1, h2⟩ := h
    cases e
    exact ⟨a, ys, rfl, .inl (.inl h1), fun l hl => q _ gs _ (Gs.Le.refl gs) (A.alloc hl) (Fresh.new A hl h2)⟩
  | [.tup ds], e, vx =>
    obtain ⟨v, rfl, h⟩ := vl1 vx
    obtain ⟨a, ys, rfl, h1, h2⟩ := vw_tup A.sub h
    cases e
    exact ⟨a, ys, rfl, .inr h1, fun l hl => q _ gs _ (Gs.Le.refl gs) (A.alloc hl) (Fresh.new A hl h2)⟩
  | [], e, _ | [.non], e, _ | [.bl _], e, _ | [.int _], e, _ | [.str _], e, _ | [.dct _], e, _ | [.dcu _], e, _ | [.pool], e, _ | [.scr _], e, _ => cases e
  | a :: b :: c, e, _ => exact absurd e (by cases a <;> simp [dList])
def dTuple : List D → Option D
  | [.lst ds] => some (.tup ds)
  | [.tup ds] => some (.tup ds)
  | _ => none
theorem opn_tuple : OpN rE X (fun xs H Q => ∃ p ys, xs = [.ref p] ∧ ((SqL X.K H p ys ∧ ∀ l, H l = none → Q (.ref l) (upd H l (.tup ys))) ∨ (SqT X.K H p ys ∧ Q (.ref p) H))) dTuple := by
  intro ns ms B gs ρ p σ H vs xs z Q A vx e q
  match xs, e, vx with
  | [.lst ds], e, vx =>
    obtain ⟨v, rfl, h⟩ := vl1 vx
    obtain ⟨a, ys, rfl, h1, h2⟩ := h
    cases e
    refine ⟨a, ys, rfl, .inl ⟨.inl h1, fun l hl => ?_⟩⟩
    obtain ⟨g2, l2, A2, r2⟩ := A.tup hl h2
    exact q _ g2 _ l2 A2 r2
  | [.tup ds], e, vx =>
    obtain ⟨v, rfl, h⟩ := vl1 vx
    have hh : Rep X.K gs v (.tup ds) := h
    obtain ⟨a, ys, rfl, h1, h2⟩ := vw_tup A.sub h
    cases e
    exact ⟨a, ys, rfl, .inr ⟨h1, q _ gs H (Gs.Le.refl gs) A hh⟩⟩
  | [], e, _ | [.non], e, _ | [.bl _], e, _ | [.int _], e, _ | [.str _], e, _ | [.dct _], e, _ | [.dcu _], e, _ | [.pool], e, _ | [.scr _], e, _ => cases e
  | a :: b :: c, e, _ => exact absurd e (by cases a <;> simp [dTuple])
/-! ### list * int -/
theorem RepL.rep {K : PySem.W.Frag} {vs : List V} {ds : List D} (h : RepL K g vs ds) : ∀ n : Nat, RepL K g (List.replicate n vs).flatten (List.replicate n ds).flatten
  | 0 => .nil
  | n + 1 => by
    rw [List.replicate_succ, List.replicate_succ, List.flatten_cons, List.flatten_cons]
    exact h.append (RepL.rep h n)
def rRepS : R2 := fun x y H Q => ∃ l k xs, x = .ref l ∧ y = .int k ∧ Rd H l (.lst xs) ∧ -(2 ^ 63) ≤ k ∧ k < 2 ^ 63 ∧ xs.length * k.toNat ≤ sizeLine ∧ ∀ p, H p = none → Q (.ref p) (upd H p (.lst (List.replicate k.toNat xs).flatten))
theorem op_repS : OpR X (binaryOp .Mult) rRepS := by
  intro pins s σ H x y v u Q I rx ry h
  obtain ⟨l, k, xs, rfl, rfl, hH, h1, h2, hz, q⟩ := h
  cases rx
  obtain ⟨t, rfl⟩ := ry
  obtain ⟨z, its, n, r, e⟩ := hH.ok I.hok
  have hl := r.length
  have hlen : its.toArray.size * k.toNat ≤ sizeLine := by rw [List.size_toArray, ← hl]; exact hz
  have hcap : ¬ its.toArray.size * k.toNat > (2 ^ 63 - 1) / 8 := by
    have : (sizeLine : Nat) ≤ (2 ^ 63 - 1) / 8 := by decide
    omega
  have hfit : ¬ (!Builtin.List.listFitsIndex k) = true := by
    rw [fitsIndex_both h1 h2]
    exact Bool.false_ne_true
  have hlong : ¬ Builtin.List.listTooLong (its.toArray.size * k.toNat) = true := by
    rw [notLongL hlen]
    exact Bool.false_ne_true
  have hnew : List.foldl (fun x1 x2 => x1 ++ x2) #[] (List.replicate (if its.toArray.isEmpty = true then 0 else k.toNat) its.toArray) = (List.replicate k.toNat its).flatten.toArray := by
    have f0 : ∀ m : Nat, List.foldl (fun x1 x2 => x1 ++ x2) #[] (List.replicate m its.toArray) = (List.replicate m its).flatten.toArray := fun m => by
      have := foldl_rep its m []
      rw [List.nil_append] at this
      exact this
    rw [f0]
    cases its with
    | nil => simp
    | cons a r' => rw [if_neg (by simp)]
  refine wpAny_binaryOp_repeat_ref (T := "list") (U := "int") (by decide) ⟨_, e, rfl⟩ (fun s' => typeIs_int s' k t) noFill_list_mul F.fills_int_mul F.slot_int_rmul repeat_list F.slot_int_index.lookup
    (call_meets F.slot_int_rmul (typeIs_int s k t) F.entry_int_rmul (F.args_int_rmul_2 _ _) (int___rmul___int_list k t l its.toArray n)
      ⟨e, rfl, ⟨_, e, rfl⟩, call_meets F.slot_list_mul ⟨_, e, rfl⟩ F.entry_list_mul (F.args_list_mul_2 _ _) (AutoListH.list___mul___list_int_3 l its.toArray n k t hfit hcap hlong) ⟨e, ?_⟩⟩)
  rw [hnew]
  exact ⟨.ref _, _, I.lnew (t' := s.toks) (r.rep k.toNat) (by rw [PyProof.Rows.lm_len_rep_flat, Nat.mul_comm]; exact hz), rfl, q _ I.fresh⟩
def dMul : D → D → Option D
  | .int i, .int j => dMulI i j
  | .lst ds, .int k => if -(2 ^ 63) ≤ k ∧ k < 2 ^ 63 ∧ ds.length * k.toNat ≤ 16777216 then some (.lst (List.replicate k.toNat ds).flatten) else none
  | _, _ => none
theorem op2_mulX : Op2 rN X (fun x y H Q => rI CMulX (fun i j => .int (i * j)) x y H Q ∨ rRepS x y H Q) dMul := by
  intro ns ms B gs ρ p σ H v w x y z Q A vx vy e q
  cases x with
  | int i => exact .inl (op2_mul A vx vy (x := .int i) (y := y) (by cases y <;> first | exact e | cases e) q)
  | lst ds =>
    cases y with
    | int k =>
      cases vw_int vy
      have e : (if -(2 ^ 63) ≤ k ∧ k < 2 ^ 63 ∧ ds.length * k.toNat ≤ 16777216 then some (D.lst (List.replicate k.toNat ds).flatten) else none) = some z := e
      split at e
      · rename_i hl
        cases e
        obtain ⟨a, vs, rfl, h1, h2⟩ := vx
        exact .inr ⟨a, k, vs, rfl, rfl, h1, hl.1, hl.2.1, by rw [h2.length, sizeLine_eq]; exact hl.2.2, fun l hn => q _ gs _ (Gs.Le.refl gs) (A.alloc hn) (Fresh.new A hn (h2.rep _))⟩
      · cases e
    | _ => cases e
  | _ => cases e
theorem op_mulA : OpR X (binaryOp .Mult) (fun x y H Q => rI CMulX (fun i j => .int (i * j)) x y H Q ∨ rRepS x y H Q) := op_mulX.or op_repS
end
end Lf

/-! Lift6: stores, comprehensions, what loops walk. -/
namespace Lf
open PySem PySem.Spec PyProof.Rows L2

section
variable {X : Cx} {ns : List Int} {ms m0 m1 m2 m3 ml : List Nat} {B : Bs} {g g' : Gs} {ρ : Rho} {p p' : Pl} {σ : L2.St} {H H' : Hp} {v : V} {d : D} {a b c e : Expr} {es : List Expr} {f h k : Rho → M D} {fs : Rho → M (List D)} {tf : Rho → M Bool} {pos px : Pos} {x : Str} {K : PySem.W.Frag} {n : Nat}

/-! ### cells changed -/
theorem Own.cell {a : Addr} (h : Own K g B H (.ref a) d) : (∃ o, H a = some o) ∧ g.G a = none ∧ B.H a = none ∧ g.q ≠ some a := by
  obtain ⟨b, o, e, h1, h2, h3, h4⟩ := h.ref
  cases e
  exact ⟨⟨o, h1⟩, h2, h3, h4⟩
/-- a cell that is neither frozen, nor the entry's, nor the pool's, nor an own slot's may be changed -/
theorem Abs.poke (A : Abs K n ns ms B g ρ p σ H) {a : Addr} {o : HO} (hg : g.G a = none) (hB : B.H a = none) (hq : g.q ≠ some a) (hs : ∀ i, ms.contains i = true → ρ i ≠ none → σ[i]? ≠ some (some (.ref a))) : Abs K n ns ms B g ρ p σ (upd H a o) := by
  refine ⟨A.len, fun b u e => ?_, fun b u e hq' => ?_, A.le, A.fz, A.qz, ?_, fun i d e => ?_, A.dist⟩
  · have hb : b ≠ a := ne_of_none e hg
    rw [upd_ne hb]; exact A.sub b u e
  · have hb : b ≠ a := ne_of_none e hB
    rw [upd_ne hb]; exact A.keep b u e hq'
  · refine A.pool.move (Gs.Le.refl g) rfl fun b e => ?_
    exact ⟨upd_ne fun z => hq (by rw [← z]; exact e), (A.pool.at e).1⟩
  · obtain ⟨v, e1, h1⟩ := A.slot i d e
    refine ⟨v, e1, ?_⟩
    unfold SlotOk at h1 ⊢
    split
    · rename_i hm
      rw [if_pos hm] at h1
      obtain ⟨b, u, ev, hb, h2, h3, h4⟩ := h1.ref
      refine h1.move (Gs.Le.refl g) fun c ec => ?_
      rw [ev] at ec; cases ec
      refine ⟨upd_ne fun z => ?_, h2, h4⟩
      subst z
      exact hs i hm (by rw [e]; simp) (by rw [e1, ev])
    · rename_i hm
      rw [if_neg hm] at h1
      exact h1
/-- an own slot's list or dict is changed -/
theorem Abs.write (A : Abs K n ns ms B g ρ p σ H) {i : Nat} {a : Addr} {o : HO} {d' : D} (hm : ms.contains i = true) (hρ : ρ i = some d) (hs : σ[i]? = some (some (.ref a))) (hw : Own K g B (upd H a o) (.ref a) d') :
    Abs K n ns ms B g (ρ.upd i d') p σ (upd H a o) := by
  obtain ⟨w, e1, h1⟩ := A.slot i d hρ
  rw [hs] at e1; cases e1
  unfold SlotOk at h1
  rw [if_pos hm] at h1
  obtain ⟨⟨u, hu⟩, hg, hB, hq⟩ := h1.cell
  have dist : ∀ j, j ≠ i → ms.contains j = true → ρ j ≠ none → σ[j]? ≠ some (some (.ref a)) := fun j hj hmj hρj z => A.dist j i a hmj hm hj hρj (by rw [hρ]; simp) z hs
  refine ⟨A.len, fun b u e => ?_, fun b u e hq' => ?_, A.le, A.fz, A.qz, ?_, fun j d2 e => ?_, fun j k b hj hk hjk h1 h2 => A.dist j k b hj hk hjk ?_ ?_⟩
  · have hb : b ≠ a := ne_of_none e hg
    rw [upd_ne hb]; exact A.sub b u e
  · have hb : b ≠ a := ne_of_none e hB
    rw [upd_ne hb]; exact A.keep b u e hq'
  · refine A.pool.move (Gs.Le.refl g) rfl fun b e => ?_
    exact ⟨upd_ne fun z => hq (by rw [← z]; exact e), (A.pool.at e).1⟩
  · unfold Rho.upd at e
    by_cases hj : j = i
    · subst hj
      rw [if_pos rfl] at e; cases e
      refine ⟨_, hs, ?_⟩
      unfold SlotOk
      rw [if_pos hm]
      exact hw
    · rw [if_neg hj] at e
      obtain ⟨v, e1, h1⟩ := A.slot j d2 e
      refine ⟨v, e1, ?_⟩
      unfold SlotOk at h1 ⊢
      split
      · rename_i hm
        rw [if_pos hm] at h1
        obtain ⟨b, u, ev, hb, h2, h3, h4⟩ := h1.ref
        refine h1.move (Gs.Le.refl g) fun c ec => ?_
        rw [ev] at ec; cases ec
        refine ⟨upd_ne fun z => ?_, h2, h4⟩
        subst z
        exact dist j hj hm (by rw [e]; simp) (by rw [e1, ev])
      · rename_i hm
        rw [if_neg hm] at h1
        exact h1
  · unfold Rho.upd at h1
    by_cases hj : j = i
    · subst hj; rw [hρ]; simp
    · rw [if_neg hj] at h1; exact h1
  · unfold Rho.upd at h2
    by_cases hj : k = i
    · subst hj; rw [hρ]; simp
    · rw [if_neg hj] at h2; exact h2
/-- the own slot's cell -/
theorem Abs.own (A : Abs K n ns ms B g ρ p σ H) {i : Nat} (hm : ms.contains i = true) (hρ : ρ i = some d) : ∃ a, σ[i]? = some (some (.ref a)) ∧ Own K g B H (.ref a) d := by
  obtain ⟨w, e1, h1⟩ := A.slot i d hρ
  unfold SlotOk at h1
  rw [if_pos hm] at h1
  obtain ⟨a, o, rfl, _⟩ := h1.ref
  exact ⟨a, e1, h1⟩

/-! ### methods of lists -/
def sMeth (i : Nat) (fs : Rho → M (List D)) (op : D → List D → Option D) : Rho → M Fl := fun ρ => (fs ρ).bind fun xs => (M.lift (ρ i)).bind fun d => (M.lift (op d xs)).bind fun d' => M.pure (.nx (ρ.upd i d'))
/-- a method that changes an own list or dict and hands back None -/
def OpM (X : Cx) (r : V → List V → Hp → VK → Prop) (op : D → List D → Option D) : Prop := ∀ {B : Bs} {g : Gs} {H : Hp} {a : Addr} {d d' : D} {xs : List V} {ds : List D} {Q : VK},
  Same g.G H → Own X.K g B H (.ref a) d → RepL X.K g xs ds → op d ds = some d' → (∀ o, Own X.K g B (upd H a o) (.ref a) d' → Q .non (upd H a o)) → r (.ref a) xs H Q
theorem tyV_lst {K : PySem.W.Frag} {H : Hp} {a : Addr} {xs : List V} (h : H a = some (.lst xs)) : tyV K "list" (.ref a) H := .inl ⟨rfl, _, .inl (.inl h)⟩
theorem ls_meth {name id : String} {r : V → List V → Hp → VK → Prop} {op : D → List D → Option D} {xp apos cpos : Pos} (i : Nat) (slot : Slot "list" name id) (hty : typeOf (.builtin id) = pure (.type "method_descriptor")) (hmt : MtR X id r) (ho : OpM X r op)
    (hol : ∀ d ds d', op d ds = some d' → ∃ xs, d = .lst xs) (ha : LA X ns m0 m1 (e :: es) fs) (hm : m1.contains i = true := by rfl) (hm0 : m0.contains i = true := by rfl)
    (hN : X.N[i]? = some x := by rfl) (hv : Vis X.env.scope x := by first | exact Or.inl rfl | exact Or.inr (Or.inl rfl) | exact Or.inr (Or.inr rfl)) (hd : (x == ("__debug__" : Str)) = false := by decide)
    (hcd : (x == ("__classdict__" : Str)) = false := by decide) (hbase : attributeBase (.Name x xp) name X.env (eval (.Name x xp) X.env) = eval (.Name x xp) X.env := by rfl)
    (hfew : ((backTo cpos (starEach (e :: es) X.env)).all (fun x => !x.1) && (backToKw cpos (keywordEach [] X.env)).all (fun x => x.1.isSome)
      && decide ((e :: es).length + ([] : List Keyword).length + (if ([] : List Keyword).isEmpty then 0 else 1) < 30)) = true := by rfl)
    (hline : (apos.endLine == cpos.line) = true := by rfl) (hs : starEach (e :: es) X.env = (false, eval e X.env) :: starEach es X.env := by rfl) (hplain : (backTo cpos (starEach es X.env)).any (·.1) = false := by rfl)
    (hsw : swapsWith (.Call (.Attribute (.Name x xp) name apos) (e :: es) [] cpos) none pos.line X.env = pure false := by rfl) :
    LS X ns ml m0 m1 (.Expr (.Call (.Attribute (.Name x xp) name apos) (e :: es) [] cpos) pos) (sMeth i fs op) :=
  ps_weak (ps_expr (pe_bm PySem.F.plainAttrs_list slot hty hmt (pe_var hN hv hd hcd) ha hbase hfew hline hs hplain) hsw) fun D σ H ⟨B, g, ρ, p, r, p', A, hf, q⟩ => by
    obtain ⟨xs, p1, e1, hf⟩ := M.bind_some hf
    obtain ⟨d, p2, e2, hf⟩ := M.bind_some hf
    obtain ⟨d', p3, e3, hf⟩ := M.bind_some hf
    obtain ⟨e4, e5⟩ := M.pure_some hf
    obtain ⟨e2', e6⟩ := M.lift_some e2
    obtain ⟨e3', e7⟩ := M.lift_some e3
    rw [e4] at q; rw [e5] at q; rw [e7, e6] at q
    obtain ⟨a, hs, hw⟩ := A.own hm0 e2'
    obtain ⟨ds, rfl⟩ := hol _ _ _ e3'
    have hw' := hw
    obtain ⟨a', ys, ea, hH, _⟩ := hw'
    cases ea
    refine ⟨.ref a, hs, tyV_lst hH, B, g, ρ, p, xs, p1, A, e1, fun g1 vs H1 l1 A1 r1 => ?_⟩
    obtain ⟨a2, hs2, hw2⟩ := A1.own hm e2'
    rw [hs] at hs2; cases hs2
    exact ho A1.sub hw2 r1 e3' fun o ow => q g1 σ _ l1 (A1.write hm e2' hs ow)
def dAppend : D → List D → Option D
  | .lst ds, [d] => if ds.length < 16777216 then some (.lst (ds ++ [d])) else none
  | _, _ => none
theorem opm_append : OpM X rAppend dAppend := by
  intro B g H a d d' xs ds Q sg ow r e q
  cases d with
  | lst ys =>
    match ds, r, e with
    | [y], r, e =>
      have e : (if ys.length < 16777216 then some (D.lst (ys ++ [y])) else none) = some d' := e
      split at e
      · rename_i hl
        cases e
        obtain ⟨b, vs, eb, h1, h2, h3⟩ := ow
        cases eb
        cases r with
        | cons r1 r2 =>
          cases r2
          exact ⟨a, vs, _, rfl, rfl, h1, by rw [h2.length, sizeLine_eq]; exact hl, q _ ⟨a, _, rfl, upd_same, h2.append (.cons r1 .nil), h3⟩⟩
      · cases e
    | [], _, e => cases e
    | _ :: _ :: _, _, e => cases e
  | _ => cases e
theorem dAppend_l : ∀ d ds d', dAppend d ds = some d' → ∃ xs, d = .lst xs := fun d ds d' h => by
  cases d with
  | lst ys => exact ⟨ys, rfl⟩
  | _ => cases h
def rExtS : V → List V → Hp → VK → Prop := rExtend
def dExtend : D → List D → Option D
  | .lst ds, [.lst es] => if ds.length + es.length ≤ 16777216 then some (.lst (ds ++ es)) else none
  | _, _ => none
theorem dExtend_l : ∀ d ds d', dExtend d ds = some d' → ∃ xs, d = .lst xs := fun d ds d' h => by
  cases d with
  | lst ys => exact ⟨ys, rfl⟩
  | _ => cases h

/-! ### a[i] = v of an own slot -/
def sPut (i : Nat) (fk fv : Rho → M D) (op : D → D → D → Option D) : Rho → M Fl := fun ρ => (fv ρ).bind fun v => (fk ρ).bind fun k => (M.lift (ρ i)).bind fun d => (M.lift (op d k v)).bind fun d' => M.pure (.nx (ρ.upd i d'))
def dPutA : D → D → D → Option D
  | .lst ds, .int i, v => (ixN ds.length i).map fun j => .lst (ds.set j v)
  | .dct kvs, .int i, v => if kvs.length < 16777216 then some (.dct (dPut kvs (.inl i) v)) else none
  | .dct kvs, .str y, v => if kvs.length < 16777216 then some (.dct (dPut kvs (.inr y) v)) else none
  | _, _, _ => none
def rSetD : V → V → V → Hp → (Hp → Prop) → Prop := fun o i v H Q => ∃ a H', o = .ref a ∧ L2.DPut H a i v H' ∧ Q H'
theorem set_dict (hu : X.A.units + 1 < cLine) : PSet X rSetD := by
  intro pins s σ H o i v ov iv u Q I ro ri rv h
  obtain ⟨a, H', rfl, gt, q⟩ := h
  obtain rfl : ov = Value.ref a := ro
  exact d_setItem hu I gt ri rv fun s4 I4 => ⟨H', I4, q⟩
theorem PSet.or {r r' : TSet} (h : PSet X r) (h' : PSet X r') : PSet X (fun o i v H Q => r o i v H Q ∨ r' o i v H Q) := by
  intro pins s σ H o i v ov iv u Q I ro ri rv q
  rcases q with q | q
  · exact h pins s σ H o i v ov iv u Q I ro ri rv q
  · exact h' pins s σ H o i v ov iv u Q I ro ri rv q
theorem put_ok {a : Addr} {o i v : V} {kd vd : D} {d d' : D} {Q : Hp → Prop} (sg : Same g.G H) (ow : Own K g B H (.ref a) d) (rk : View K g H i kd) (rv : Rep K g v vd) (e : dPutA d kd vd = some d') (q : ∀ o, Own K g B (upd H a o) (.ref a) d' → Q (upd H a o)) :
    rSetL (.ref a) i v H Q ∨ rSetD (.ref a) i v H Q := by
  cases d with
  | lst ys =>
    cases kd <;> try (cases e; done)
    rename_i z
    cases vw_int rk
    have e : (ixN ys.length z).map (fun j => D.lst (ys.set j vd)) = some d' := e
    obtain ⟨j, e1, e2⟩ := Option.map_eq_some_iff.mp e
    subst e2
    obtain ⟨b, vs, eb, h1, h2, h3⟩ := ow
    cases eb
    exact .inl ⟨a, vs, z, j, rfl, rfl, h1, by rw [h2.length]; exact e1, q _ ⟨a, _, rfl, upd_same, h2.set rv j, h3⟩⟩
  | dct kvs =>
    have fin : ∀ (key : Key), i = kV key → (if kvs.length < 16777216 then some (D.dct (dPut kvs key vd)) else none) = some d' → rSetD (.ref a) i v H Q := fun key ek e => by
      split at e
      · rename_i hl
        cases e
        obtain ⟨b, vs, eb, h1, h2, h3⟩ := ow
        cases eb
        exact ⟨a, _, rfl, .inl ⟨vs, key, h1, ek, by rw [h2.length, sizeLine_eq]; exact hl, rfl⟩, q _ ⟨a, _, rfl, upd_same, h2.put rv, h3⟩⟩
      · cases e
    cases kd with
    | int z => exact .inr (fin (.inl z) (vw_int rk) e)
    | str z => exact .inr (fin (.inr z) (vw_str rk) e)
    | _ => cases e
  | _ => cases e
theorem ls_put {xp tpos : Pos} (i : Nat) (hu : X.A.units + 64 < cLine) (hv : LE X ns m0 m1 e f) (hk : LB X ns m1 m1 b h) (hm : m1.contains i = true := by rfl)
    (hN : X.N[i]? = some x := by rfl) (hvs : Vis X.env.scope x := by first | exact Or.inl rfl | exact Or.inr (Or.inl rfl) | exact Or.inr (Or.inr rfl)) (hd : (x == ("__debug__" : Str)) = false := by decide)
    (hcd : (x == ("__classdict__" : Str)) = false := by decide)
    (ha : ∀ v, assign (.Subscript (.Name x xp) b tpos) X.env v = (do
      let ov ← holding [v] (eval (.Name x xp) X.env)
      let iv ← holding [v, ov] (eval b X.env)
      standAt tpos
      holding [v, ov, iv] (setItem ov iv v)
      release [v, ov, iv] []) := by intro _; rfl)
    (hs : swapsWithSole [.Subscript (.Name x xp) b tpos] e pos.line X.env = pure false := by rfl) (hw : swappedStores [.Subscript (.Name x xp) b tpos] e X.env = pure none := by rfl)
    (h1 : (assignEach [.Subscript (.Name x xp) b tpos] X.env).map (·.2) = [assign (.Subscript (.Name x xp) b tpos) X.env] := by rfl) :
    LS X ns ml m0 m1 (.Assign [.Subscript (.Name x xp) b tpos] e pos) (sPut i h f dPutA) :=
  ps_weak (ps_asg hv (pg_sub (pe_var hN hvs hd hcd) hk (PSet.or set_list (set_dict (by omega))) ha) hs hw h1) fun D σ H ⟨B, g, ρ, p, r, p', A, hf, q⟩ => by
    obtain ⟨w, p1, e1, hf⟩ := M.bind_some hf
    obtain ⟨kd, p2, e2, hf⟩ := M.bind_some hf
    obtain ⟨d, p3, e3, hf⟩ := M.bind_some hf
    obtain ⟨d', p4, e4, hf⟩ := M.bind_some hf
    obtain ⟨e5, e6⟩ := M.pure_some hf
    obtain ⟨e3', e7⟩ := M.lift_some e3
    obtain ⟨e4', e8⟩ := M.lift_some e4
    rw [e5, e6, e8, e7] at q
    refine ⟨B, g, ρ, p, w, p1, A, e1, fun g1 v H1 l1 A1 r1 => ?_⟩
    obtain ⟨a, hs1, hw1⟩ := A1.own hm e3'
    refine ⟨.ref a, hs1, B, g1, ρ, p1, kd, p2, A1, e2, fun g2 kv H2 l2 A2 r2 => ?_⟩
    obtain ⟨a2, hs2, hw2⟩ := A2.own hm e3'
    rw [hs1] at hs2; cases hs2
    exact put_ok (o := .ref a) A2.sub hw2 (Held.view A2 r2) (r1.mono l2) e4' fun o ow => q g2 σ _ (l1.trans l2) (A2.write hm e3' hs1 ow)

/-! ### comprehensions -/
theorem Abs.wipe (A : Abs K n ns ms B g ρ p σ H) (vs : List Nat) : Abs K n ns ms B g (ρ.wipe vs) p (L2.wipe σ vs) H := by
  have hw : ∀ i d, (ρ.wipe vs) i = some d → ρ i = some d ∧ vs.contains i = false := fun i d e => by
    unfold Rho.wipe at e
    split at e
    · cases e
    · rename_i hi; exact ⟨e, by simpa using hi⟩
  have hn : ∀ i, (ρ.wipe vs) i ≠ none → ρ i ≠ none := fun i e => by
    cases q : (ρ.wipe vs) i with
    | none => exact absurd q e
    | some d => rw [(hw i d q).1]; simp
  have hg : ∀ {i v}, vs.contains i = false → σ[i]? = some (some v) → (L2.wipe σ vs)[i]? = some (some v) := fun {i v} hi e => by
    induction vs with
    | nil => exact e
    | cons w ws ih =>
      rw [List.contains_cons, Bool.or_eq_false_iff] at hi
      unfold L2.wipe
      rw [List.getElem?_set_ne (fun z => by simp [z] at hi)]
      exact ih (fun i d e => by
        unfold Rho.wipe at e
        split at e
        · cases e
        · rename_i hi; exact ⟨e, by simpa using hi⟩) (fun i e => by
        unfold Rho.wipe at e
        split at e
        · exact absurd rfl e
        · exact e) hi.2
  refine ⟨by rw [wipe_length]; exact A.len, A.sub, A.keep, A.le, A.fz, A.qz, A.pool, fun i d e => ?_, fun i j b hi hj hij h1 h2 e1 e2 => A.dist i j b hi hj hij (hn i h1) (hn j h2) (wipe_some e1).1 (wipe_some e2).1⟩
  obtain ⟨e1, e2⟩ := hw i d e
  obtain ⟨v, e3, h3⟩ := A.slot i d e1
  exact ⟨v, hg e2 e3, h3⟩
/-- behind a block: the slots are as they were -/
theorem Abs.unwipe {vs : List Nat} (A0 : Abs K n ns ms B g ρ p σ H) (le : g.Le g') (A : Abs K n ns ms B g' (ρ.wipe vs) p' (L2.wipe σ vs) H') (hd : vs.all (fun i => !ms.contains i) = true) : Abs K n ns ms B g' ρ p' σ H' := by
  have hm : ∀ i, ms.contains i = true → vs.contains i = false := fun i hi => by
    refine Bool.eq_false_iff.mpr fun z => ?_
    have := List.all_eq_true.mp hd i (List.contains_iff_mem.mp z)
    rw [hi] at this; cases this
  have hρ : ∀ i, vs.contains i = false → (ρ.wipe vs) i = ρ i := fun i hi => by unfold Rho.wipe; rw [if_neg (by rw [hi]; decide)]
  have hg : ∀ {i : Nat} {w : Option V}, vs.contains i = false → (L2.wipe σ vs)[i]? = some w → σ[i]? = some w := fun {i w} hi e => by
    clear A hd hm hρ
    induction vs with
    | nil => exact e
    | cons w ws ih =>
      rw [List.contains_cons, Bool.or_eq_false_iff] at hi
      unfold L2.wipe at e
      rw [List.getElem?_set_ne (fun z => by simp [z] at hi)] at e
      exact ih hi.2 e
  have hg' : ∀ {i : Nat} {w : V}, vs.contains i = false → σ[i]? = some (some w) → (L2.wipe σ vs)[i]? = some (some w) := fun {i w} hi e => by
    clear A hd hm hρ hg
    induction vs with
    | nil => exact e
    | cons w ws ih =>
      rw [List.contains_cons, Bool.or_eq_false_iff] at hi
      unfold L2.wipe
      rw [List.getElem?_set_ne (fun z => by simp [z] at hi)]
      exact ih hi.2
  refine ⟨A0.len, A.sub, A.keep, A.le, A.fz, A.qz, A.pool, fun i d e => ?_, fun i j b hi hj hij h1 h2 e1 e2 => A0.dist i j b hi hj hij h1 h2 e1 e2⟩
  by_cases hi : vs.contains i = true
  · obtain ⟨v, e1, h1⟩ := A0.slot i d e
    refine ⟨v, e1, ?_⟩
    unfold SlotOk at h1 ⊢
    have nm : ¬ ms.contains i = true := fun z => by rw [hm i z] at hi; cases hi
    rw [if_neg nm] at h1
    rw [if_neg nm]
    exact h1.mono le
  · have hi' : vs.contains i = false := by simpa using hi
    obtain ⟨v, e1, h1⟩ := A.slot i d (by rw [hρ i hi']; exact e)
    exact ⟨v, hg hi' e1, h1⟩
/-- a new cell D, guarded: what runs does not touch it -/
structure Loose (ms : List Nat) (B : Bs) (g : Gs) (ρ : Rho) (σ : L2.St) (D : Addr) : Prop where
  hg : g.G D = none
  hb : B.H D = none
  hq : g.q ≠ some D
  hs : ∀ i, ms.contains i = true → ρ i ≠ none → σ[i]? ≠ some (some (.ref D))
def Bs.guard (B : Bs) (D : Addr) (o : HO) : Bs := ⟨upd B.H D o, B.g, fun a => if a = D then false else B.L a⟩
theorem Own.guard {D : Addr} {o : HO} (h : Own K g B H v d) (hv : v ≠ .ref D) : Own K g (B.guard D o) H v d := by
  have nb : ∀ {a}, v = .ref a → B.H a = none → (B.guard D o).H a = none := fun {a} e hb => by
    show upd B.H D o a = none
    rw [upd_ne (fun z => hv (by rw [e, z]))]; exact hb
  cases d with
  | lst ds => obtain ⟨a, xs, e, h1, r, h2, h3, h4⟩ := h; exact ⟨a, xs, e, h1, r, h2, nb e h3, h4⟩
  | dct ds => obtain ⟨a, xs, e, h1, r, h2, h3, h4⟩ := h; exact ⟨a, xs, e, h1, r, h2, nb e h3, h4⟩
  | dcu ds => obtain ⟨a, xs, e, h1, r, h2, h3, h4⟩ := h; exact ⟨a, xs, e, h1, r, h2, nb e h3, h4⟩
  | _ => exact h.elim
theorem Own.unguard {D : Addr} {o : HO} (hB : B.H D = none) (h : Own K g (B.guard D o) H v d) : Own K g B H v d ∧ v ≠ .ref D := by
  have nb : ∀ {a}, (B.guard D o).H a = none → B.H a = none ∧ a ≠ D := fun {a} hb => by
    have hb' : upd B.H D o a = none := hb
    by_cases ha : a = D
    · subst ha; rw [upd_same] at hb'; cases hb'
    · rw [upd_ne ha] at hb'; exact ⟨hb', ha⟩
  cases d with
  | lst ds => obtain ⟨a, xs, e, h1, r, h2, h3, h4⟩ := h; exact ⟨⟨a, xs, e, h1, r, h2, (nb h3).1, h4⟩, fun z => (nb h3).2 (by rw [e] at z; cases z; rfl)⟩
  | dct ds => obtain ⟨a, xs, e, h1, r, h2, h3, h4⟩ := h; exact ⟨⟨a, xs, e, h1, r, h2, (nb h3).1, h4⟩, fun z => (nb h3).2 (by rw [e] at z; cases z; rfl)⟩
  | dcu ds => obtain ⟨a, xs, e, h1, r, h2, h3, h4⟩ := h; exact ⟨⟨a, xs, e, h1, r, h2, (nb h3).1, h4⟩, fun z => (nb h3).2 (by rw [e] at z; cases z; rfl)⟩
  | _ => exact h.elim
theorem Abs.guard {D : Addr} {o : HO} (A : Abs K n ns ms B g ρ p σ H) (L : Loose ms B g ρ σ D) (hD : H D = some o) : Abs K n ns ms (B.guard D o) g ρ p σ H := by
  refine ⟨A.len, A.sub, fun a u e hq => ?_, A.le, fun a e => ?_, fun a e => ?_, A.pool, fun i d e => ?_, A.dist⟩
  · by_cases ha : a = D
    · subst ha
      have e' : upd B.H a o a = some u := e
      rw [upd_same] at e'; cases e'
      exact .inl hD
    · have e' : upd B.H D o a = some u := e
      rw [upd_ne ha] at e'
      rcases A.keep a u e' hq with h | ⟨l, h⟩
      · exact .inl h
      · exact .inr ⟨by show (if a = D then false else B.L a) = true; rw [if_neg ha]; exact l, h⟩
  · by_cases ha : a = D
    · subst ha; exact absurd L.hg e
    · rcases A.fz a e with h | h
      · exact .inl (by show upd B.H D o a = none; rw [upd_ne ha]; exact h)
      · exact .inr h
  · by_cases ha : a = D
    · subst ha; exact absurd e L.hq
    · rcases A.qz a e with h | h
      · exact .inl h
      · exact .inr (by show upd B.H D o a = none; rw [upd_ne ha]; exact h)
  · obtain ⟨v, e1, h1⟩ := A.slot i d e
    refine ⟨v, e1, ?_⟩
    unfold SlotOk at h1 ⊢
    split
    · rename_i hm
      rw [if_pos hm] at h1
      exact h1.guard fun z => L.hs i hm (by rw [e]; simp) (by rw [e1, z])
    · rename_i hm
      rw [if_neg hm] at h1
      exact h1
theorem Abs.unguard {D : Addr} {o : HO} (hB : B.H D = none) (hg0 : B.g.G D = none) (hq0 : B.g.q ≠ some D) (A : Abs K n ns ms (B.guard D o) g ρ p σ H) : Abs K n ns ms B g ρ p σ H ∧ Loose ms B g ρ σ D ∧ H D = some o := by
  have qD : g.q ≠ some D := fun z => by
    rcases A.qz D z with h | h
    · exact hq0 h
    · have h' : upd B.H D o D = none := h
      rw [upd_same] at h'; cases h'
  have slotD : ∀ i d v, ms.contains i = true → ρ i = some d → σ[i]? = some (some v) → Own K g B H v d ∧ v ≠ .ref D := fun i d v hm e e1 => by
    obtain ⟨w, e2, h1⟩ := A.slot i d e
    rw [e1] at e2; cases e2
    unfold SlotOk at h1
    rw [if_pos hm] at h1
    exact h1.unguard hB
  refine ⟨⟨A.len, A.sub, fun a u e hq => ?_, A.le, fun a e => ?_, fun a e => ?_, A.pool, fun i d e => ?_, A.dist⟩, ⟨?_, hB, qD, fun i hm hρ z => ?_⟩, ?_⟩
  · have ha : a ≠ D := ne_of_none e hB
    rcases A.keep a u (by show upd B.H D o a = some u; rw [upd_ne ha]; exact e) hq with h | ⟨l, h⟩
    · exact .inl h
    · have l' : (if a = D then false else B.L a) = true := l
      rw [if_neg ha] at l'
      exact .inr ⟨l', h⟩
  · by_cases ha : a = D
    · subst ha; exact .inl hB
    · rcases A.fz a e with h | h
      · have h' : upd B.H D o a = none := h
        rw [upd_ne ha] at h'
        exact .inl h'
      · exact .inr h
  · by_cases ha : a = D
    · subst ha; exact .inr hB
    · rcases A.qz a e with h | h
      · exact .inl h
      · have h' : upd B.H D o a = none := h
        rw [upd_ne ha] at h'
        exact .inr h'
  · obtain ⟨v, e1, h1⟩ := A.slot i d e
    refine ⟨v, e1, ?_⟩
    unfold SlotOk at h1 ⊢
    split
    · rename_i hm
      exact (slotD i d v hm e e1).1
    · rename_i hm
      rw [if_neg hm] at h1
      exact h1
  · cases q : g.G D with
    | none => rfl
    | some u =>
      rcases A.fz D (by rw [q]; simp) with h | h
      · have h' : upd B.H D o D = none := h
        rw [upd_same] at h'; cases h'
      · exact absurd hg0 h
  · cases q : ρ i with
    | none => exact hρ q
    | some d => exact (slotD i d _ hm q z).2 rfl
  · rcases A.keep D o (by show upd B.H D o D = some o; exact upd_same) qD with h | ⟨l, h⟩
    · exact h
    · have l' : (if D = D then false else B.L D) = true := l
      rw [if_pos rfl] at l'; cases l'
theorem Abs.loose (A : Abs K n ns ms B g ρ p σ H) {D : Addr} (hn : H D = none) : Loose ms B g ρ σ D := by
  obtain ⟨h1, h2, h3⟩ := A.none_of hn
  refine ⟨h1, h2, h3, fun i hm hρ z => ?_⟩
  cases q : ρ i with
  | none => exact hρ q
  | some d =>
    obtain ⟨v, e1, h4⟩ := A.slot i d q
    unfold SlotOk at h4
    rw [if_pos hm] at h4
    rw [z] at e1; cases e1
    obtain ⟨⟨o, h5⟩, _⟩ := h4.cell
    rw [hn] at h5; cases h5
end
end Lf

/-! Lift7: comprehensions, iterators, the pool. -/
namespace Lf
open PySem PySem.Spec PyProof.Rows L2

section
variable {X : Cx} {ns : List Int} {ms m0 m1 m2 m3 ml : List Nat} {B : Bs} {g g' : Gs} {ρ : Rho} {p p' : Pl} {σ : L2.St} {H H' : Hp} {v : V} {d : D} {a b c e : Expr} {es : List Expr} {f h k : Rho → M D} {fs : Rho → M (List D)} {tf : Rho → M Bool} {pos px : Pos} {x : Str} {K : PySem.W.Frag} {n : Nat}

/-! ### [elt for target in iter if ..] -/
def LTs (X : Cx) (ns : List Int) (ms : List Nat) (ifs : List Expr) (f : Rho → M Bool) : Prop := PTs X ifs (lT X.K X.N.length ns ms ms f)
theorem pts_weak {ifs : List Expr} {t t' : TT} (h : PTs X ifs t) (w : ∀ σ H Q, t' σ H Q → t σ H Q) : PTs X ifs t' := ⟨fun pins s σ H Q I q => h.run pins s σ H Q I (w σ H Q q)⟩
def tYesS : Rho → M Bool := fun _ => M.pure true
theorem lts_nil : LTs X ns ms [] tYesS := pts_weak pts_nil fun σ H Q ⟨B, g, ρ, p, d, p', A, hf, q⟩ => by
  obtain ⟨e1, e2⟩ := M.pure_some hf
  subst e1; subst e2
  exact q g H (Gs.Le.refl g) A
theorem lts_one (h : LT X ns ms ms e tf) : LTs X ns ms [e] tf := pts_one h
theorem wipe_get : ∀ (vs : List Nat) (σ : L2.St) (i : Nat), (L2.wipe σ vs)[i]? = if vs.contains i = true ∧ i < σ.length then some none else σ[i]?
  | [], σ, i => by simp [L2.wipe]
  | v :: vs, σ, i => by
    unfold L2.wipe
    rw [List.contains_cons]
    by_cases hi : v = i
    · subst hi
      by_cases hl : v < σ.length
      · rw [List.getElem?_set_self (by rw [wipe_length]; exact hl), if_pos ⟨by simp, hl⟩]
      · rw [if_neg (fun z => hl z.2), List.getElem?_eq_none (by rw [List.length_set, wipe_length]; omega), List.getElem?_eq_none (by omega)]
    · rw [List.getElem?_set_ne hi, wipe_get vs σ i]
      have : (i == v) = false := by simp; exact fun z => hi z.symm
      rw [this, Bool.false_or]
theorem wipe_wipe (σ : L2.St) (vs : List Nat) : L2.wipe (L2.wipe σ vs) vs = L2.wipe σ vs := by
  refine List.ext_getElem? fun i => ?_
  rw [wipe_get, wipe_length, wipe_get]
  split <;> rfl
theorem rho_wipe (ρ : Rho) (vs : List Nat) : (ρ.wipe vs).wipe vs = ρ.wipe vs := by
  funext j
  unfold Rho.wipe
  split <;> rfl
/-- a turn: nothing where a test is false -/
def lcTurn (t : TgS) (test : Rho → M Bool) (elt : Rho → M D) (ρ : Rho) (x : D) : M (Option D) :=
  (M.lift (t x ρ)).bind fun ρ1 => (test ρ1).bind fun b => if b = true then (elt ρ1).bind fun y => M.pure (some y) else M.pure none
def lcGo (turn : D → M (Option D)) : List D → M (List D)
  | [] => M.pure []
  | x :: xs => (turn x).bind fun r => (lcGo turn xs).bind fun ys => M.pure (match r with
    | some y => y :: ys
    | none => ys)
def eLc (vs : List Nat) (t : TgS) (it : Rho → M (List D)) (test : Rho → M Bool) (elt : Rho → M D) : Rho → M D := fun ρ => (it ρ).bind fun xs => if xs.length ≤ 16777216 then (lcGo (lcTurn t test elt (ρ.wipe vs)) xs).bind fun ys => M.pure (.lst ys) else M.fail
theorem lc_w {wi : TI} {tg : Expr} {t : TgS} {it : Rho → M (List D)} {test : Rho → M Bool} {elt : Rho → M D} (vs : List Nat) (hw : subm m2 m1 = true) (hd : vs.all (fun i => !m2.contains i) = true)
    {σ : L2.St} {H : Hp} {Q : VK} (h : lX (rN K m2) K n ns m0 m2 (eLc vs t it test elt) σ H Q) :
    tLc (lI K n ns m0 m1 it) (lG K n ns m2 m2 vs t) (lT K n ns m2 m2 test) (lX (rE K m2) K n ns m2 m2 elt) vs σ H Q := by
  obtain ⟨B, g, ρ, p, d, p', A, hf, q⟩ := h
  obtain ⟨xs, p1, e1, hf⟩ := M.bind_some hf
  split at hf
  · rename_i hl
    obtain ⟨ys, p2, e2, hf⟩ := M.bind_some hf
    obtain ⟨e3, e4⟩ := M.pure_some hf
    rw [e3, e4] at q
    refine ⟨B, g, ρ, p, xs, p1, A, e1, fun g1 J H1 l1 A1 it1 D hD => ?_⟩
    obtain ⟨g2, l2, _, A2⟩ := A1.weak hw
    have L0 := A2.loose hD
    have hgD : B.g.G D = none := by
      cases e : B.g.G D with
      | none => rfl
      | some o => exact absurd L0.hg (A2.le.dom D (by rw [e]; simp))
    have hqD : B.g.q ≠ some D := fun z => L0.hq (A2.le.pool D z)
    refine ⟨fun i m H => ∃ g3 p3 acc accd rest, g2.Le g3 ∧ Abs K n ns m2 B g3 ρ p3 σ H ∧ Loose m2 B g3 ρ σ D ∧ H D = some (.lst acc) ∧ RepL K g3 acc accd ∧ lcGo (lcTurn t test elt (ρ.wipe vs)) (xs.drop i) p3 = some (rest, p2) ∧ accd ++ rest = ys ∧ accd.length ≤ i ∧ m = xs.length - i,
      ⟨xs.length, g2, p1, [], [], ys, Gs.Le.refl _, A2.alloc hD, L0, upd_same, .nil, by simpa using e2, rfl, Nat.zero_le _, by simp⟩, fun i m H3 ⟨g3, p3, acc, accd, rest, l3, A3, L3, hD3, r3, e3, eys, hlen, em⟩ => ?_⟩
    by_cases hx : i < xs.length
    · have ex : xs[i]? = some xs[i] := List.getElem?_eq_getElem hx
      obtain ⟨go, yl⟩ := ((it1.mono (l2.trans l3)).go i _ H3 ex (.of A3.sub))
      rw [List.drop_eq_getElem_cons hx] at e3
      obtain ⟨r, p4, e4, e5⟩ := M.bind_some e3
      obtain ⟨rest', p5, e6, e7⟩ := M.bind_some e5
      obtain ⟨e8, e9⟩ := M.pure_some e7
      rw [← e9] at e6
      obtain ⟨ρ4, p6, e10, e11⟩ := M.bind_some e4
      obtain ⟨e12, e13⟩ := M.lift_some e10
      rw [e13] at e11
      obtain ⟨b, p7, e14, e15⟩ := M.bind_some e11
      refine .inr ⟨go, fun H' => ∃ g3 acc accd rest, g2.Le g3 ∧ Abs K n ns m2 B g3 ρ p4 σ H' ∧ Loose m2 B g3 ρ σ D ∧ H' D = some (.lst acc) ∧ RepL K g3 acc accd ∧ lcGo (lcTurn t test elt (ρ.wipe vs)) (xs.drop (i + 1)) p4 = some (rest, p2) ∧ accd ++ rest = ys ∧ accd.length ≤ i + 1,
        fun H' ⟨g8, acc8, accd8, rest8, l8, A8, L8, hD8, r8, e8, ey8, hl8⟩ => ⟨xs.length - (i + 1), by omega, g8, p4, acc8, accd8, rest8, l8, A8, L8, hD8, r8, e8, ey8, hl8, rfl⟩, fun x H' y => ?_⟩
      -- the new list is guarded
      have A3g := (A3.guard L3 hD3).wipe vs
      obtain ⟨g4, l4, A4, r4⟩ := A3g.yld (yl x H' y)
      refine ⟨_, g4, ρ.wipe vs, p3, _, ρ4, A4, r4, e12, fun g5 σ5 H5 l5 A5 w5 y5 => ⟨w5.trans (wipe_wipe σ vs), _, g5, ρ4, p3, b, p7, A5, e14, fun g6 H6 l6 A6 => ?_⟩⟩
      rw [wipe_wipe] at w5
      rw [rho_wipe] at y5
      -- what stands behind the turn's last step
      have back : ∀ {g7 : Gs} {H7 : Hp}, g6.Le g7 → Abs K n ns m2 (B.guard D (.lst acc)) g7 ρ4 p4 σ5 H7 → g3.Le g7 ∧ Abs K n ns m2 B g7 ρ p4 σ H7 ∧ Loose m2 B g7 ρ σ D ∧ H7 D = some (.lst acc) := fun {g7 H7} l7 A7 => by
        have l37 : g3.Le g7 := ((l4.trans l5).trans l6).trans l7
        have A7w := A7.wipe vs
        rw [w5, y5] at A7w
        have A7u := (A3.guard L3 hD3).unwipe l37 A7w hd
        obtain ⟨u1, u2, u3⟩ := A7u.unguard L3.hb hgD hqD
        exact ⟨l37, u1, u2, u3⟩
      cases b with
      | true =>
        rw [if_pos rfl] at e15 ⊢
        obtain ⟨y', p8, e16, e17⟩ := M.bind_some e15
        obtain ⟨e18, e19⟩ := M.pure_some e17
        rw [← e19] at e16
        subst e18
        refine ⟨_, g6, ρ4, p7, y', p4, A6, e16, fun g7 v7 H7 l7 A7 r7 => ?_⟩
        obtain ⟨l37, A7b, L7, hD7⟩ := back l7 A7
        refine ⟨acc, hD7, ?_, g7, acc ++ [v7], accd ++ [y'], rest', l3.trans l37, A7b.poke L7.hg L7.hb L7.hq L7.hs, L7, upd_same, (r3.mono l37).append (.cons r7 .nil), e6, ?_, ?_⟩
        · rw [r3.length, sizeLine_eq]; omega
        · rw [← eys, e8, List.append_assoc]; rfl
        · rw [List.length_append]; show accd.length + 1 ≤ i + 1; omega
      | false =>
        rw [if_neg Bool.false_ne_true] at e15 ⊢
        obtain ⟨e18, e19⟩ := M.pure_some e15
        subst e18
        rw [← e19] at A6
        obtain ⟨l37, A7b, L7, hD7⟩ := back (Gs.Le.refl g6) A6
        exact ⟨g6, acc, accd, rest', l3.trans l37, A7b, L7, hD7, r3.mono l37, e6, by rw [← eys, e8], Nat.le_succ_of_le hlen⟩
    · refine .inl ⟨(it1.mono (l2.trans l3)).stop i H3 (by omega) (.of A3.sub), ?_⟩
      rw [List.drop_eq_nil_of_le (by omega)] at e3
      obtain ⟨e6, e7⟩ := M.pure_some e3
      subst e6; subst e7
      rw [List.append_nil] at eys
      subst eys
      exact q g3 _ H3 ((l1.trans l2).trans l3) A3 (.inr ⟨⟨D, acc, rfl, hD3, r3, L3.hg, L3.hb, L3.hq⟩, fun j hj hρ a ea => by cases ea; exact L3.hs j hj hρ⟩)
  · cases hf
abbrev BlkAll (X : Cx) (scope : Scope) (P : Cx → Prop) : Prop := ∀ (s : Shared) (H : Hp) (C : Addr) (cl : List (Str × Addr)) (fp : List Addr), P (X.blk s H scope (compEnvC scope cl C X.env) fp)
theorem ln_lc {elt tg iter : Expr} {ifs : List Expr} {scope : Scope} {t : TgS} {it : Rho → M (List D)} {test : Rho → M Bool} {fe : Rho → M D} (own : List (Str × Nat)) (hc : X.calm = true) (hN : X.N.Nodup) (hi : LI X ns m0 m1 tg iter it) (hw : subm m2 m1 = true) (ok : BlkOk X.N X.env.scope scope own)
    (hg : BlkAll X scope fun Y => LG Y ns (own.map (·.2)) m2 m2 tg t) (ht : BlkAll X scope fun Y => LTs Y ns m2 ifs test) (he : BlkAll X scope fun Y => LE Y ns m2 m2 elt fe) (hd : (own.map (·.2)).all (fun i => !m2.contains i) = true := by rfl)
    (hs : ∀ x, foldedSetIterable iter X.env x = pure x := by intro _; rfl) : LN X ns m0 m2 (.ListComp elt [⟨tg, iter, ifs, 0⟩] scope pos) (eLc (own.map (·.2)) t it test fe) :=
  pe_weak (pe_lc (g := lG X.K X.N.length ns m2 m2 (own.map fun (q : Str × Nat) => q.2) t) (tt := lT X.K X.N.length ns m2 m2 test) (te := lX (rE X.K m2) X.K X.N.length ns m2 m2 fe) hc hN hi ok (fun s H C cl fp => hg s H C cl fp) (fun s H C cl fp => ht s H C cl fp) (fun s H C cl fp => he s H C cl fp) hs) fun _ _ _ hw' => lc_w (tg := tg) (wi := lI X.K X.N.length ns m0 m1 it) _ hw hd hw'
/-- name = [..] -/
theorem ls_setLc {y : Str} {py : Pos} {elt tg iter : Expr} {ifs : List Expr} {scope : Scope} {spos : Pos} {t : TgS} {it : Rho → M (List D)} {test : Rho → M Bool} {fe : Rho → M D} (i : Nat) (own : List (Str × Nat)) (hc : X.calm = true) (hN : X.N.Nodup)
    (hi : LI X ns m0 m1 tg iter it) (hw : subm m2 m1 = true) (ok : BlkOk X.N X.env.scope scope own)
    (hg : BlkAll X scope fun Y => LG Y ns (own.map (·.2)) m2 m2 tg t) (ht : BlkAll X scope fun Y => LTs Y ns m2 ifs test) (he : BlkAll X scope fun Y => LE Y ns m2 m2 elt fe) (hd : (own.map (·.2)).all (fun i => !m2.contains i) = true := by rfl)
    (hy : X.N[i]? = some y := by rfl) (hyl : X.env.scope.names.lookup y = some .local := by rfl) (hsw : swapsWith (.ListComp elt [⟨tg, iter, ifs, 0⟩] scope pos) (some (.Name y py)) spos.line X.env = pure true := by exact sw_true rfl rfl rfl (by decide +kernel))
    (hs : ∀ x, foldedSetIterable iter X.env x = pure x := by intro _; rfl) : LS X ns ml m0 (i :: del m2 i) (.Assign [.Name y py] (.ListComp elt [⟨tg, iter, ifs, 0⟩] scope pos) spos) (sSetO i (eLc (own.map (·.2)) t it test fe)) :=
  ps_weak (ps_setLc (g := lG X.K X.N.length ns m2 m2 (own.map fun (q : Str × Nat) => q.2) t) (tt := lT X.K X.N.length ns m2 m2 test) (te := lX (rE X.K m2) X.K X.N.length ns m2 m2 fe) hc hN hy hyl hsw hi ok (fun s H C cl fp => hg s H C cl fp) (fun s H C cl fp => ht s H C cl fp) (fun s H C cl fp => he s H C cl fp) hs) fun D σ H ⟨B, g, ρ, p, r, p', A, hf, q⟩ => by
    obtain ⟨d, p1, e1, hf⟩ := M.bind_some hf
    split at hf
    · rename_i hd'
      obtain ⟨e2, e3⟩ := M.pure_some hf
      rw [e2, e3] at q
      have hlt : i < X.N.length := by
        by_cases hl : i < X.N.length
        · exact hl
        · rw [List.getElem?_eq_none (Nat.le_of_not_lt hl)] at hy; cases hy
      refine lc_w (tg := tg) (wi := lI X.K X.N.length ns m0 m1 it) _ hw hd ⟨B, g, ρ, p, d, p1, A, e1, fun g1 v H1 l1 A1 r1 => ?_⟩
      rcases r1 with ⟨z, _⟩ | ⟨r1, r2⟩
      · rw [hd'] at z; cases z
      · exact q g1 _ H1 l1 (A1.setOwn hlt r1 r2)
    · cases hf

/-! ### iterators -/
theorem PI.or {tg iter : Expr} {w w' : TI} (h : PI X tg iter w) (h' : PI X tg iter w') : PI X tg iter (fun σ H R => w σ H R ∨ w' σ H R) := ⟨fun pins s σ H R I q => q.elim (h.run pins s σ H R I) (h'.run pins s σ H R I)⟩
def itemsOf (f : Rho → M D) : Rho → M (List D) := fun ρ => (f ρ).bind fun d => match d with
  | .lst ds => M.pure ds
  | _ => M.fail
def itemsT (f : Rho → M D) : Rho → M (List D) := fun ρ => (f ρ).bind fun d => match d with
  | .tup ds => M.pure ds
  | _ => M.fail
theorem it_list {a : Addr} {xs : List V} {ds : List D} (h : Rd g.G a (.lst xs)) (r : RepL K g xs ds) : ItOk K g (Itl K a) ds := by
  refine ⟨fun i d H e s => ?_, fun i H e s => ⟨xs, .inl (s _ _ rfl h), by rw [r.length]; exact e⟩⟩
  obtain ⟨v, ev, rv⟩ := r.get e
  exact ⟨⟨xs, v, .inl (s _ _ rfl h), ev⟩, fun x H' ⟨e1, y⟩ => .inl ⟨e1, by
    have := y xs (.inl (s _ _ rfl h))
    rw [ev] at this; cases this
    exact rv⟩⟩
theorem it_tup {a : Addr} {xs : List V} {ds : List D} (h : SqT K g.G a xs) (r : RepL K g xs ds) : ItOk K g (Itt K a) ds := by
  have hh : ∀ {H}, Sub g H → SqT K H a xs := fun {H} s => h.elim (fun h => .inl (s _ _ rfl h)) .inr
  refine ⟨fun i d H e s => ?_, fun i H e s => ⟨xs, hh s, by rw [r.length]; exact e⟩⟩
  obtain ⟨v, ev, rv⟩ := r.get e
  exact ⟨⟨xs, v, hh s, ev⟩, fun x H' ⟨e1, y⟩ => .inl ⟨e1, by
    have := y xs (hh s)
    rw [ev] at this; cases this
    exact rv⟩⟩
theorem li_list {tg : Expr} (ha : LE X ns m0 m1 e f) : LI X ns m0 m1 tg e (itemsOf f) := pi_weak (pi_list ha) fun σ H Q ⟨B, g, ρ, p, d, p', A, hf, q⟩ => by
  obtain ⟨y, p1, e1, hf⟩ := M.bind_some hf
  cases y <;> try (cases hf; done)
  obtain ⟨e2, e3⟩ := M.pure_some hf
  subst e2; subst e3
  refine ⟨B, g, ρ, p, _, _, A, e1, fun g1 v H1 l1 A1 r1 => ?_⟩
  have r1' : Rep X.K g1 v (.lst _) := r1
  cases r1' with
  | lst h1 h2 => exact ⟨_, rfl, ⟨_, .inl (Rd.same A1.sub h1)⟩, q g1 _ H1 l1 A1 (it_list h1 h2)⟩
theorem li_tup {tg : Expr} (ha : LE X ns m0 m1 e f) : LI X ns m0 m1 tg e (itemsT f) := pi_weak (pi_tup ha) fun σ H Q ⟨B, g, ρ, p, d, p', A, hf, q⟩ => by
  obtain ⟨y, p1, e1, hf⟩ := M.bind_some hf
  cases y <;> try (cases hf; done)
  obtain ⟨e2, e3⟩ := M.pure_some hf
  subst e2; subst e3
  refine ⟨B, g, ρ, p, _, _, A, e1, fun g1 v H1 l1 A1 r1 => ?_⟩
  have r1' : Rep X.K g1 v (.tup _) := r1
  cases r1' with
  | tup h1 h2 => exact ⟨_, rfl, ⟨_, Lf.seqT A1.sub h1⟩, q g1 _ H1 l1 A1 (it_tup h1 h2)⟩
def rangeL (lo : Int) : Nat → List D
  | 0 => []
  | n + 1 => .int lo :: rangeL (lo + 1) n
theorem rangeL_length : ∀ (n : Nat) (lo : Int), (rangeL lo n).length = n
  | 0, _ => rfl
  | n + 1, lo => by rw [rangeL, List.length_cons, rangeL_length n]
theorem rangeL_get : ∀ (n : Nat) (lo : Int) (i : Nat), i < n → (rangeL lo n)[i]? = some (.int (lo + i))
  | 0, _, _, h => by omega
  | n + 1, lo, 0, _ => by simp [rangeL]
  | n + 1, lo, i + 1, h => by
    rw [rangeL, List.getElem?_cons_succ, rangeL_get n (lo + 1) i (by omega)]
    congr 2
    omega
theorem it_range {lo : Int} {n : Nat} : ItOk K g (Itr lo n) (rangeL lo n) := by
  refine ⟨fun i d H e s => ?_, fun i H e s => by rw [rangeL_length] at e; exact e⟩
  by_cases hi : i < n
  · rw [rangeL_get n lo i hi] at e
    cases e
    exact ⟨hi, fun x H' ⟨e1, y⟩ => .inl ⟨e1, by rw [y]; exact .int _⟩⟩
  · rw [List.getElem?_eq_none (by rw [rangeL_length]; omega)] at e; cases e
def smallB (i : Int) : Bool := decide (-(2 ^ 62) ≤ i) && decide (i < 2 ^ 62)
theorem smallB_ok {i : Int} (h : smallB i = true) : -(2 ^ 62) ≤ i ∧ i < 2 ^ 62 := by
  unfold smallB at h
  rw [Bool.and_eq_true] at h
  exact ⟨of_decide_eq_true h.1, of_decide_eq_true h.2⟩
def rng1 (fs : Rho → M (List D)) : Rho → M (List D) := fun ρ => (fs ρ).bind fun ds => match ds with
  | [.int j] => if smallB j = true then M.pure (rangeL 0 j.toNat) else M.fail
  | _ => M.fail
def rng2 (fs : Rho → M (List D)) : Rho → M (List D) := fun ρ => (fs ρ).bind fun ds => match ds with
  | [.int i, .int j] => if smallB i = true ∧ smallB j = true then M.pure (rangeL i (j - i).toNat) else M.fail
  | _ => M.fail
theorem li_range1 {tg : Expr} (hg : Gl X "range") (hm : X.mg "range" = none) (ha : LAB X ns m0 m1 [a] fs) (hs : starEach [a] X.env = [(false, eval a X.env)] := by rfl) : LI X ns m0 m1 tg (.Call (.Name "range" px) [a] [] pos) (rng1 fs) := pi_weak (pi_range1 hg hm ha hs) fun σ H Q ⟨B, g, ρ, p, d, p', A, hf, q⟩ => by
  obtain ⟨y, p1, e1, hf⟩ := M.bind_some hf
  split at hf
  · rename_i j
    split at hf
    · rename_i hj
      obtain ⟨e2, e3⟩ := M.pure_some hf
      subst e2; subst e3
      refine ⟨B, g, ρ, p, _, _, A, e1, fun g1 v H1 l1 A1 r1 => ?_⟩
      obtain ⟨w, rfl, hw⟩ := vl1 (HeldL.view A1 r1)
      cases vw_int hw
      obtain ⟨b1, b2⟩ := smallB_ok hj
      exact ⟨j, rfl, b1, b2, q g1 _ H1 l1 A1 it_range⟩
    · cases hf
  · cases hf
theorem li_range2 {tg : Expr} (hg : Gl X "range") (hm : X.mg "range" = none) (ha : LAB X ns m0 m1 [a, b] fs) (hs : starEach [a, b] X.env = [(false, eval a X.env), (false, eval b X.env)] := by rfl) (hs2 : starEach [b] X.env = [(false, eval b X.env)] := by rfl) :
    LI X ns m0 m1 tg (.Call (.Name "range" px) [a, b] [] pos) (rng2 fs) := pi_weak (pi_range2 hg hm ha hs hs2) fun σ H Q ⟨B, g, ρ, p, d, p', A, hf, q⟩ => by
  obtain ⟨y, p1, e1, hf⟩ := M.bind_some hf
  split at hf
  · rename_i i j
    split at hf
    · rename_i hj
      obtain ⟨e2, e3⟩ := M.pure_some hf
      subst e2; subst e3
      refine ⟨B, g, ρ, p, _, _, A, e1, fun g1 v H1 l1 A1 r1 => ?_⟩
      obtain ⟨w, w', rfl, hw, hw'⟩ := vl2 (HeldL.view A1 r1)
      cases vw_int hw; cases vw_int hw'
      obtain ⟨b1, b2⟩ := smallB_ok hj.1
      obtain ⟨b3, b4⟩ := smallB_ok hj.2
      exact ⟨i, j, rfl, ⟨b1, b2, b3, b4⟩, q g1 _ H1 l1 A1 it_range⟩
    · cases hf
  · cases hf
def enumL (i : Int) : List D → List D
  | [] => []
  | d :: ds => .tup [.int i, d] :: enumL (i + 1) ds
theorem enumL_length : ∀ (ds : List D) (i : Int), (enumL i ds).length = ds.length
  | [], _ => rfl
  | d :: ds, i => by rw [enumL, List.length_cons, enumL_length ds, List.length_cons]
theorem enumL_get : ∀ (ds : List D) (i : Int) (j : Nat) (d : D), ds[j]? = some d → (enumL i ds)[j]? = some (.tup [.int (i + j), d])
  | [], _, _, _, h => by simp at h
  | d :: ds, i, 0, _, h => by simp at h; subst h; simp [enumL]
  | d :: ds, i, j + 1, e, h => by
    rw [enumL, List.getElem?_cons_succ, enumL_get ds (i + 1) j e (by simpa using h)]
    congr 4
    omega
theorem it_enum {a : Addr} {xs : List V} {ds : List D} (h : Rd g.G a (.lst xs)) (r : RepL K g xs ds) : ItOk K g (Ite K a) (enumL 0 ds) := by
  refine ⟨fun i d H e s => ?_, fun i H e s => ⟨xs, .inl (s _ _ rfl h), by rw [r.length]; rw [enumL_length] at e; exact e⟩⟩
  cases ed : ds[i]? with
  | none =>
    rw [List.getElem?_eq_none (by rw [enumL_length]; exact List.getElem?_eq_none_iff.mp ed)] at e
    cases e
  | some y =>
    rw [enumL_get ds 0 i y ed] at e
    cases e
    obtain ⟨v, ev, rv⟩ := r.get ed
    refine ⟨⟨xs, v, .inl (s _ _ rfl h), ev⟩, fun x H' ⟨T, z, e1, e2, e3, hz⟩ => .inr ⟨T, _, _, e1, e2, e3, ?_, rfl⟩⟩
    have := hz xs (.inl (s _ _ rfl h))
    rw [ev] at this; cases this
    rw [Int.zero_add]
    exact .cons (.int _) (.cons rv .nil)
def enumOf (fs : Rho → M (List D)) : Rho → M (List D) := fun ρ => (fs ρ).bind fun ds => match ds with
  | [.lst ds] => M.pure (enumL 0 ds)
  | _ => M.fail
theorem li_enum {elts : List Expr} {kk : Nat} {tpos : Pos} (hg : Gl X "enumerate") (hm : X.mg "enumerate" = none) (ha : LA X ns m0 m1 [e] fs) (hs : starEach [e] X.env = [(false, eval e X.env)] := by rfl) : LI X ns m0 m1 (.Tuple elts kk tpos) (.Call (.Name "enumerate" px) [e] [] pos) (enumOf fs) :=
  pi_weak (pi_enum hg hm ha hs) fun σ H Q ⟨B, g, ρ, p, d, p', A, hf, q⟩ => by
    obtain ⟨y, p1, e1, hf⟩ := M.bind_some hf
    split at hf
    · rename_i ds
      obtain ⟨e2, e3⟩ := M.pure_some hf
      subst e2; subst e3
      refine ⟨B, g, ρ, p, _, _, A, e1, fun g1 v H1 l1 A1 r1 => ?_⟩
      have r1' : RepL X.K g1 v [.lst ds] := r1
      cases r1' with
      | cons r2 r3 =>
        cases r3
        cases r2 with
        | lst h1 h2 => exact ⟨_, _, rfl, .inl (Rd.same A1.sub h1), q g1 _ H1 l1 A1 (it_enum h1 h2)⟩
    · cases hf

/-! ### the pool -/
def ePool (ns : List Int) (i j : Nat) : Rho → M D := fun ρ p => match ρ i, p with
  | some .pool, some ps => match j with
    | 0 => some (.scr ns, p)
    | 1 => some (.int ps.place, p)
    | 2 => some (.int ps.rest, p)
    | 3 => some (.int ps.fills, p)
    | _ => none
  | _, _ => none
theorem Abs.poolAt (A : Abs K n ns ms B g ρ p σ H) {i : Nat} (hm : ms.contains i = false) (hρ : ρ i = some .pool) : ∃ a ps v, σ[i]? = some (some (.ref a)) ∧ g.q = some a ∧ p = some ps ∧ g.G a = none ∧ H a = some (.lst [v, .int ps.place, .int ps.rest, .int ps.fills]) ∧ Rep K g v (.scr ns) := by
  obtain ⟨w, e1, h1⟩ := A.slot i _ hρ
  unfold SlotOk at h1
  rw [if_neg (by rw [hm]; decide)] at h1
  cases h1 with
  | pool hq =>
    rename_i a
    have P := A.pool
    unfold PoolAt at P
    rw [hq] at P
    cases p with
    | none => exact P.elim
    | some ps =>
      obtain ⟨h1, v, h2, h3⟩ := P
      exact ⟨a, ps, v, e1, hq, rfl, h1, h2, h3⟩
theorem le_pool {xp kp : Pos} {kk : Nat} (i j : Nat) (hm : ms.contains i = false := by rfl) (hN : X.N[i]? = some x := by rfl) (hv : Vis X.env.scope x := by first | exact Or.inl rfl | exact Or.inr (Or.inl rfl) | exact Or.inr (Or.inr rfl)) (hd : (x == ("__debug__" : Str)) = false := by decide)
    (hcd : (x == ("__classdict__" : Str)) = false := by decide) (hs : PlainIx (.Constant (.int (j : Int)) kk kp) := by exact fun _ _ => rfl) : LE X ns ms ms (.Subscript (.Name x xp) (.Constant (.int (j : Int)) kk kp) pos) (ePool ns i j) :=
  pe_weak (pe_ix ix_list (pe_var hN hv hd hcd) pe_int hs) fun σ H Q ⟨B, g, ρ, p, d, p', A, hf, q⟩ => by
    unfold ePool at hf
    split at hf
    · rename_i ps hρ
      obtain ⟨a, ps', v, e1, hq, ep, h1, h2, h3⟩ := A.poolAt hm hρ
      cases ep
      have fin : ∀ {w : V}, L2.atI [v, .int ps.place, .int ps.rest, .int ps.fills] (j : Int) = some w → p' = some ps → Rep X.K g w d → ∃ w, σ[i]? = some (some w) ∧ tC (.int (j : Int)) σ H fun y H2 => rIxL X.K w y H2 Q := fun {w} e ep r => by
        subst ep
        exact ⟨_, e1, a, _, _, w, rfl, rfl, .inl (.inl h2), e, q g w H (Gs.Le.refl g) A r⟩
      split at hf
      · cases hf; exact fin rfl rfl h3
      · cases hf; exact fin rfl rfl (.int _)
      · cases hf; exact fin rfl rfl (.int _)
      · cases hf; exact fin rfl rfl (.int _)
      · cases hf
    · cases hf
def sPool (i j : Nat) (f : Rho → M D) : Rho → M Fl := fun ρ => (f ρ).bind fun d p => match ρ i, p, d with
  | some .pool, some ps, .int z => match j with
    | 1 => some (.nx ρ, some { ps with place := z })
    | 2 => some (.nx ρ, some { ps with rest := z })
    | 3 => some (.nx ρ, some { ps with fills := z })
    | _ => none
  | _, _, _ => none
theorem Abs.pokePool (A : Abs K n ns ms B g ρ p σ H) {a : Addr} {v : V} {ps : Ps} (hq : g.q = some a) (hg : g.G a = none) (hv : Rep K g v (.scr ns)) : Abs K n ns ms B g ρ (some ps) σ (upd H a (.lst [v, .int ps.place, .int ps.rest, .int ps.fills])) := by
  refine ⟨A.len, fun b u e => ?_, fun b u e hq' => ?_, A.le, A.fz, A.qz, ?_, fun i d e => ?_, A.dist⟩
  · rw [upd_ne (ne_of_none e hg)]; exact A.sub b u e
  · rw [upd_ne fun z => hq' (by rw [hq, z])]; exact A.keep b u e hq'
  · unfold PoolAt
    rw [hq]
    exact ⟨hg, v, upd_same, hv⟩
  · obtain ⟨w, e1, h1⟩ := A.slot i d e
    refine ⟨w, e1, ?_⟩
    unfold SlotOk at h1 ⊢
    split
    · rename_i hm
      rw [if_pos hm] at h1
      obtain ⟨b, u, ev, hb, h2, h3, h4⟩ := h1.ref
      refine h1.move (Gs.Le.refl g) fun c ec => ?_
      rw [ev] at ec; cases ec
      exact ⟨upd_ne fun z => h4 (by rw [hq, z]), h2, h4⟩
    · rename_i hm
      rw [if_neg hm] at h1
      exact h1
theorem ls_pool {xp kp tpos : Pos} {kk : Nat} (i j : Nat) (hv : LE X ns m0 m1 e f) (hm : m1.contains i = false := by rfl)
    (hN : X.N[i]? = some x := by rfl) (hvs : Vis X.env.scope x := by first | exact Or.inl rfl | exact Or.inr (Or.inl rfl) | exact Or.inr (Or.inr rfl)) (hd : (x == ("__debug__" : Str)) = false := by decide)
    (hcd : (x == ("__classdict__" : Str)) = false := by decide)
    (ha : ∀ v, assign (.Subscript (.Name x xp) (.Constant (.int (j : Int)) kk kp) tpos) X.env v = (do
      let ov ← holding [v] (eval (.Name x xp) X.env)
      let iv ← holding [v, ov] (eval (.Constant (.int (j : Int)) kk kp) X.env)
      standAt tpos
      holding [v, ov, iv] (setItem ov iv v)
      release [v, ov, iv] []) := by intro _; rfl)
    (hs : swapsWithSole [.Subscript (.Name x xp) (.Constant (.int (j : Int)) kk kp) tpos] e pos.line X.env = pure false := by rfl) (hw : swappedStores [.Subscript (.Name x xp) (.Constant (.int (j : Int)) kk kp) tpos] e X.env = pure none := by rfl)
    (h1 : (assignEach [.Subscript (.Name x xp) (.Constant (.int (j : Int)) kk kp) tpos] X.env).map (·.2) = [assign (.Subscript (.Name x xp) (.Constant (.int (j : Int)) kk kp) tpos) X.env] := by rfl) :
    LS X ns ml m0 m1 (.Assign [.Subscript (.Name x xp) (.Constant (.int (j : Int)) kk kp) tpos] e pos) (sPool i j f) :=
  ps_weak (ps_asg hv (pg_sub (pe_var hN hvs hd hcd) pe_int set_list ha) hs hw h1) fun D σ H ⟨B, g, ρ, p, r, p', A, hf, q⟩ => by
    obtain ⟨w, p1, e1, hf⟩ := M.bind_some hf
    refine ⟨B, g, ρ, p, w, p1, A, e1, fun g1 v H1 l1 A1 r1 => ?_⟩
    split at hf
    · rename_i ps z hρ
      obtain ⟨a, ps', u, e2, hq, ep, h1, h2, h3⟩ := A1.poolAt hm hρ
      cases ep
      have r1' : Rep X.K g1 v (.int z) := r1
      cases r1'
      have fin : ∀ {ps' : Ps} {k : Nat}, ixN 4 (j : Int) = some k → r = .nx ρ → p' = some ps' → [u, V.int ps.place, .int ps.rest, .int ps.fills].set k (.int z) = [u, .int ps'.place, .int ps'.rest, .int ps'.fills] → ∃ w, σ[i]? = some (some w) ∧ tC (.int (j : Int)) σ H1 fun y H2 => rSetL w y (.int z) H2 fun H3 => D.nx σ H3 := fun {ps' k} ej er ep es => by
        subst er; subst ep
        refine ⟨_, e2, a, _, _, k, rfl, rfl, h2, ej, ?_⟩
        rw [es]
        exact q g1 σ _ l1 (A1.pokePool hq h1 h3)
      split at hf
      · cases hf; exact fin (k := 1) rfl rfl rfl rfl
      · cases hf; exact fin (k := 2) rfl rfl rfl rfl
      · cases hf; exact fin (k := 3) rfl rfl rfl rfl
      · cases hf
    · cases hf
/-- return [script, .., .., ..]: the pool is made -/
def sRetPool (ns : List Int) (fs : Rho → M (List D)) : Rho → M Fl := fun ρ p => match fs ρ p with
  | some ([.scr is, .int a, .int b, .int c], none) => if is = ns then some (.rt .pool, some ⟨a, b, c⟩) else none
  | _ => none
theorem ls_retPool {lp : Pos} (ha : LA X ns m0 m1 es fs) : LS X ns ml m0 ms (.Return (some (.List es lp)) pos) (sRetPool ns fs) := ps_weak (ps_ret (pe_lst ha)) fun D σ H ⟨B, g, ρ, p, r, p', A, hf, q⟩ => by
  unfold sRetPool at hf
  split at hf
  · rename_i is a b c e1
    split at hf
    · rename_i hi
      subst hi
      cases hf
      refine ⟨B, g, ρ, p, _, none, A, e1, fun g1 vs H1 l1 A1 r1 => ?_⟩
      have r1' : RepL X.K g1 vs [.scr is, .int a, .int b, .int c] := r1
      cases r1' with
      | cons h1 r2 =>
      cases r2 with
      | cons h2 r3 =>
      cases r3 with
      | cons h3 r4 =>
      cases r4 with
      | cons h4 r5 =>
      cases r5
      cases h2; cases h3; cases h4
      rename_i v
      refine ⟨by rw [sizeLine_eq]; show 4 ≤ 16777216; decide, fun t ht => ?_⟩
      have hq : g1.q = none := by
        have P := A1.pool
        unfold PoolAt at P
        cases e : g1.q with
        | none => rfl
        | some y => rw [e] at P; exact P.elim
      obtain ⟨n1, n2, n3⟩ := A1.none_of ht
      have le : g1.Le ⟨g1.G, some t⟩ := .of (Same.refl _) fun y hy => by rw [hq] at hy; cases hy
      have A2 := (A1.alloc (o := .lst [v, .int a, .int b, .int c]) ht).forget
      refine q ⟨g1.G, some t⟩ σ _ _ (l1.trans le) ⟨A2.len, A2.sub, fun y o e hy => A2.keep y o e (by rw [hq]; simp), A2.le.trans le, A2.fz, fun y e => ?_, ?_, fun _ _ e => (by cases e), fun _ _ _ h => (by cases h)⟩ (.pool rfl)
      · cases e; exact .inr n2
      · exact ⟨n1, v, upd_same, h1.mono le⟩
    · cases hf
  · cases hf
end
end Lf

/-! Lift8: chains, is, calls by name, weakening ahead. -/
namespace Lf
open PySem PySem.Spec PyProof.Rows L2

theorem hu65 {k : Nat} {A : Around} (hr : Room k A) : A.units + 65 < cLine := by
  have := hr.un
  omega
theorem hu64 {k : Nat} {A : Around} (hr : Room k A) : A.units + 64 < cLine := by
  have := hr.un
  omega

theorem hu1 {k : Nat} {A : Around} (hr : Room k A) : A.units + 1 < cLine := by
  have := hr.un
  omega
/-- a def of the text, and that it keeps its promise -/
def HasFn (P : Program) (w : World) (K : PySem.W.Frag) (mg : Str → Option Value) (base : Heap) (ns : List Int) (x : Str) (k np : Nat) (F : List D → M D) : Prop :=
  ∃ fa fd ps, FnOk P w K mg base CX0 k fa fd ps (spD K ns np F) ∧ mg x = some (.ref fa) ∧ PySem.W.keepIn K (.ref fa) = true ∧ L2.Binds K fd ps []
/-- a def of the text as it stands -/
def FunAt (K : PySem.W.Frag) (mg : Str → Option Value) (x : Str) (st : Stmt) (ps : List Str) : Prop := ∃ fa fd, Fun K x x st fa fd ∧ mg x = some (.ref fa) ∧ L2.Binds K fd ps []
theorem HasFn.of {P : Program} {w : World} {K : PySem.W.Frag} {mg : Str → Option Value} {base : Heap} {x : Str} {st : Stmt} {N ps : List Str} {k : Nat} {ns : List Int} {body : Rho → M Fl}
    (F : FunAt K mg x st ps) (S : FnScope N ps (defScope st)) (hle : ps.length ≤ N.length)
    (h : ∀ (f : Addr) (cdv : Value) (A : Around) (outer : List Env) (s : Shared) (H : Hp) (E : XK), Room k (A.deeper (envOfC x (defScope st) s.heap.objs.size f cdv)) →
      ∃ ms', LSs (cxOf CX0 P w K mg base N x (defScope st) f cdv A outer s H E).nox ns [] [] ms' (defBody st) body) : HasFn P w K mg base ns x (k + 1) ps.length (runFn body) := by
  obtain ⟨fa, fd, F, hm, hb⟩ := F
  exact ⟨fa, fd, ps, fn_lift F S hle (h fa), hm, F.kp, hb⟩

/-- a def that is never to be called -/
theorem HasFn.zero {P : Program} {w : World} {K : PySem.W.Frag} {mg : Str → Option Value} {base : Heap} {x : Str} {st : Stmt} {ps : List Str} {k : Nat} {ns : List Int} (F : FunAt K mg x st ps) : HasFn P w K mg base ns x k ps.length (fun _ => M.fail) := by
  obtain ⟨fa, fd, F, hm, hb⟩ := F
  exact ⟨fa, fd, ps, ⟨fun vs H Q E h => by obtain ⟨_, _, _, _, _, h, _⟩ := h; exact h, fun A outer s H args us vs Q E hr he hb' hv hs => by obtain ⟨_, _, _, _, _, _, _, _, _, h, _⟩ := hs; cases h⟩, hm, F.kp, hb⟩
section
variable {X : Cx} {ns : List Int} {ml ms m0 m1 m2 m3 : List Nat} {a b c e : Expr} {es : List Expr} {f h k : Rho → M D} {fs : Rho → M (List D)} {tf : Rho → M Bool} {pos px : Pos} {x : Str} {st : Stmt} {sts : List Stmt} {fb : Rho → M Fl}
/-- fewer own slots ahead of a statement -/
theorem ls_pre (hs : subm m1 m0 = true) (h1 : LS X ns ml m1 m2 st fb) : LS X ns ml m0 m2 st fb := ps_weak h1 fun D σ H ⟨B, g, ρ, p, r, p', A, hf, q⟩ => by
  obtain ⟨g', l, _, A'⟩ := A.weak hs
  exact ⟨B, g', ρ, p, r, p', A', hf, q.le l⟩
theorem lss_never : LSs X ns ml ms m1 sts (fun _ => M.fail) := pss_weak pss_never fun D σ H ⟨B, g, ρ, p, r, p', A, hf, q⟩ => by cases hf
theorem ls_never : LS X ns ml ms m1 st (fun _ => M.fail) := ps_weak ps_never fun D σ H ⟨B, g, ρ, p, r, p', A, hf, q⟩ => by cases hf
theorem le_callN {kk kx np : Nat} {F : List D → M D} (hf : HasFn X.prog X.w X.K X.mg X.base ns x kk np F) (hr : Room kx X.A) (hk : kk ≤ kx) (hg : Gl X x) (ha : LA X ns m0 m1 (e :: es) fs)
    (hfl : ∀ ρ p ds p', fs ρ p = some (ds, p') → ds.length = np) (hdb : (x == ("__debug__" : Str)) = false := by decide) (he : starEach (e :: es) X.env = (false, eval e X.env) :: starEach es X.env := by rfl) (hpl : (backTo pos (starEach es X.env)).any (·.1) = false := by rfl) :
    LE X ns m0 m1 (.Call (.Name x px) (e :: es) [] pos) (eCall F fs) := by
  obtain ⟨fa, fd, ps, Fk, hm, hkp, hb⟩ := hf
  refine pe_weak (pe_call (dvs := []) (E := E0) Fk (hr.mono hk) hg hm hkp hb .nil pass0 ha hdb he hpl) fun σ H Q ⟨B, g, ρ, p, d, p', A, hf, q⟩ => ?_
  obtain ⟨xs, p1, e1, hf⟩ := M.bind_some hf
  refine ⟨B, g, ρ, p, xs, p1, A, e1, fun g1 vs H1 l1 A1 r1 => ?_⟩
  show spD X.K ns np F (vs ++ []) H1 Q E0
  rw [List.append_nil]
  exact ⟨g1, xs, p1, d, p', by rw [r1.length]; exact hfl _ _ _ _ e1, A1.sub, A1.pool, r1, hf, fun g2 v H2 l2 s2 k2 z2 q2 pl2 r2 => q g2 v H2 (l1.trans l2) (A1.called l2 s2 k2 z2 q2 pl2) r2⟩

/-! ### a op b op c -/
def eChain (o o' : D → D → Option D) (f h k : Rho → M D) : Rho → M D := fun ρ => (f ρ).bind fun x => (h ρ).bind fun y => (M.lift (o x y)).bind fun z => match z with
  | .bl true => (k ρ).bind fun w => M.lift (o' y w)
  | .bl false => M.pure (.bl false)
  | _ => M.fail
theorem chain_w {r r' : R2} {o o' : D → D → Option D} (h2 : Op2 rN X r o) (h2' : Op2 rN X r' o') {σ : L2.St} {H : Hp} {Q : VK} (hw : lX (rN X.K m0) X.K X.N.length ns m0 m0 (eChain o o' f h k) σ H Q) :
    tChain r r' (lX (rB X.K m0) X.K X.N.length ns m0 m0 f) (lX (rB X.K m0) X.K X.N.length ns m0 m0 h) (lX (rB X.K m0) X.K X.N.length ns m0 m0 k) σ H Q := by
  obtain ⟨B, g, ρ, p, d, p', A, hf, q⟩ := hw
  obtain ⟨x, p1, e1, hf⟩ := M.bind_some hf
  obtain ⟨y, p2, e2, hf⟩ := M.bind_some hf
  obtain ⟨z, p3, e3, hf⟩ := M.bind_some hf
  obtain ⟨e3', e4⟩ := M.lift_some e3
  rw [e4] at hf
  refine ⟨B, g, ρ, p, x, p1, A, e1, fun g1 v H1 l1 A1 r1 => ⟨B, g1, ρ, p1, y, p2, A1, e2, fun g2 w H2 l2 A2 r2 => ?_⟩⟩
  refine h2 A2 ((Held.mono l2 r1).view A2) (Held.view A2 r2) e3' fun u g3 H3 l3 A3 fr => ?_
  split at hf
  · rename_i hz
    refine ⟨true, fresh_bl fr, ?_⟩
    rw [if_pos rfl]
    obtain ⟨w', p4, e5, hf⟩ := M.bind_some hf
    obtain ⟨e6, e7⟩ := M.lift_some hf
    subst e7
    exact ⟨B, g3, ρ, p2, w', _, A3, e5, fun g4 v4 H4 l4 A4 r4 => h2' A4 ((Held.mono (l3.trans l4) r2).view A4) (Held.view A4 r4) e6 fun u5 g5 H5 l5 A5 fr5 => q g5 u5 H5 ((((l1.trans l2).trans l3).trans l4).trans l5) A5 fr5⟩
  · rename_i hz
    refine ⟨false, fresh_bl fr, ?_⟩
    rw [if_neg Bool.false_ne_true]
    obtain ⟨e5, e6⟩ := M.pure_some hf
    rw [e5, e6] at q
    exact q g3 _ H3 ((l1.trans l2).trans l3) A3 (fr_bl _)
  · cases hf
theorem ln_chain {op op' : CmpOp} {r r' : R2} {o o' : D → D → Option D} (ho : OpR X (compareOp op) r) (ho' : OpR X (compareOp op') r') (h2 : Op2 rN X r o) (h2' : Op2 rN X r' o') (ha : LB X ns m0 m0 a f) (hb : LB X ns m0 m0 b h) (hc : LB X ns m0 m0 c k)
    (hm : lastMarks [op, op'] [b, c] = false := by with_unfolding_all rfl) : LN X ns m0 m0 (.Compare a [op, op'] [b, c] pos) (eChain o o' f h k) := pe_weak (pe_chain ho ho' ha hb hc hm) fun _ _ _ hw => chain_w h2 h2' hw
theorem lt_chain {op op' : CmpOp} {r r' : R2} {o o' : D → D → Option D} (ho : OpR X (compareOp op) r) (ho' : OpR X (compareOp op') r') (h2 : Op2 rN X r o) (h2' : Op2 rN X r' o') (ha : LB X ns m0 m0 a f) (hb : LB X ns m0 m0 b h) (hc : LB X ns m0 m0 c k)
    (hm : lastMarks [op, op'] [b, c] = false := by with_unfolding_all rfl) : LT X ns m0 m0 (.Compare a [op, op'] [b, c] pos) (tOf (eChain o o' f h k)) := pt_weak (pt_chain ho ho' ha hb hc hm) fun σ H Q ⟨B, g, ρ, p, d, p', A, hf, q⟩ => by
  obtain ⟨x, p1, e1, hf⟩ := M.bind_some hf
  obtain ⟨e2, e3⟩ := M.lift_some hf
  have := asB_some e2
  subst this; subst e3
  exact chain_w h2 h2' ⟨B, g, ρ, p, _, _, A, e1, fun g' v H' l A' fr => ⟨d, fresh_bl fr, q g' H' l A'⟩⟩

/-! ### is True, is not True -/
def dIsB : D → D → Option D
  | .bl a, .bl b => some (.bl (a == b))
  | _, _ => none
def dNotB : D → D → Option D
  | .bl a, .bl b => some (.bl (!(a == b)))
  | _, _ => none
theorem op_isBool : OpR X (compareOp .Is) (fun x y H Q => ∃ i j, x = .bl i ∧ y = .bl j ∧ Q (.bl (i == j)) H) := by
  intro pins s σ H x y v u Q I rx ry h
  obtain ⟨i, j, rfl, rfl, q⟩ := h
  cases rx; cases ry
  exact is_bool ⟨.bl _, H, I, rfl, q⟩
theorem op_notBool : OpR X (compareOp .IsNot) (fun x y H Q => ∃ i j, x = .bl i ∧ y = .bl j ∧ Q (.bl (!(i == j))) H) := by
  intro pins s σ H x y v u Q I rx ry h
  obtain ⟨i, j, rfl, rfl, q⟩ := h
  cases rx; cases ry
  exact isnot_bool ⟨.bl _, H, I, rfl, q⟩
theorem op2_isB : Op2 rN X (fun x y H Q => ∃ i j, x = .bl i ∧ y = .bl j ∧ Q (.bl (i == j)) H) dIsB := by
  intro ns ms B gs ρ p σ H v w x y z Q A vx vy e q
  cases x <;> try (cases e; done)
  cases y <;> try (cases e; done)
  cases e
  cases vw_bl vx; cases vw_bl vy
  exact ⟨_, _, rfl, rfl, q _ gs H (Gs.Le.refl gs) A (fr_bl _)⟩
theorem op2_notB : Op2 rN X (fun x y H Q => ∃ i j, x = .bl i ∧ y = .bl j ∧ Q (.bl (!(i == j))) H) dNotB := by
  intro ns ms B gs ρ p σ H v w x y z Q A vx vy e q
  cases x <;> try (cases e; done)
  cases y <;> try (cases e; done)
  cases e
  cases vw_bl vx; cases vw_bl vy
  exact ⟨_, _, rfl, rfl, q _ gs H (Gs.Le.refl gs) A (fr_bl _)⟩

/-! ### {} -/
def eDk : Rho → M D := fun _ => M.pure (.dct [])
theorem ln_dictK : LN X ns ms ms (.Dict [] [] pos) eDk := pe_weak pe_dnewK fun σ H Q ⟨B, g, ρ, p, d, p', A, hf, q⟩ => by
  obtain ⟨e1, e2⟩ := M.pure_some hf
  subst e1; subst e2
  intro t ht
  obtain ⟨n1, n2, n3⟩ := A.none_of ht
  have L := A.loose ht
  exact q g _ _ (Gs.Le.refl g) (A.alloc ht) (.inr ⟨⟨t, [], rfl, upd_same, .nil, n1, n2, n3⟩, fun i hi hρ a ea => by cases ea; exact L.hs i hi hρ⟩)

/-! ### a module's own name for a built-in function (gcd) -/
theorem lx_callG {R : RF} {id : String} {r : List V → Hp → VK → Prop} {o : List D → Option D} (hc : CallR X (.builtin id) r) (h2 : OpN R X r o) (hg : Gl X x) (hm : X.mg x = some (.builtin id)) (ha : LAB X ns m0 m1 (e :: es) fs)
    (hdb : (x == ("__debug__" : Str)) = false := by decide) (he : starEach (e :: es) X.env = (false, eval e X.env) :: starEach es X.env := by rfl) (hpl : (backTo pos (starEach es X.env)).any (·.1) = false := by rfl) :
    LX R X ns m0 m1 (.Call (.Name x px) (e :: es) [] pos) (eCallB o fs) :=
  pe_weak (pe_callBfun hc hg hm ha hdb he hpl) fun σ H Q ⟨B, g, ρ, p, d, p', A, hf, q⟩ => by
    obtain ⟨xs, p1, e1, hf⟩ := M.bind_some hf
    obtain ⟨e3, e4⟩ := M.lift_some hf
    subst e4
    exact ⟨B, g, ρ, p, xs, p', A, e1, fun g1 vs H1 l1 A1 r1 => h2 A1 (HeldL.view A1 r1) e3 fun u g2 H' l2 A' fr => q g2 u H' (l1.trans l2) A' fr⟩

/-! ### a module's tuple -/
/-- a value of the written part that is data -/
def KRep (K : PySem.W.Frag) (u : Value) (d : D) : Prop := ∃ v, RelV v u ∧ ∀ g, Rep K g v d
theorem le_globD {u : Value} {d : D} (hg : Gl X x) (hm : X.mg x = some u) (r : KRep X.K u d) (hd : (x == ("__debug__" : Str)) = false := by decide) : LE X ns ms ms (.Name x pos) (eC d) := by
  obtain ⟨v, rv, rr⟩ := r
  exact le_c (pe_glob hg hm rv hd) rr
end
end Lf

/-! Lift9: isinstance, is of bools, parallel assignment. -/
namespace Lf
open PySem PySem.Spec PyProof.Rows L2

section
variable {X : Cx} {ns : List Int} {ml ms m0 m1 m2 m3 : List Nat} {a b c e : Expr} {es : List Expr} {f h k : Rho → M D} {fs : Rho → M (List D)} {tf : Rho → M Bool} {pos px : Pos} {x y : Str} {st : Stmt} {sts : List Stmt} {fb : Rho → M Fl}

/-! ### is True -/
def isBl : D → Bool → Bool
  | .bl a, b => a == b
  | _, _ => false
def dIsBA : D → D → Option D
  | d, .bl b => some (.bl (isBl d b))
  | _, _ => none
def dNotBA : D → D → Option D
  | d, .bl b => some (.bl (!isBl d b))
  | _, _ => none
theorem vw_isBl {K : PySem.W.Frag} {g : Gs} {H : Hp} {v : V} {d : D} {b : Bool} (h : View K g H v d) : decide (v = .bl b) = isBl d b := by
  cases d with
  | bl a =>
    cases vw_bl h
    cases a <;> cases b <;> rfl
  | lst ds => obtain ⟨a, xs, rfl, _⟩ := h; rfl
  | dct ds => obtain ⟨a, xs, rfl, _⟩ := h; rfl
  | dcu ds => obtain ⟨a, xs, rfl, _⟩ := h; rfl
  | non => cases h; rfl
  | int i => cases h; rfl
  | str x => cases h; rfl
  | tup ds => cases h; rfl
  | pool => cases h; rfl
  | scr is => cases h; rfl
theorem plain_bl {x : V} {v : Value} {b : Bool} (r : RelV x v) : plainIs v (.bool b) = true ∧ (v == Value.bool b) = decide (x = .bl b) := by
  have key : ∀ {w : Value}, w ≠ .bool b → (w == Value.bool b) = false := fun {w} h => beq_eq_false_iff_ne.mpr h
  cases x with
  | non => cases (show v = Value.none from r); exact ⟨rfl, (key (by intro z; cases z)).trans (decide_eq_false (by intro z; cases z)).symm⟩
  | bl a =>
    cases (show v = Value.bool a from r)
    refine ⟨rfl, ?_⟩
    by_cases e : a = b
    · subst e; simp
    · rw [key (fun z => e (Value.bool.inj z)), decide_eq_false (fun z => e (V.bl.inj z))]
  | int i => obtain ⟨t, rfl⟩ := (show ∃ t, v = Value.int i t from r); exact ⟨rfl, (key (by intro z; cases z)).trans (decide_eq_false (by intro z; cases z)).symm⟩
  | str i => obtain ⟨t, rfl⟩ := (show ∃ t, v = Value.str i t from r); exact ⟨rfl, (key (by intro z; cases z)).trans (decide_eq_false (by intro z; cases z)).symm⟩
  | byt i => obtain ⟨t, rfl⟩ := (show ∃ t, v = Value.bytes i t from r); exact ⟨rfl, (key (by intro z; cases z)).trans (decide_eq_false (by intro z; cases z)).symm⟩
  | flt i => obtain ⟨t, rfl⟩ := (show ∃ t, v = Value.float i t from r); exact ⟨rfl, (key (by intro z; cases z)).trans (decide_eq_false (by intro z; cases z)).symm⟩
  | ref a => cases (show v = Value.ref a from r); exact ⟨rfl, (key (by intro z; cases z)).trans (decide_eq_false (by intro z; cases z)).symm⟩
  | ty n => cases (show v = Value.type n from r); exact ⟨rfl, (key (by intro z; cases z)).trans (decide_eq_false (by intro z; cases z)).symm⟩
theorem op_isBA : OpR X (compareOp .Is) (fun x y H Q => ∃ j, y = .bl j ∧ Q (.bl (decide (x = .bl j))) H) := by
  intro pins s σ H x y v u Q I rx ry h
  obtain ⟨j, rfl, q⟩ := h
  cases ry
  obtain ⟨h1, h2⟩ := plain_bl (b := j) rx
  exact wpAny_is_plain h1 ⟨.bl _, H, I, by rw [h2]; rfl, q⟩
theorem op_notBA : OpR X (compareOp .IsNot) (fun x y H Q => ∃ j, y = .bl j ∧ Q (.bl (!decide (x = .bl j))) H) := by
  intro pins s σ H x y v u Q I rx ry h
  obtain ⟨j, rfl, q⟩ := h
  cases ry
  obtain ⟨h1, h2⟩ := plain_bl (b := j) rx
  exact wpAny_isNot_plain h1 ⟨.bl _, H, I, by rw [h2]; rfl, q⟩
theorem op2_isBA : Op2 rN X (fun x y H Q => ∃ j, y = .bl j ∧ Q (.bl (decide (x = .bl j))) H) dIsBA := by
  intro ns ms B gs ρ p σ H v w x y z Q A vx vy e q
  cases y <;> try (cases x <;> cases e; done)
  rename_i jb
  have e' : some (D.bl (isBl x jb)) = some z := by cases x <;> exact e
  cases e'
  cases vw_bl vy
  refine ⟨_, rfl, ?_⟩
  rw [vw_isBl vx]
  exact q _ gs H (Gs.Le.refl gs) A (fr_bl _)
theorem op2_notBA : Op2 rN X (fun x y H Q => ∃ j, y = .bl j ∧ Q (.bl (!decide (x = .bl j))) H) dNotBA := by
  intro ns ms B gs ρ p σ H v w x y z Q A vx vy e q
  cases y <;> try (cases x <;> cases e; done)
  rename_i jb
  have e' : some (D.bl (!isBl x jb)) = some z := by cases x <;> exact e
  cases e'
  cases vw_bl vy
  refine ⟨_, rfl, ?_⟩
  rw [vw_isBl vx]
  exact q _ gs H (Gs.Le.refl gs) A (fr_bl _)

/-! ### isinstance(x, T) -/
def tyOf : D → Option String
  | .non => some "NoneType"
  | .bl _ => some "bool"
  | .int _ => some "int"
  | .str _ => some "str"
  | .lst _ => some "list"
  | .tup _ => some "tuple"
  | .dct _ => some "dict"
  | .dcu _ => some "dict"
  | _ => none
theorem vw_ty {K : PySem.W.Frag} {g : Gs} {H : Hp} {v : V} {d : D} {t : String} (sg : Same g.G H) (h : View K g H v d) (e : tyOf d = some t) : (∃ kvs a o, v = .ref a ∧ d = .dcu kvs ∧ ∃ es, H a = some (.frz o (.dT es))) ∨ TyX K H v (.type t) := by
  cases d with
  | non => cases h; cases e; exact .inr (.base .non)
  | bl a => cases h; cases e; exact .inr (.base (.bl _))
  | int i => cases h; cases e; exact .inr (.base (.int _))
  | str x => cases h; cases e; exact .inr (.base (.str _))
  | lst ds =>
    obtain ⟨a, xs, rfl, h1, _⟩ := h
    cases e
    rcases h1 with h1 | ⟨o, h1⟩
    · exact .inr (.base (.lst h1))
    · exact .inr (.base (.frz h1))
  | tup ds =>
    obtain ⟨a, xs, rfl, h1, _⟩ := vw_tup sg h
    cases e
    rcases h1 with (h1 | ⟨o, h1⟩) | ⟨o, its, n, h1, h2, _⟩
    · exact .inr (.base (.tup h1))
    · exact .inr (.fTuple h1)
    · exact .inr (.kTuple h1 h2)
  | dct ds =>
    obtain ⟨a, xs, rfl, h1, _⟩ := h
    cases e
    rcases h1 with h1 | ⟨o, h1⟩
    · exact .inr (.base (.dK h1))
    · exact .inr (.fDict h1)
  | dcu ds =>
    obtain ⟨a, xs, rfl, h1, _⟩ := h
    cases e
    rcases h1 with h1 | ⟨o, h1⟩
    · exact .inr (.base (.dT h1))
    · exact .inl ⟨_, a, o, rfl, rfl, _, h1⟩
  | _ => cases e
/-- T's answer for a type -/
def isTy (T t : String) : Bool := t == T || (T == "int" && t == "bool")
def eIsi (T : String) (f : Rho → M D) : Rho → M D := fun ρ => (f ρ).bind fun d => match d with
  | .dcu _ => M.fail
  | d => match tyOf d with
    | some t => M.pure (.bl (isTy T t))
    | none => M.fail
theorem kit_is {K : PySem.W.Frag} {T t : String} {d : D} (hT : T = "dict" ∨ T = "list" ∨ T = "tuple" ∨ T = "str" ∨ T = "int" ∨ T = "bool") (e : tyOf d = some t) : PySem.W.kitOne K (.type t) (.type T) = some (isTy T t) := by
  have ht : t = "NoneType" ∨ t = "bool" ∨ t = "int" ∨ t = "str" ∨ t = "list" ∨ t = "tuple" ∨ t = "dict" := by
    cases d <;> first | (cases e; simp; done) | cases e
  rcases hT with rfl | rfl | rfl | rfl | rfl | rfl <;> rcases ht with rfl | rfl | rfl | rfl | rfl | rfl | rfl <;> exact kit_ty (by decide +kernel)
theorem ln_isi {T : String} {tn : Str} {tp : Pos} (hT : T = "dict" ∨ T = "list" ∨ T = "tuple" ∨ T = "str" ∨ T = "int" ∨ T = "bool") (hg : Gl X "isinstance") (hm : X.mg "isinstance" = none) (hgT : Gl X tn) (hmT : X.mg tn = none) (hvT : bootBuiltins tn = some (.type T)) (ha : LB X ns m0 m1 e f)
    (hs : starEach [e, .Name tn tp] X.env = (false, eval e X.env) :: starEach [.Name tn tp] X.env := by rfl) (hs2 : starEach [.Name tn tp] X.env = (false, eval (.Name tn tp) X.env) :: starEach [] X.env := by rfl) (hpl : (backTo pos (starEach [.Name tn tp] X.env)).any (·.1) = false := by rfl)
    (hn2 : tn ≠ "__name__" := by decide) (hd2 : (tn == ("__debug__" : Str)) = false := by decide) :
    LN X ns m0 m1 (.Call (.Name "isinstance" px) [e, .Name tn tp] [] pos) (eIsi T f) :=
  pe_weak (pe_callB call_isi hg hm boot_isinstance (pa_cons ha (pa_cons (pe_bltn (v := .ty T) hgT hmT hvT rfl hn2 hd2) pa_nil hs2) hs) (hn := by decide) (hdb := by decide) (he := hs) (hpl := hpl)) fun σ H Q ⟨B, g, ρ, p, d, p', A, hf, q⟩ => by
    obtain ⟨y, p1, e1, hf⟩ := M.bind_some hf
    refine ⟨B, g, ρ, p, y, p1, A, e1, fun g1 v H1 l1 A1 r1 => ?_⟩
    have vw := Held.view A1 r1
    have nd : ∀ kvs, y ≠ .dcu kvs := fun kvs z => by subst z; cases hf
    have hf' : (match tyOf y with
      | some t => M.pure (D.bl (isTy T t))
      | none => M.fail) p1 = some (d, p') := by
      cases y with
      | dcu kvs => exact absurd rfl (nd kvs)
      | _ => exact hf
    cases et : tyOf y with
    | none => rw [et] at hf'; cases hf'
    | some t =>
      rw [et] at hf'
      obtain ⟨e2, e3⟩ := M.pure_some hf'
      rw [e2, e3] at q
      rcases vw_ty A1.sub vw et with ⟨kvs, _, _, _, z, _⟩ | ty
      · exact absurd z (nd kvs)
      · exact ⟨v, .ty T, .type t, .type T, isTy T t, rfl, .ty T, ty, kit_is hT et, q g1 _ H1 l1 A1 (fr_bl _)⟩

/-! ### scalars are new -/
theorem ln_c {d : D} {v : V} (h : PE X e (tC v)) (r : ∀ g, Rep X.K g v d) (hb : d.isBox = false) : LN X ns ms ms e (eC d) :=
  pe_weak h fun σ H Q ⟨B, g, ρ, p, d', p', A, hf, q⟩ => by
    obtain ⟨e1, e2⟩ := M.pure_some hf
    subst e1; subst e2
    exact q g v H (Gs.Le.refl g) A (.inl ⟨hb, r g⟩)

/-! ### a, b = x, y -/
def sPar (i j : Nat) (f h : Rho → M D) : Rho → M Fl := fun ρ => (f ρ).bind fun x => (h ρ).bind fun y => M.pure (.nx ((ρ.upd i x).upd j y))
def sParNE (i j : Nat) (f h : Rho → M D) : Rho → M Fl := fun ρ => (f ρ).bind fun x => (h ρ).bind fun y => if x.isBox = true then M.pure (.nx ((ρ.upd i x).upd j y)) else M.fail
def sParNN (i j : Nat) (f h : Rho → M D) : Rho → M Fl := fun ρ => (f ρ).bind fun x => (h ρ).bind fun y => if x.isBox = true ∧ y.isBox = true then M.pure (.nx ((ρ.upd i x).upd j y)) else M.fail
theorem lt_of_get {N : List Str} {i : Nat} {x : Str} (h : N[i]? = some x) : i < N.length := by
  by_cases hl : i < N.length
  · exact hl
  · rw [List.getElem?_eq_none (Nat.le_of_not_lt hl)] at h; cases h
theorem ls_par {qx qy pt : Pos} {kt k2 pt2} (i j : Nat) (hc : X.calm = true) (hN : X.N.Nodup) (ha : LE X ns m0 m0 a f) (hb : LE X ns m0 m0 b h) (hi : X.N[i]? = some x := by rfl) (hj : X.N[j]? = some y := by rfl) (hij : i ≠ j := by decide)
    (hx : X.env.scope.names.lookup x = some .local := by rfl) (hy : X.env.scope.names.lookup y = some .local := by rfl) (hmi : m0.contains i = false := by rfl) (hmj : m0.contains j = false := by rfl)
    (hw : swappedStores [.Tuple [.Name x qx, .Name y qy] kt pt] (.Tuple [a, b] k2 pt2) X.env = pure (some [x, y]) := by rfl)
    (hs : swapsWithSole [.Tuple [.Name x qx, .Name y qy] kt pt] (.Tuple [a, b] k2 pt2) pos.line X.env = pure false := by rfl)
    (h1 : starEach [a, b] X.env = (false, eval a X.env) :: starEach [b] X.env := by rfl) (h2 : starEach [b] X.env = (false, eval b X.env) :: starEach [] X.env := by rfl) :
    LS X ns ml m0 m0 (.Assign [.Tuple [.Name x qx, .Name y qy] kt pt] (.Tuple [a, b] k2 pt2) pos) (sPar i j f h) :=
  ps_weak (ps_par hc hN hi hj hij hx hy (pa_cons ha (pa_cons hb pa_nil h2) h1) hw hs) fun D σ H ⟨B, g, ρ, p, r, p', A, hf, q⟩ => by
    obtain ⟨d, p1, e1, hf⟩ := M.bind_some hf
    obtain ⟨d2, p2, e2, hf⟩ := M.bind_some hf
    obtain ⟨e3, e4⟩ := M.pure_some hf
    rw [e3, e4] at q
    refine ⟨B, g, ρ, p, d, p1, A, e1, fun g1 v H1 l1 A1 r1 => ⟨B, g1, ρ, p1, d2, p2, A1, e2, fun g2 w H2 l2 A2 r2 => ⟨v, w, rfl, ?_⟩⟩⟩
    have s1 := (A2.set (lt_of_get hi) (Rep.mono l2 r1)).congr (del_not hmi)
    have s2 := (s1.set (lt_of_get hj) r2).congr (del_not hmj)
    exact q g2 _ H2 (l1.trans l2) s2
/-- a fresh value while another expression runs -/
theorem Fresh.hold {K : PySem.W.Frag} {n : Nat} {B : Bs} {g : Gs} {ρ : Rho} {p : Pl} {σ : L2.St} {H : Hp} {v : V} {d : D} (A : Abs K n ns ms B g ρ p σ H) (h : Fresh K ms g B ρ σ H v d) (hd : d.isBox = true) :
    ∃ D o, v = .ref D ∧ H D = some o ∧ Loose ms B g ρ σ D ∧ B.g.G D = none ∧ B.g.q ≠ some D ∧
      ∀ g' ρ' p' σ' H', g.Le g' → Abs K n ns ms (B.guard D o) g' ρ' p' σ' H' → Abs K n ns ms B g' ρ' p' σ' H' ∧ Loose ms B g' ρ' σ' D ∧ Own K g' B H' v d := by
  rcases h with ⟨z, _⟩ | ⟨ow, un⟩
  · rw [hd] at z; cases z
  · obtain ⟨D, o, rfl, h1, h2, h3, h4⟩ := ow.ref
    have L : Loose ms B g ρ σ D := ⟨h2, h3, h4, fun i hi hρ => un i hi hρ D rfl⟩
    have hgD : B.g.G D = none := by
      cases e : B.g.G D with
      | none => rfl
      | some o => exact absurd h2 (A.le.dom D (by rw [e]; simp))
    have hqD : B.g.q ≠ some D := fun z => h4 (A.le.pool D z)
    refine ⟨D, o, rfl, h1, L, hgD, hqD, fun g' ρ' p' σ' H' le A' => ?_⟩
    obtain ⟨u1, u2, u3⟩ := A'.unguard h3 hgD hqD
    exact ⟨u1, u2, ow.move le fun c ec => by cases ec; exact ⟨by rw [u3, h1], u2.hg, u2.hq⟩⟩
theorem ls_parNE {qx qy pt : Pos} {kt k2 pt2} (i j : Nat) (hc : X.calm = true) (hN : X.N.Nodup) (ha : LN X ns m0 m0 a f) (hb : LE X ns m0 m0 b h) (hi : X.N[i]? = some x := by rfl) (hj : X.N[j]? = some y := by rfl) (hij : i ≠ j := by decide)
    (hx : X.env.scope.names.lookup x = some .local := by rfl) (hy : X.env.scope.names.lookup y = some .local := by rfl)
    (hw : swappedStores [.Tuple [.Name x qx, .Name y qy] kt pt] (.Tuple [a, b] k2 pt2) X.env = pure (some [x, y]) := by rfl)
    (hs : swapsWithSole [.Tuple [.Name x qx, .Name y qy] kt pt] (.Tuple [a, b] k2 pt2) pos.line X.env = pure false := by rfl)
    (h1 : starEach [a, b] X.env = (false, eval a X.env) :: starEach [b] X.env := by rfl) (h2 : starEach [b] X.env = (false, eval b X.env) :: starEach [] X.env := by rfl) :
    LS X ns ml m0 (del (i :: del m0 i) j) (.Assign [.Tuple [.Name x qx, .Name y qy] kt pt] (.Tuple [a, b] k2 pt2) pos) (sParNE i j f h) :=
  ps_weak (ps_par hc hN hi hj hij hx hy (pa_cons ha (pa_cons hb pa_nil h2) h1) hw hs) fun D σ H ⟨B, g, ρ, p, r, p', A, hf, q⟩ => by
    obtain ⟨d, p1, e1, hf⟩ := M.bind_some hf
    obtain ⟨d2, p2, e2, hf⟩ := M.bind_some hf
    split at hf
    · rename_i hd
      obtain ⟨e3, e4⟩ := M.pure_some hf
      rw [e3, e4] at q
      refine ⟨B, g, ρ, p, d, p1, A, e1, fun g1 v H1 l1 A1 r1 => ?_⟩
      obtain ⟨D', o, ev, hD, L, hgD, hqD, back⟩ := Fresh.hold A1 r1 hd
      refine ⟨B.guard D' o, g1, ρ, p1, d2, p2, A1.guard L hD, e2, fun g2 w H2 l2 A2 r2 => ⟨v, w, rfl, ?_⟩⟩
      obtain ⟨A2', L2, ow⟩ := back g2 ρ p2 σ H2 l2 A2
      have s1 := A2'.setOwn (lt_of_get hi) ow (fun k hk hρ c ec => by rw [ev] at ec; cases ec; exact L2.hs k hk hρ)
      exact q g2 _ H2 (l1.trans l2) (s1.set (lt_of_get hj) r2)
    · cases hf
theorem ls_parNN {qx qy pt : Pos} {kt k2 pt2} (i j : Nat) (hc : X.calm = true) (hN : X.N.Nodup) (ha : LN X ns m0 m0 a f) (hb : LN X ns m0 m0 b h) (hi : X.N[i]? = some x := by rfl) (hj : X.N[j]? = some y := by rfl) (hij : i ≠ j := by decide)
    (hx : X.env.scope.names.lookup x = some .local := by rfl) (hy : X.env.scope.names.lookup y = some .local := by rfl)
    (hw : swappedStores [.Tuple [.Name x qx, .Name y qy] kt pt] (.Tuple [a, b] k2 pt2) X.env = pure (some [x, y]) := by rfl)
    (hs : swapsWithSole [.Tuple [.Name x qx, .Name y qy] kt pt] (.Tuple [a, b] k2 pt2) pos.line X.env = pure false := by rfl)
    (h1 : starEach [a, b] X.env = (false, eval a X.env) :: starEach [b] X.env := by rfl) (h2 : starEach [b] X.env = (false, eval b X.env) :: starEach [] X.env := by rfl) :
    LS X ns ml m0 (j :: del (i :: del m0 i) j) (.Assign [.Tuple [.Name x qx, .Name y qy] kt pt] (.Tuple [a, b] k2 pt2) pos) (sParNN i j f h) :=
  ps_weak (ps_par hc hN hi hj hij hx hy (pa_cons ha (pa_cons hb pa_nil h2) h1) hw hs) fun D σ H ⟨B, g, ρ, p, r, p', A, hf, q⟩ => by
    obtain ⟨d, p1, e1, hf⟩ := M.bind_some hf
    obtain ⟨d2, p2, e2, hf⟩ := M.bind_some hf
    split at hf
    · rename_i hd
      obtain ⟨e3, e4⟩ := M.pure_some hf
      rw [e3, e4] at q
      refine ⟨B, g, ρ, p, d, p1, A, e1, fun g1 v H1 l1 A1 r1 => ?_⟩
      obtain ⟨D', o, ev, hD, L, hgD, hqD, back⟩ := Fresh.hold A1 r1 hd.1
      refine ⟨B.guard D' o, g1, ρ, p1, d2, p2, A1.guard L hD, e2, fun g2 w H2 l2 A2 r2 => ⟨v, w, rfl, ?_⟩⟩
      obtain ⟨A2', L2, ow⟩ := back g2 ρ p2 σ H2 l2 A2
      rcases r2 with ⟨z, _⟩ | ⟨ow2, un2⟩
      · rw [hd.2] at z; cases z
      · obtain ⟨ow2', nw⟩ := ow2.unguard L.hb
        have s1 := A2'.setOwn (lt_of_get hi) ow (fun k hk hρ c ec => by rw [ev] at ec; cases ec; exact L2.hs k hk hρ)
        refine q g2 _ H2 (l1.trans l2) (s1.setOwn (lt_of_get hj) ow2' fun k hk hρ c ec es => ?_)
        have hk' : (i :: del m0 i).contains k = true := hk
        by_cases hki : k = i
        · subst hki
          rw [List.getElem?_set_self (by rw [A2.len]; exact lt_of_get hi)] at es
          rw [ev] at es
          cases es
          exact nw ec
        · rw [List.contains_cons, Bool.or_eq_true] at hk'
          rcases hk' with z | z
          · exact hki (by simpa using z)
          · rw [List.getElem?_set_ne (fun z => hki z.symm)] at es
            unfold Rho.upd at hρ
            rw [if_neg hki] at hρ
            exact un2 k (del_iff.mp z).1 hρ c ec es
    · cases hf
end
end Lf

/-! Lift10: the law's end; xs[::-1]; a, b, c = x, y, z. -/
namespace Lf
open PySem PySem.Spec PyProof.Rows L2

/-! ### the law -/
def spLaw (K : PySem.W.Frag) : Sp := fun vs H Q _ => ∃ (a : Addr) (ns : List Int), vs = [.ref a] ∧ ns.length ≤ 63 ∧ (∀ z ∈ ns, Builtin.Int.intBits z ≤ 1048576) ∧ SqL K H a (ns.map V.int) ∧ ∀ H', Q (.bl true) H'
/-- the script's numbers -/
def Script (ns : List Int) : Prop := ns.length ≤ 63 ∧ ∀ z ∈ ns, Builtin.Int.intBits z ≤ 1048576
theorem law_fn {P : Program} {w : World} {K : PySem.W.Frag} {mg : Str → Option Value} {base : Heap} {k : Nat} {fa : Addr} {fd : FuncData} {F : List Int → List D → M D} {x : Str}
    (ok : ∀ ns, FnOk P w K mg base CX0 k fa fd [x] (spD K ns 1 (F ns))) (hF : ∀ ns, Script ns → ∃ p', F ns [.scr ns] none = some (.bl true, p')) : FnOk P w K mg base CX0 k fa fd [x] (spLaw K) := by
  refine ⟨fun vs H Q E h => ?_, fun A outer s H args us vs Q E hr he hb hv hs => ?_⟩
  · obtain ⟨a, ns, rfl, _⟩ := h
    rfl
  · obtain ⟨a, ns, rfl, h1, h2, hS, q⟩ := hs
    obtain ⟨p', e⟩ := hF ns ⟨h1, h2⟩
    refine (ok ns).run A outer s H args us [.ref a] Q E hr he hb hv ⟨⟨H, none⟩, [.scr ns], none, .bl true, p', rfl, Same.refl _, trivial, .cons (.scr hS) .nil, e, fun g' v H' _ _ _ _ _ _ r => ?_⟩
    cases r
    exact q H'
theorem funAt_mk {K : PySem.W.Frag} {h : Heap} {mg : Str → Option Value} {x : Str} {st : Stmt} {ps : List Str} {f : Addr} {oc : Value} {od an : Option Addr} {osl : Array (Option Value)} {kV doc pm cdv ct : Value} (X : K.In h) (G : h.Ns mainGlobals mg)
    (hb : ∀ (kV doc pm : Value) (an : Option Addr) (cdv ct : Value) (us : List Value), us.length = ps.length → bindArgs (PySem.W.fnOf x x (defArgs st) (defBody st) (defScope st) .none kV doc pm an cdv ct) ⟨us, []⟩ = pure (ps.zip us))
    (a : PySem.W.nsIn K mainGlobals x = some (some (.ref f))) (l : K.lookup f = some ⟨oc, od, .func (PySem.W.fnOf x x (defArgs st) (defBody st) (defScope st) .none kV doc pm an cdv ct), osl⟩) (c : PySem.W.codeIn K cdv x = true) (k : PySem.W.keepIn K (.ref f) = true) : FunAt K mg x st ps :=
  ⟨f, _, fun_mk l c k, PySem.W.mg_of X G a, (fun_mk l c k).binds hb⟩

section
variable {X : Cx} {ns : List Int} {ml ms m0 m1 m2 m3 : List Nat} {a b c e : Expr} {f h k : Rho → M D} {pos px : Pos} {x y z : Str}
/-! ### xs[::-1] -/
def eRev (f : Rho → M D) : Rho → M D := fun ρ => (f ρ).bind fun d => match d with
  | .lst ds => M.pure (.lst ds.reverse)
  | _ => M.fail
theorem ln_rev {kk : Nat} {p1 p2 p3 : Pos} (ha : LB X ns m0 m1 e f) : LN X ns m0 m1 (.Subscript e (.Slice none none (some (.UnaryOp .USub (.Constant (.int 1) kk p1) p2)) p3) pos) (eRev f) :=
  pe_weak (pe_revL ha) fun σ H Q ⟨B, g, ρ, p, d, p', A, hf, q⟩ => by
    obtain ⟨y, p1, e1, hf⟩ := M.bind_some hf
    cases y <;> try (cases hf; done)
    obtain ⟨e4, e5⟩ := M.pure_some hf
    subst e4; subst e5
    refine ⟨B, g, ρ, p, _, _, A, e1, fun g1 v H1 l1 A1 r1 => ?_⟩
    obtain ⟨x, xs, rfl, h1, h2⟩ := Held.view A1 r1
    exact ⟨x, xs, rfl, .inl h1, fun t ht => q g1 _ _ l1 (A1.alloc ht) (Fresh.new A1 ht h2.reverse)⟩
/-! ### a, b = x, [..] -/
def sParEN (i j : Nat) (f h : Rho → M D) : Rho → M Fl := fun ρ => (f ρ).bind fun x => (h ρ).bind fun y => if y.isBox = true then M.pure (.nx ((ρ.upd i x).upd j y)) else M.fail
theorem ls_parEN {qx qy pt : Pos} {kt k2 pt2} (i j : Nat) (hc : X.calm = true) (hN : X.N.Nodup) (ha : LE X ns m0 m0 a f) (hb : LN X ns m0 m0 b h) (hi : X.N[i]? = some x := by rfl) (hj : X.N[j]? = some y := by rfl) (hij : i ≠ j := by decide)
    (hx : X.env.scope.names.lookup x = some .local := by rfl) (hy : X.env.scope.names.lookup y = some .local := by rfl)
    (hw : swappedStores [.Tuple [.Name x qx, .Name y qy] kt pt] (.Tuple [a, b] k2 pt2) X.env = pure (some [x, y]) := by rfl)
    (hs : swapsWithSole [.Tuple [.Name x qx, .Name y qy] kt pt] (.Tuple [a, b] k2 pt2) pos.line X.env = pure false := by rfl)
    (h1 : starEach [a, b] X.env = (false, eval a X.env) :: starEach [b] X.env := by rfl) (h2 : starEach [b] X.env = (false, eval b X.env) :: starEach [] X.env := by rfl) :
    LS X ns ml m0 (j :: del (del m0 i) j) (.Assign [.Tuple [.Name x qx, .Name y qy] kt pt] (.Tuple [a, b] k2 pt2) pos) (sParEN i j f h) :=
  ps_weak (ps_par hc hN hi hj hij hx hy (pa_cons ha (pa_cons hb pa_nil h2) h1) hw hs) fun D σ H ⟨B, g, ρ, p, r, p', A, hf, q⟩ => by
    obtain ⟨d, p1, e1, hf⟩ := M.bind_some hf
    obtain ⟨d2, p2, e2, hf⟩ := M.bind_some hf
    split at hf
    · rename_i hd
      obtain ⟨e3, e4⟩ := M.pure_some hf
      rw [e3, e4] at q
      refine ⟨B, g, ρ, p, d, p1, A, e1, fun g1 v H1 l1 A1 r1 => ⟨B, g1, ρ, p1, d2, p2, A1, e2, fun g2 w H2 l2 A2 r2 => ⟨v, w, rfl, ?_⟩⟩⟩
      rcases r2 with ⟨z, _⟩ | ⟨ow, un⟩
      · rw [hd] at z; cases z
      · refine q g2 _ H2 (l1.trans l2) ((A2.set (lt_of_get hi) (Rep.mono l2 r1)).setOwn (lt_of_get hj) ow fun k hk hρ c ec es => ?_)
        have hk' := del_iff.mp hk
        rw [List.getElem?_set_ne (fun z => hk'.2 z.symm)] at es
        unfold Rho.upd at hρ
        rw [if_neg hk'.2] at hρ
        exact un k hk'.1 hρ c ec es
    · cases hf
/-! ### a module's constant -/
theorem le_globE {d : D} (h : ∃ u, X.mg x = some u ∧ KRep X.K u d) (hg : Gl X x := by rfl) (hd : (x == ("__debug__" : Str)) = false := by decide) : LE X ns ms ms (.Name x pos) (eC d) := by
  obtain ⟨u, hm, r⟩ := h
  exact le_globD hg hm r hd
/-! ### a, b, c = x, y, z -/
theorem krep_tup {K : PySem.W.Frag} {a : Addr} {od : Option Addr} {its : Array Value} {n : Nat} {sl : Array (Option Value)} {xs : List V} {ds : List D} (l : K.lookup a = some ⟨.type "tuple", od, .seq its n, sl⟩) (hz : its.size ≤ 1000) (hv : Vals xs its.toList) (r : ∀ g, RepL K g xs ds) : KRep K (.ref a) (.tup ds) :=
  ⟨.ref a, rfl, fun g => .tup (.inr ⟨_, its, n, l, rfl, rfl, Nat.le_trans hz (by rw [sizeLine_eq]; decide), hv⟩) (r g)⟩
def sPar3 (i j l : Nat) (f h k : Rho → M D) : Rho → M Fl := fun ρ => (f ρ).bind fun x => (h ρ).bind fun y => (k ρ).bind fun z => M.pure (.nx (((ρ.upd i x).upd j y).upd l z))
end
end Lf

/-! printed by gen.py: the pure readings of the defs that many laws share -/
namespace Pre
open PySem PySem.Spec PyProof.Rows L2 Lf

def sem_common : Rho → M Fl :=
    (sRet (eCallB dGcd (aCons (eVar 0) (aCons (eVar 1) aNil))))
def F_common : List D → M D := runFn (sem_common)
def sem_shared : Rho → M Fl :=
    (sRet (eOp (dII dDivI) (eOp dMul (eVar 0) (eVar 1)) (eCallB dGcd (aCons (eVar 0) (aCons (eVar 1) aNil)))))
def F_shared : List D → M D := runFn (sem_shared)
def sem_frac : Rho → M Fl :=
    (sSeq (sSet 2 (eIf (tOf (eOp dGt (eVar 1) (eC (.int 0)))) (eCallB dGcd (aCons (eVar 0) (aCons (eVar 1) aNil))) (eUn dNeg (eCallB dGcd (aCons (eVar 0) (aCons (eVar 1) aNil))))))
    (sRet (eTup (aCons (eOp (dII dDivI) (eVar 0) (eVar 2)) (aCons (eOp (dII dDivI) (eVar 1) (eVar 2)) aNil)))))
def F_frac : List D → M D := runFn (sem_frac)
def sem_plus : Rho → M Fl :=
    (sRet (eCall F_frac (aCons (eOp dAdd (eOp dMul (eOp dIxA (eVar 0) (eC (.int 0))) (eOp dIxA (eVar 1) (eC (.int 1)))) (eOp dMul (eOp dIxA (eVar 1) (eC (.int 0))) (eOp dIxA (eVar 0) (eC (.int 1))))) (aCons (eOp dMul (eOp dIxA (eVar 0) (eC (.int 1))) (eOp dIxA (eVar 1) (eC (.int 1)))) aNil))))
def F_plus : List D → M D := runFn (sem_plus)
def sem_minus : Rho → M Fl :=
    (sRet (eCall F_frac (aCons (eOp dSub (eOp dMul (eOp dIxA (eVar 0) (eC (.int 0))) (eOp dIxA (eVar 1) (eC (.int 1)))) (eOp dMul (eOp dIxA (eVar 1) (eC (.int 0))) (eOp dIxA (eVar 0) (eC (.int 1))))) (aCons (eOp dMul (eOp dIxA (eVar 0) (eC (.int 1))) (eOp dIxA (eVar 1) (eC (.int 1)))) aNil))))
def F_minus : List D → M D := runFn (sem_minus)
def sem_times : Rho → M Fl :=
    (sRet (eCall F_frac (aCons (eOp dMul (eOp dIxA (eVar 0) (eC (.int 0))) (eOp dIxA (eVar 1) (eC (.int 0)))) (aCons (eOp dMul (eOp dIxA (eVar 0) (eC (.int 1))) (eOp dIxA (eVar 1) (eC (.int 1)))) aNil))))
def F_times : List D → M D := runFn (sem_times)
def sem_over : Rho → M Fl :=
    (sRet (eCall F_frac (aCons (eOp dMul (eOp dIxA (eVar 0) (eC (.int 0))) (eOp dIxA (eVar 1) (eC (.int 1)))) (aCons (eOp dMul (eOp dIxA (eVar 0) (eC (.int 1))) (eOp dIxA (eVar 1) (eC (.int 0)))) aNil))))
def F_over : List D → M D := runFn (sem_over)
def sem_less : Rho → M Fl :=
    (sRet (eOp dLt (eOp dMul (eOp dIxA (eVar 0) (eC (.int 0))) (eOp dIxA (eVar 1) (eC (.int 1)))) (eOp dMul (eOp dIxA (eVar 1) (eC (.int 0))) (eOp dIxA (eVar 0) (eC (.int 1))))))
def F_less : List D → M D := runFn (sem_less)
def sem_sum_of : Rho → M Fl :=
    (sSeq (sSet 1 (eC (.tup [(.int 0), (.int 1)])))
    (sSeq (sFor (gN 2) (itemsOf (eVar 0))
      (sSet 1 (eCall F_plus (aCons (eVar 1) (aCons (eVar 2) aNil)))))
    (sRet (eVar 1))))
def F_sum_of : List D → M D := runFn (sem_sum_of)
def sem_floor_of : Rho → M Fl :=
    (sRet (eOp (dII dDivI) (eOp dIxA (eVar 0) (eC (.int 0))) (eOp dIxA (eVar 0) (eC (.int 1)))))
def F_floor_of : List D → M D := runFn (sem_floor_of)
def sem_ceiling_of : Rho → M Fl :=
    (sRet (eUn dNeg (eOp (dII dDivI) (eUn dNeg (eOp dIxA (eVar 0) (eC (.int 0)))) (eOp dIxA (eVar 0) (eC (.int 1))))))
def F_ceiling_of : List D → M D := runFn (sem_ceiling_of)
def sem__law_mixed : Rho → M Fl :=
    (sSeq (sSet 2 (eOp (dII dModI) (eCallB dInt (aCons (eOp dAdd (eOp dAdd (eOp dMul (eVar 0) (eC (.int 410338673998125441398711))) (eOp dMul (eVar 1) (eC (.int 736418259301774563982039)))) (eC (.int 295075153872261839517363))) aNil)) (eC (.int 618970019642690137449562111))))
    (sSeq (sSet 3 (eOp (dII dModI) (eCallB dInt (aCons (eOp dAdd (eOp dAdd (eOp dMul (eVar 2) (eVar 2)) (eOp dMul (eC (.int 7)) (eVar 2))) (eVar 1)) aNil)) (eC (.int 162259276829213363391578010288127))))
    (sSeq (sSet 4 (eOp (dII dModI) (eCallB dInt (aCons (eOp dAdd (eOp dMul (eVar 3) (eVar 3)) (eVar 2)) aNil)) (eC (.int 618970019642690137449562111))))
    (sRet (eOp dAdd (eOp dMul (eVar 3) (eC (.int 618970019642690137449562111))) (eVar 4))))))
def F__law_mixed : List D → M D := runFn (sem__law_mixed)
def sem__law_rest : Rho → M Fl :=
    (sSeq (sSet 3 (eC (.int 0)))
    (sSeq (sIf (tOf (eOp dGt (eCallB dLen (aCons (eVar 0) aNil)) (eC (.int 0))))
      (sSet 3 (eCallB dInt (aCons (eOp dIxA (eVar 0) (eOp (dII dModI) (eCallB dInt (aCons (eVar 1) aNil)) (eCallB dLen (aCons (eVar 0) aNil)))) aNil)))
      sNx)
    (sSeq (sIf (tOf (eOp dLt (eVar 3) (eC (.int 0))))
      (sSet 3 (eOp dSub (eC (.int 1)) (eOp dMul (eC (.int 2)) (eVar 3))))
      sNx)
    (sSeq (sIf (tAndS (tOf (eOp dEq (eVar 2) (eC (.int 0)))) (tAndS (tOf (eOp dLt (eVar 1) (eCallB dLen (aCons (eVar 0) aNil)))) (tOf (eOp dGe (eVar 3) (eOp (dII dPowI) (eC (.int 10)) (eC (.int 18)))))))
      (sRet (eOp dSub (eVar 3) (eOp (dII dPowI) (eC (.int 10)) (eC (.int 18)))))
      sNx)
    (sRet (eCall F__law_mixed (aCons (eOp dAdd (eVar 3) (eOp dMul (eVar 2) (eC (.int 1000003)))) (aCons (eVar 1) aNil))))))))
def F__law_rest : List D → M D := runFn (sem__law_rest)
def sem__law_pool (ns : List Int) : Rho → M Fl :=
    (sRetPool ns (aCons (eVar 0) (aCons (eC (.int 0)) (aCons (eCall F__law_rest (aCons (eVar 0) (aCons (eC (.int 0)) (aCons (eC (.int 0)) aNil)))) (aCons (eC (.int 0)) aNil)))))
def F__law_pool (ns : List Int) : List D → M D := runFn (sem__law_pool ns)
def sem__law_next (ns : List Int) : Rho → M Fl :=
    (sSeq (sPool 0 1 (eOp dAdd (ePool ns 0 1) (eC (.int 1))))
    (sSeq (sPool 0 2 (eCall F__law_rest (aCons (ePool ns 0 0) (aCons (ePool ns 0 1) (aCons (eC (.int 0)) aNil)))))
    (sPool 0 3 (eC (.int 0)))))
def F__law_next (ns : List Int) : List D → M D := runFn (sem__law_next ns)
def sem__law_draw (ns : List Int) : Rho → M Fl :=
    (sSeq (sIf (tOf (eOp dLe (ePool ns 0 2) (eC (.int 1))))
      (sSeq (sPool 0 3 (eOp dAdd (ePool ns 0 3) (eC (.int 1))))
    (sPool 0 2 (eCall F__law_rest (aCons (ePool ns 0 0) (aCons (ePool ns 0 1) (aCons (ePool ns 0 3) aNil))))))
      sNx)
    (sSeq (sSet 2 (eOp (dII dModI) (eCallB dInt (aCons (ePool ns 0 2) aNil)) (eVar 1)))
    (sSeq (sPool 0 2 (eOp (dII dDivI) (eCallB dInt (aCons (ePool ns 0 2) aNil)) (eVar 1)))
    (sRet (eVar 2)))))
def F__law_draw (ns : List Int) : List D → M D := runFn (sem__law_draw ns)
def sem__law_pick (ns : List Int) : Rho → M Fl :=
    (sRet (eOp dIxA (eVar 1) (eCall (F__law_draw ns) (aCons (eVar 0) (aCons (eCallB dLen (aCons (eVar 1) aNil)) aNil)))))
def F__law_pick (ns : List Int) : List D → M D := runFn (sem__law_pick ns)
def sem__law_same (rec : List D → M D) : Rho → M Fl :=
    (sSeq (sIf (tTru (eIsi "dict" (eVar 1)))
      (fun _ => M.fail)
      sNx)
    (sSeq (sIf (tOrS (tTru (eIsi "list" (eVar 1))) (tTru (eIsi "tuple" (eVar 1))))
      (sSeq (sIf (tOrS (tOf (eOp dNe (eIsi "list" (eVar 1)) (eIsi "list" (eVar 0)))) (tOf (eOp dNe (eIsi "tuple" (eVar 1)) (eIsi "tuple" (eVar 0)))))
      (sRet (eC (.bl false)))
      sNx)
    (sRet (eAndS (eOp dEq (eCallB dLen (aCons (eVar 0) aNil)) (eCallB dLen (aCons (eVar 1) aNil))) (eCallB dAll (aCons (eLc [3] (gN 3) (rng1 (aCons (eCallB dLen (aCons (eVar 1) aNil)) aNil)) tYesS (eCall rec (aCons (eOp dIxA (eVar 0) (eVar 3)) (aCons (eOp dIxA (eVar 1) (eVar 3)) aNil)))) aNil)))))
      sNx)
    (sSeq (sIf (tTru (eIsi "str" (eVar 1)))
      (sRet (eAndS (eIsi "str" (eVar 0)) (eOp dEq (eVar 0) (eVar 1))))
      sNx)
    (sSeq (sIf (tOrS (tOf (eOp dIsN (eVar 1) (eC .non))) (tOrS (tOf (eOp dIsBA (eVar 1) (eC (.bl true)))) (tOf (eOp dIsBA (eVar 1) (eC (.bl false))))))
      (sRet (eOrS (eAndS (eOp dIsN (eVar 1) (eC .non)) (eOp dIsN (eVar 0) (eC .non))) (eOrS (eAndS (eOp dIsBA (eVar 1) (eC (.bl true))) (eOp dIsBA (eVar 0) (eC (.bl true)))) (eAndS (eOp dIsBA (eVar 1) (eC (.bl false))) (eOp dIsBA (eVar 0) (eC (.bl false)))))))
      sNx)
    (sRet (eAndS (eIsi "int" (eVar 0)) (eAndS (eNotS (eIsi "bool" (eVar 0))) (eOp dEq (eVar 0) (eVar 1)))))))))
def F__law_same : Nat → List D → M D
  | 0 => fun _ => M.fail
  | n + 1 => runFn (sem__law_same (F__law_same n))
def sem__law_gcd : Rho → M Fl :=
    (sSeq (sFor (gN 2) (rng1 (aCons (eC (.int 400000)) aNil))
      (sSeq (sIf (tOf (eOp dEq (eVar 1) (eC (.int 0))))
      sBk
      sNx)
    (sPar 0 1 (eVar 1) (eOp (dII dModI) (eCallB dInt (aCons (eVar 0) aNil)) (eVar 1)))))
    (sRet (eVar 0)))
def F__law_gcd : List D → M D := runFn (sem__law_gcd)
def sem__law_ratio : Rho → M Fl :=
    (sSeq (sIf (tOf (eOp dLt (eVar 1) (eC (.int 0))))
      (sPar 0 1 (eUn dNeg (eVar 0)) (eUn dNeg (eVar 1)))
      sNx)
    (sSeq (sSet 2 (eCall F__law_gcd (aCons (eCallB dAbs (aCons (eVar 0) aNil)) (aCons (eVar 1) aNil))))
    (sRet (eTup (aCons (eOp (dII dDivI) (eVar 0) (eVar 2)) (aCons (eOp (dII dDivI) (eVar 1) (eVar 2)) aNil))))))
def F__law_ratio : List D → M D := runFn (sem__law_ratio)
def sem__law_add : Rho → M Fl :=
    (sRet (eCall F__law_ratio (aCons (eOp dAdd (eOp dMul (eOp dIxA (eVar 0) (eC (.int 0))) (eOp dIxA (eVar 1) (eC (.int 1)))) (eOp dMul (eOp dIxA (eVar 1) (eC (.int 0))) (eOp dIxA (eVar 0) (eC (.int 1))))) (aCons (eOp dMul (eOp dIxA (eVar 0) (eC (.int 1))) (eOp dIxA (eVar 1) (eC (.int 1)))) aNil))))
def F__law_add : List D → M D := runFn (sem__law_add)
def sem__law_sub : Rho → M Fl :=
    (sRet (eCall F__law_ratio (aCons (eOp dSub (eOp dMul (eOp dIxA (eVar 0) (eC (.int 0))) (eOp dIxA (eVar 1) (eC (.int 1)))) (eOp dMul (eOp dIxA (eVar 1) (eC (.int 0))) (eOp dIxA (eVar 0) (eC (.int 1))))) (aCons (eOp dMul (eOp dIxA (eVar 0) (eC (.int 1))) (eOp dIxA (eVar 1) (eC (.int 1)))) aNil))))
def F__law_sub : List D → M D := runFn (sem__law_sub)
def sem__law_mul : Rho → M Fl :=
    (sRet (eCall F__law_ratio (aCons (eOp dMul (eOp dIxA (eVar 0) (eC (.int 0))) (eOp dIxA (eVar 1) (eC (.int 0)))) (aCons (eOp dMul (eOp dIxA (eVar 0) (eC (.int 1))) (eOp dIxA (eVar 1) (eC (.int 1)))) aNil))))
def F__law_mul : List D → M D := runFn (sem__law_mul)
def sem__law_div : Rho → M Fl :=
    (sRet (eCall F__law_ratio (aCons (eOp dMul (eOp dIxA (eVar 0) (eC (.int 0))) (eOp dIxA (eVar 1) (eC (.int 1)))) (aCons (eOp dMul (eOp dIxA (eVar 0) (eC (.int 1))) (eOp dIxA (eVar 1) (eC (.int 0)))) aNil))))
def F__law_div : List D → M D := runFn (sem__law_div)
def sem__law_less : Rho → M Fl :=
    (sRet (eOp dLt (eOp dMul (eOp dIxA (eVar 0) (eC (.int 0))) (eOp dIxA (eVar 1) (eC (.int 1)))) (eOp dMul (eOp dIxA (eVar 1) (eC (.int 0))) (eOp dIxA (eVar 0) (eC (.int 1))))))
def F__law_less : List D → M D := runFn (sem__law_less)
end Pre

/-! Pure0: running the pure readings: outcomes W, equations of the readings, rules of the loops -/
namespace Pu
open PySem PySem.Spec PyProof.Rows L2 Lf Pre

/-- the outcome of a run -/
def W {α : Type} (m : M α) (p : Pl) (Q : α → Pl → Prop) : Prop := ∃ a p', m p = some (a, p') ∧ Q a p'
section
variable {α β : Type} {m : M α} {f : α → M β} {p : Pl} {Q Q' : α → Pl → Prop} {a : α}
theorem W_pure : W (M.pure a) p Q ↔ Q a p := by
  constructor
  · intro ⟨b, p', e, q⟩
    cases e; exact q
  · intro q; exact ⟨a, p, rfl, q⟩
theorem W_fail : W (M.fail : M α) p Q ↔ False := ⟨fun ⟨_, _, e, _⟩ => (nomatch e), False.elim⟩
theorem W_bind {R : β → Pl → Prop} : W (m.bind f) p R ↔ W m p fun a p' => W (f a) p' R := by
  constructor
  · intro ⟨b, p', e, q⟩
    obtain ⟨a, p1, e1, e2⟩ := M.bind_some e
    exact ⟨a, p1, e1, b, p', e2, q⟩
  · intro ⟨a, p1, e1, b, p', e2, q⟩
    exact ⟨b, p', by unfold M.bind; rw [e1]; exact e2, q⟩
theorem W.mono (h : W m p Q) (k : ∀ a p', Q a p' → Q' a p') : W m p Q' := by
  obtain ⟨a, p', e, q⟩ := h
  exact ⟨a, p', e, k a p' q⟩
theorem W.to (h : W m p Q) {R : β → Pl → Prop} (k : ∀ a p', Q a p' → W (f a) p' R) : W (m.bind f) p R := W_bind.mpr (h.mono k)
theorem W.eq (h : ∀ p, W m p fun b p' => b = a ∧ p' = p) : m = M.pure a := by
  funext p
  obtain ⟨b, p', e, rfl, rfl⟩ := h p
  exact e
theorem ite_pure {c : Prop} [Decidable c] {a b : α} : (if c then (M.pure a : M α) else M.pure b) = M.pure (if c then a else b) := by split <;> rfl
end

/-! ### the readings -/
section
variable {ρ : Rho} {f h k : Rho → M D} {fs : Rho → M (List D)} {tf th : Rho → M Bool} {sf sk : Rho → M Fl} {i j l : Nat} {d x y z : D} {ds es : List D} {op : D → D → Option D} {opn : List D → Option D}
@[simp] theorem upd_r : Rho.upd ρ i d j = if j = i then some d else ρ j := id rfl
@[simp] theorem args0 : argsOf (d :: ds) 0 = some d := id rfl
@[simp] theorem args1 : argsOf (x :: d :: ds) 1 = some d := id rfl
@[simp] theorem args2 : argsOf (x :: y :: d :: ds) 2 = some d := id rfl
theorem argsS : argsOf (d :: ds) (i + 1) = argsOf ds i := rfl
@[simp] theorem args3 {a b c : D} : argsOf (a :: b :: c :: d :: ds) 3 = some d := id rfl
@[simp] theorem args4 {a b c e : D} : argsOf (a :: b :: c :: e :: d :: ds) 4 = some d := id rfl
@[simp] theorem args5 {a b c e u : D} : argsOf (a :: b :: c :: e :: u :: d :: ds) 5 = some d := id rfl
@[simp] theorem eVar_r : eVar i ρ = M.lift (ρ i) := id rfl
@[simp] theorem eC_r : eC d ρ = M.pure d := id rfl
@[simp] theorem eOp_r : eOp op f h ρ = (f ρ).bind fun x => (h ρ).bind fun y => M.lift (op x y) := id rfl
@[simp] theorem eUn_r {op : D → Option D} : eUn op f ρ = (f ρ).bind fun x => M.lift (op x) := id rfl
@[simp] theorem asB_r {b : Bool} : asB (.bl b) = some b := id rfl
@[simp] theorem tOf_r : tOf f ρ = (f ρ).bind fun x => M.lift (asB x) := id rfl
@[simp] theorem tTru_r : tTru f ρ = (f ρ).bind fun x => M.lift (truthy x) := id rfl
@[simp] theorem tru_b {b : Bool} : truthy (.bl b) = some b := id rfl
@[simp] theorem tru_n : truthy .non = some false := id rfl
@[simp] theorem tru_i {i : Int} : truthy (.int i) = some (i != 0) := id rfl
@[simp] theorem tru_l : truthy (.lst ds) = some (!ds.isEmpty) := id rfl
@[simp] theorem tru_t : truthy (.tup ds) = some (!ds.isEmpty) := id rfl
@[simp] theorem tNotS_r : tNotS tf ρ = (tf ρ).bind fun b => M.pure (!b) := id rfl
@[simp] theorem tAndS_r : tAndS tf th ρ = (tf ρ).bind fun b => if b = true then th ρ else M.pure false := id rfl
@[simp] theorem tOrS_r : tOrS tf th ρ = (tf ρ).bind fun b => if b = true then M.pure true else th ρ := id rfl
@[simp] theorem eAndS_r : eAndS f h ρ = (f ρ).bind fun x => (M.lift (truthy x)).bind fun b => if b = true then h ρ else M.pure x := id rfl
@[simp] theorem eOrS_r : eOrS f h ρ = (f ρ).bind fun x => (M.lift (truthy x)).bind fun b => if b = true then M.pure x else h ρ := id rfl
@[simp] theorem eNotS_r : eNotS f ρ = (f ρ).bind fun x => (M.lift (truthy x)).bind fun b => M.pure (.bl (!b)) := id rfl
@[simp] theorem eIf_r : eIf tf f h ρ = (tf ρ).bind fun b => if b = true then f ρ else h ρ := id rfl
@[simp] theorem eTup_r : eTup fs ρ = (fs ρ).bind fun ds => if ds.length ≤ 16777216 then M.pure (.tup ds) else M.fail := id rfl
@[simp] theorem eLst_r : eLst fs ρ = (fs ρ).bind fun ds => if ds.length ≤ 16777216 then M.pure (.lst ds) else M.fail := id rfl
@[simp] theorem aNil_r : aNil ρ = M.pure [] := id rfl
@[simp] theorem aCons_r : aCons f fs ρ = (f ρ).bind fun x => (fs ρ).bind fun xs => M.pure (x :: xs) := id rfl
@[simp] theorem eCallB_r : eCallB opn fs ρ = (fs ρ).bind fun xs => M.lift (opn xs) := id rfl
@[simp] theorem eCall_r {F : List D → M D} : eCall F fs ρ = (fs ρ).bind F := id rfl
@[simp] theorem sNx_r : sNx ρ = M.pure (.nx ρ) := id rfl
@[simp] theorem sThen_nx : sThen sk (.nx ρ) = sk ρ := id rfl
@[simp] theorem sThen_rt : sThen sk (.rt d) = M.pure (.rt d) := id rfl
@[simp] theorem sThen_bk : sThen sk (.bk ρ) = M.pure (.bk ρ) := id rfl
@[simp] theorem sThen_ct : sThen sk (.ct ρ) = M.pure (.ct ρ) := id rfl
@[simp] theorem sSeq_r : sSeq sf sk ρ = (sf ρ).bind (sThen sk) := id rfl
@[simp] theorem sSet_r : sSet i f ρ = (f ρ).bind fun d => M.pure (.nx (ρ.upd i d)) := id rfl
@[simp] theorem sSetO_r : sSetO i f ρ = (f ρ).bind fun d => if d.isBox = true then M.pure (.nx (ρ.upd i d)) else M.fail := id rfl
@[simp] theorem sRet_r : sRet f ρ = (f ρ).bind fun d => M.pure (.rt d) := id rfl
@[simp] theorem sExpr_r : sExpr f ρ = (f ρ).bind fun _ => M.pure (.nx ρ) := id rfl
@[simp] theorem sIf_r : sIf tf sf sk ρ = (tf ρ).bind fun b => if b = true then sf ρ else sk ρ := id rfl
@[simp] theorem sBk_r : sBk ρ = M.pure (.bk ρ) := id rfl
@[simp] theorem sCt_r : sCt ρ = M.pure (.ct ρ) := id rfl
@[simp] theorem isBox_l : D.isBox (.lst ds) = true := id rfl
@[simp] theorem gN_r : gN i d ρ = some (ρ.upd i d) := id rfl
@[simp] theorem gT_r {ts : List D → Rho → Option Rho} : gT ts (.tup ds) ρ = ts ds ρ := id rfl
@[simp] theorem gsNil_r : gsNil [] ρ = some ρ := id rfl
@[simp] theorem gsCons_r {t : TgS} {ts : List D → Rho → Option Rho} : gsCons t ts (d :: ds) ρ = (t d ρ).bind (ts ds) := id rfl
@[simp] theorem sAsg_r {t : TgS} : sAsg t f ρ = (f ρ).bind fun d => (M.lift (t d ρ)).bind fun ρ' => M.pure (.nx ρ') := id rfl
@[simp] theorem sFor_r {t : TgS} {b : Rho → M Fl} : sFor t fs b ρ = (fs ρ).bind fun xs => forGo t b xs ρ := id rfl
@[simp] theorem endFn_rt : endFn (.rt d) = M.pure d := id rfl
@[simp] theorem endFn_nx : endFn (.nx ρ) = M.pure .non := id rfl
@[simp] theorem runFn_r {b : Rho → M Fl} : runFn b ds = (b (argsOf ds)).bind endFn := id rfl
@[simp] theorem sMeth_r {o : D → List D → Option D} : sMeth i fs o ρ = (fs ρ).bind fun xs => (M.lift (ρ i)).bind fun d => (M.lift (o d xs)).bind fun d' => M.pure (.nx (ρ.upd i d')) := id rfl
@[simp] theorem sPut_r {o : D → D → D → Option D} : sPut i f h o ρ = (h ρ).bind fun v => (f ρ).bind fun k => (M.lift (ρ i)).bind fun d => (M.lift (o d k v)).bind fun d' => M.pure (.nx (ρ.upd i d')) := id rfl
@[simp] theorem sPar_r : sPar i j f h ρ = (f ρ).bind fun x => (h ρ).bind fun y => M.pure (.nx ((ρ.upd i x).upd j y)) := id rfl
@[simp] theorem sParEN_r : sParEN i j f h ρ = (f ρ).bind fun x => (h ρ).bind fun y => if y.isBox = true then M.pure (.nx ((ρ.upd i x).upd j y)) else M.fail := id rfl
@[simp] theorem sParNE_r : sParNE i j f h ρ = (f ρ).bind fun x => (h ρ).bind fun y => if x.isBox = true then M.pure (.nx ((ρ.upd i x).upd j y)) else M.fail := id rfl
@[simp] theorem sParNN_r : sParNN i j f h ρ = (f ρ).bind fun x => (h ρ).bind fun y => if x.isBox = true ∧ y.isBox = true then M.pure (.nx ((ρ.upd i x).upd j y)) else M.fail := id rfl
@[simp] theorem eLc_r {vs : List Nat} {t : TgS} : eLc vs t fs tf f ρ = (fs ρ).bind fun xs => if xs.length ≤ 16777216 then (lcGo (lcTurn t tf f (ρ.wipe vs)) xs).bind fun ys => M.pure (.lst ys) else M.fail := id rfl
@[simp] theorem wipe_r {vs : List Nat} : Rho.wipe ρ vs j = if vs.contains j = true then none else ρ j := id rfl
@[simp] theorem lcTurn_r {t : TgS} : lcTurn t tf f ρ x = (M.lift (t x ρ)).bind fun ρ1 => (tf ρ1).bind fun b => if b = true then (f ρ1).bind fun y => M.pure (some y) else M.pure none := id rfl
@[simp] theorem tYesS_r : tYesS ρ = M.pure true := id rfl
@[simp] theorem itemsOf_r : itemsOf f ρ = (f ρ).bind fun d => match d with
  | .lst ds => M.pure ds
  | _ => M.fail := id rfl
@[simp] theorem itemsT_r : itemsT f ρ = (f ρ).bind fun d => match d with
  | .tup ds => M.pure ds
  | _ => M.fail := id rfl
@[simp] theorem rng1_r : rng1 fs ρ = (fs ρ).bind fun ds => match ds with
  | [.int j] => if smallB j = true then M.pure (rangeL 0 j.toNat) else M.fail
  | _ => M.fail := id rfl
@[simp] theorem rng2_r : rng2 fs ρ = (fs ρ).bind fun ds => match ds with
  | [.int i, .int j] => if smallB i = true ∧ smallB j = true then M.pure (rangeL i (j - i).toNat) else M.fail
  | _ => M.fail := id rfl
@[simp] theorem enumOf_r : enumOf fs ρ = (fs ρ).bind fun ds => match ds with
  | [.lst ds] => M.pure (enumL 0 ds)
  | _ => M.fail := id rfl
@[simp] theorem eRev_r : eRev f ρ = (f ρ).bind fun d => match d with
  | .lst ds => M.pure (.lst ds.reverse)
  | _ => M.fail := id rfl
@[simp] theorem eIsi_r {T : String} : eIsi T f ρ = (f ρ).bind fun d => match d with
  | .dcu _ => M.fail
  | d => match tyOf d with
    | some t => M.pure (.bl (isTy T t))
    | none => M.fail := id rfl
@[simp] theorem eSl_r {lo hi : Rho → M (Option Int)} : eSl f lo hi ρ = (f ρ).bind fun d => (lo ρ).bind fun l => (hi ρ).bind fun u => match d with
  | .lst ds => M.pure (.lst (cutD ds l u))
  | _ => M.fail := id rfl
@[simp] theorem oNone_r : oNone ρ = M.pure none := id rfl
@[simp] theorem oSome_r : oSome f ρ = (f ρ).bind fun d => match d with
  | .int i => M.pure (some i)
  | _ => M.fail := id rfl
@[simp] theorem eChain_r {o o' : D → D → Option D} : eChain o o' f h k ρ = (f ρ).bind fun x => (h ρ).bind fun y => (M.lift (o x y)).bind fun z => match z with
  | .bl true => (k ρ).bind fun w => M.lift (o' y w)
  | .bl false => M.pure (.bl false)
  | _ => M.fail := id rfl
@[simp] theorem ePool_r {ns : List Int} : ePool ns i j ρ = fun p => match ρ i, p with
  | some .pool, some ps => match j with
    | 0 => some (.scr ns, p)
    | 1 => some (.int ps.place, p)
    | 2 => some (.int ps.rest, p)
    | 3 => some (.int ps.fills, p)
    | _ => none
  | _, _ => none := id rfl

/-! ### the operators -/
variable {a b : Int}
@[simp] theorem add_i : dAdd (.int a) (.int b) = some (.int (a + b)) := id rfl
@[simp] theorem add_l : dAdd (.lst ds) (.lst es) = if ds.length + es.length ≤ 16777216 then some (.lst (ds ++ es)) else none := id rfl
@[simp] theorem sub_i : dSub (.int a) (.int b) = some (.int (a - b)) := id rfl
@[simp] theorem neg_i : dNeg (.int a) = some (.int (-a)) := id rfl
@[simp] theorem lt_i : dLt (.int a) (.int b) = some (.bl (decide (a < b))) := id rfl
@[simp] theorem le_i : dLe (.int a) (.int b) = some (.bl (decide (a ≤ b))) := id rfl
@[simp] theorem gt_i : dGt (.int a) (.int b) = some (.bl (decide (b < a))) := id rfl
@[simp] theorem ge_i : dGe (.int a) (.int b) = some (.bl (decide (b ≤ a))) := id rfl
@[simp] theorem gcd_i : dGcd [.int a, .int b] = some (.int (Int.gcd a b)) := id rfl
@[simp] theorem int_i : dInt [.int a] = some (.int a) := id rfl
@[simp] theorem int_b {b : Bool} : dInt [.bl b] = some (.int (if b then 1 else 0)) := id rfl
@[simp] theorem abs_i : dAbs [.int a] = some (.int (if a < 0 then -a else a)) := id rfl
@[simp] theorem len_l : dLen [.lst ds] = some (.int ds.length) := id rfl
@[simp] theorem len_t : dLen [.tup ds] = some (.int ds.length) := id rfl
@[simp] theorem len_s {is : List Int} : dLen [.scr is] = some (.int is.length) := id rfl
@[simp] theorem eq_i : dEq (.int a) (.int b) = some (.bl (decide (a = b))) := id rfl
@[simp] theorem ne_i : dNe (.int a) (.int b) = some (.bl (!decide (a = b))) := id rfl
@[simp] theorem eq_b {a b : Bool} : dEq (.bl a) (.bl b) = some (.bl (a == b)) := by cases a <;> cases b <;> rfl
@[simp] theorem ne_b {a b : Bool} : dNe (.bl a) (.bl b) = some (.bl (!(a == b))) := by cases a <;> cases b <;> rfl
@[simp] theorem isB_b {a b : Bool} : dIsB (.bl a) (.bl b) = some (.bl (a == b)) := id rfl
@[simp] theorem notB_b {a b : Bool} : dNotB (.bl a) (.bl b) = some (.bl (!(a == b))) := id rfl
theorem div_i (h : 0 < b) (k : b.natAbs.log2 < 9000) : dII dDivI (.int a) (.int b) = some (.int (a / b)) := by
  show dDivI a b = _
  unfold dDivI; rw [if_pos h, if_pos k]
theorem mod_i (h : 0 < b) : dII dModI (.int a) (.int b) = some (.int (a % b)) := by
  show dModI a b = _
  unfold dModI; rw [if_pos h]
@[simp] theorem isN_n : dIsN .non .non = some (.bl true) := id rfl
@[simp] theorem isN_t : dIsN (.tup ds) .non = some (.bl false) := id rfl
@[simp] theorem isN_i : dIsN (.int a) .non = some (.bl false) := id rfl
@[simp] theorem isN_l : dIsN (.lst ds) .non = some (.bl false) := id rfl
@[simp] theorem isN_b {b : Bool} : dIsN (.bl b) .non = some (.bl false) := id rfl
@[simp] theorem notN_n : dNotN .non .non = some (.bl false) := id rfl
@[simp] theorem notN_t : dNotN (.tup ds) .non = some (.bl true) := id rfl
@[simp] theorem notN_i : dNotN (.int a) .non = some (.bl true) := id rfl
@[simp] theorem notN_l : dNotN (.lst ds) .non = some (.bl true) := id rfl
@[simp] theorem isBA_r {b : Bool} : dIsBA d (.bl b) = some (.bl (isBl d b)) := id rfl
@[simp] theorem notBA_r {b : Bool} : dNotBA d (.bl b) = some (.bl (!isBl d b)) := id rfl
@[simp] theorem isBl_b {a b : Bool} : isBl (.bl a) b = (a == b) := id rfl
@[simp] theorem isBl_i {b : Bool} : isBl (.int a) b = false := id rfl
@[simp] theorem isBl_n {b : Bool} : isBl .non b = false := id rfl
@[simp] theorem app_l : dAppend (.lst ds) [d] = if ds.length < 16777216 then some (.lst (ds ++ [d])) else none := id rfl
@[simp] theorem ix_t : dIxA (.tup ds) (.int a) = L2.atI ds a := id rfl
@[simp] theorem ix_l : dIxA (.lst ds) (.int a) = L2.atI ds a := id rfl
@[simp] theorem list_l : dList [.lst ds] = some (.lst ds) := id rfl
@[simp] theorem list_t : dList [.tup ds] = some (.lst ds) := id rfl
@[simp] theorem tuple_l : dTuple [.lst ds] = some (.tup ds) := id rfl
@[simp] theorem all_l {bs : List Bool} : dAll [.lst (bs.map .bl)] = some (.bl (bs.all id)) := by
  have : ∀ bs : List Bool, asBools (bs.map .bl) = some bs := by
    intro bs
    induction bs with
    | nil => rfl
    | cons b bs ih => show (asBools (bs.map .bl)).map _ = _; rw [ih]; rfl
  show (asBools _).map _ = _
  rw [this]; rfl
end
@[simp] theorem at10 {α : Type} {a : α} : L2.atI [a] 0 = some a := id rfl
@[simp] theorem at20 {α : Type} {a b : α} : L2.atI [a, b] 0 = some a := id rfl
@[simp] theorem at21 {α : Type} {a b : α} : L2.atI [a, b] 1 = some b := id rfl
@[simp] theorem at30 {α : Type} {a b c : α} : L2.atI [a, b, c] 0 = some a := id rfl
@[simp] theorem at31 {α : Type} {a b c : α} : L2.atI [a, b, c] 1 = some b := id rfl
@[simp] theorem at32 {α : Type} {a b c : α} : L2.atI [a, b, c] 2 = some c := id rfl
theorem at_nat {α : Type} {xs : List α} {i : Int} (h0 : 0 ≤ i) (h1 : i < xs.length) : L2.atI xs i = xs[i.toNat]? := by
  unfold L2.atI L2.ixN
  simp [h0, h1]

/-! ### the loops -/
def EndFor (I : Rho → Pl → Prop) (Q : Fl → Pl → Prop) : Fl → Pl → Prop
  | .nx ρ, p => I ρ p
  | .ct ρ, p => I ρ p
  | .bk ρ, p => Q (.nx ρ) p
  | .rt d, p => Q (.rt d) p
theorem W_for {t : TgS} {body : Rho → M Fl} {Q : Fl → Pl → Prop} (I : Nat → Rho → Pl → Prop) : ∀ {xs : List D} {ρ : Rho} {p : Pl}, I 0 ρ p →
    (∀ k x ρ p, xs[k]? = some x → I k ρ p → W ((M.lift (t x ρ)).bind body) p (EndFor (I (k + 1)) Q)) → (∀ ρ p, I xs.length ρ p → Q (.nx ρ) p) → W (forGo t body xs ρ) p Q := by
  intro xs
  induction xs generalizing I with
  | nil => intro ρ p h0 _ he; exact W_pure.mpr (he _ _ h0)
  | cons x xs ih =>
    intro ρ p h0 hs he
    show W ((M.lift (t x ρ)).bind fun ρ1 => (body ρ1).bind (forNext (forGo t body xs))) p Q
    have h1 := hs 0 x ρ p rfl h0
    rw [← M.bind_assoc]
    refine W.to h1 fun r p1 h2 => ?_
    have go : ∀ ρ2, I 1 ρ2 p1 → W (forGo t body xs ρ2) p1 Q := fun ρ2 h3 =>
      ih (fun k => I (k + 1)) h3 (fun k x ρ p hk hI => hs (k + 1) x ρ p (by simpa using hk) hI) (fun ρ p h => he ρ p h)
    cases r with
    | nx ρ2 => exact go ρ2 h2
    | ct ρ2 => exact go ρ2 h2
    | bk ρ2 => exact W_pure.mpr h2
    | rt d => exact W_pure.mpr h2
theorem W_lc {turn : D → M (Option D)} {Q : List D → Pl → Prop} (I : Nat → List D → Pl → Prop) : ∀ {xs : List D} {p : Pl}, I 0 [] p →
    (∀ k x ys p, xs[k]? = some x → I k ys p → W (turn x) p fun r p' => I (k + 1) (ys ++ r.toList) p') → (∀ ys p, I xs.length ys p → Q ys p) → W (lcGo turn xs) p Q := by
  intro xs
  induction xs generalizing I Q with
  | nil => intro p h0 _ he; exact W_pure.mpr (he _ _ h0)
  | cons x xs ih =>
    intro p h0 hs he
    show W ((turn x).bind fun r => (lcGo turn xs).bind fun ys => M.pure (match r with
      | some y => y :: ys
      | none => ys)) p Q
    refine W.to (hs 0 x [] p rfl h0) fun r p1 h1 => ?_
    refine W.to (Q := fun ys p => Q (r.toList ++ ys) p) (ih (fun k ys p => I (k + 1) (r.toList ++ ys) p) (by simpa using h1) (fun k x ys p hk hI => (hs (k + 1) x _ p (by simpa using hk) hI).mono fun r' p' h => by
      simpa using h) (fun ys p h => he _ p (by simpa using h))) fun ys p2 h2 => ?_
    refine W_pure.mpr ?_
    cases r <;> exact h2
theorem lc_pure {turn : D → M (Option D)} {f : D → Option D} : ∀ {xs : List D}, (∀ x ∈ xs, turn x = M.pure (f x)) → lcGo turn xs = M.pure (xs.filterMap f)
  | [], _ => rfl
  | x :: xs, h => by
    show (turn x).bind _ = _
    rw [h x (by simp), M.pure_bind, lc_pure (xs := xs) fun y hy => h y (by simp [hy]), M.pure_bind, List.filterMap_cons]
    cases f x <;> rfl
theorem lc_map {turn : D → M (Option D)} {f : D → D} {xs : List D} (h : ∀ x ∈ xs, turn x = M.pure (some (f x))) : lcGo turn xs = M.pure (xs.map f) := by
  rw [lc_pure (f := fun x => some (f x)) h]
  congr 1
  induction xs with
  | nil => rfl
  | cons x xs ih => simp [ih fun y hy => h y (by simp [hy])]
theorem range_get {n k : Nat} {lo : Int} {x : D} (h : (rangeL lo n)[k]? = some x) : k < n ∧ x = .int (lo + k) := by
  induction n generalizing lo k with
  | zero => simp [rangeL] at h
  | succ n ih =>
    cases k with
    | zero => simp [rangeL] at h; subst h; simp
    | succ k =>
      obtain ⟨h1, h2⟩ := ih (lo := lo + 1) (k := k) (by simpa [rangeL] using h)
      refine ⟨by omega, ?_⟩
      rw [h2]; congr 1; push_cast; omega
theorem range_map {n : Nat} {lo : Int} : rangeL lo n = (List.range n).map fun k => .int (lo + k) := by
  induction n generalizing lo with
  | zero => rfl
  | succ n ih =>
    rw [rangeL, ih, List.range_succ_eq_map]
    simp [Function.comp_def]
    intro a _; omega

/-! ### sizes -/
/-- at most n bits -/
class Bd (n : outParam Nat) (i : Int) : Prop where
  lt : i.natAbs < 2 ^ n
theorem Bd.mono {m n : Nat} {i : Int} (h : Bd m i) (k : m ≤ n) : Bd n i := ⟨Nat.lt_of_lt_of_le h.lt (Nat.pow_le_pow_right (by decide) k)⟩
theorem Bd.log {n : Nat} {i : Int} (h : Bd n i) : i.natAbs.log2 < n + 1 := by
  by_cases e : i.natAbs = 0
  · rw [e]; exact Nat.succ_pos _
  · have := (Nat.log2_lt e).mpr h.lt
    omega
instance Bd.mul {m n : Nat} {i j : Int} [h : Bd m i] [k : Bd n j] : Bd (m + n) (i * j) := ⟨by
  rw [Int.natAbs_mul, Nat.pow_add]
  exact Nat.mul_lt_mul'' h.lt k.lt⟩
instance Bd.add {m n : Nat} {i j : Int} [h : Bd m i] [k : Bd n j] : Bd (m + n + 1) (i + j) := ⟨by
  have h1 := (h.mono (n := m + n) (by omega)).lt
  have k1 := (k.mono (n := m + n) (by omega)).lt
  have e : 2 ^ (m + n + 1) = 2 ^ (m + n) + 2 ^ (m + n) := by rw [Nat.pow_succ]; omega
  rw [e]
  omega⟩
instance Bd.sub {m n : Nat} {i j : Int} [h : Bd m i] [k : Bd n j] : Bd (m + n + 1) (i - j) := ⟨by
  have h1 := (h.mono (n := m + n) (by omega)).lt
  have k1 := (k.mono (n := m + n) (by omega)).lt
  have e : 2 ^ (m + n + 1) = 2 ^ (m + n) + 2 ^ (m + n) := by rw [Nat.pow_succ]; omega
  rw [e]
  omega⟩
instance Bd.neg {m : Nat} {i : Int} [h : Bd m i] : Bd m (-i) := ⟨by rw [Int.natAbs_neg]; exact h.lt⟩
instance Bd.lit {n : Nat} : Bd (n.log2 + 1) (OfNat.ofNat n : Int) := ⟨by
  show (n : Int).natAbs < _
  rw [Int.natAbs_natCast]
  exact Nat.lt_log2_self⟩
theorem mul_i {m n : Nat} {i j : Int} [h : Bd m i] [k : Bd n j] (b : m + n ≤ 99999990) : dMul (.int i) (.int j) = some (.int (i * j)) := by
  have h1 := h.log
  have k1 := k.log
  show dMulI i j = _
  unfold dMulI mulOk
  rw [if_pos]
  have : i.natAbs.log2 + j.natAbs.log2 < 100000000 := by omega
  simp [this]
theorem mul_c {i j : Int} (h : -(2 ^ 64) < j) (k : j < 2 ^ 64) : dMul (.int i) (.int j) = some (.int (i * j)) := by
  show dMulI i j = _
  unfold dMulI mulOk
  rw [if_pos]
  have h' : -18446744073709551616 < j := h
  have k' : j < 18446744073709551616 := k
  simp [h', k']
theorem mul_c' {i j : Int} (h : -(2 ^ 64) < i) (k : i < 2 ^ 64) : dMul (.int i) (.int j) = some (.int (i * j)) := by
  show dMulI i j = _
  unfold dMulI mulOk
  rw [if_pos]
  have h' : -18446744073709551616 < i := h
  have k' : i < 18446744073709551616 := k
  simp [h', k']
end Pu

/-! Pure1: what the shared defs compute: fractions, drawing -/
namespace Pu
open PySem PySem.Spec PyProof.Rows L2 Lf Pre

/-- a fraction -/
def fr (a : Rat) : D := .tup [.int a.num, .int a.den]
@[simp] theorem fr0 {a : Rat} : dIxA (fr a) (.int 0) = some (.int a.num) := id rfl
@[simp] theorem fr1 {a : Rat} : dIxA (fr a) (.int 1) = some (.int a.den) := id rfl
class Sz (n : outParam Nat) (a : Rat) : Prop where
  num : Bd n a.num
  den : Bd n (a.den : Int)
theorem Sz.mono {m n : Nat} {a : Rat} (h : Sz m a) (k : m ≤ n) : Sz n a := ⟨h.num.mono k, h.den.mono k⟩
theorem Bd.of_dvd {n : Nat} {i j : Int} (h : Bd n j) (k : i ∣ j) (hj : j ≠ 0) : Bd n i :=
  ⟨Nat.lt_of_le_of_lt (Nat.le_of_dvd (Int.natAbs_pos.mpr hj) (Int.natAbs_dvd_natAbs.mpr k)) h.lt⟩
theorem den_pos {a : Rat} : (0 : Int) < a.den := Int.natCast_pos.mpr a.den_pos
theorem rat_eq (a : Rat) : a = (a.num : Rat) / ((a.den : Int) : Rat) := by
  rw [← Rat.divInt_eq_div, Rat.num_divInt_den]
theorem den_ne {a : Rat} : ((a.den : Int) : Rat) ≠ 0 := by
  have := @den_pos a
  intro h
  have h2 : (a.den : Int) = 0 := by exact_mod_cast h
  omega
theorem num_div {p q : Int} (h : 0 < q) : ((p : Rat) / q).num = p / (Int.gcd p q : Int) := by
  rw [← Rat.divInt_eq_div, Rat.num_divInt, Int.sign_eq_one_of_pos h, Int.gcd_comm]; simp
theorem den_div {p q : Int} (h : 0 < q) : (((p : Rat) / q).den : Int) = q / (Int.gcd p q : Int) := by
  rw [← Rat.divInt_eq_div, Rat.den_divInt, if_neg (by omega), Int.gcd_comm]
  rw [Int.natCast_ediv, Int.natAbs_of_nonneg (by omega)]
theorem Bd.ediv {n : Nat} {p g : Int} (h : Bd n p) (k : g ∣ p) : Bd n (p / g) := by
  by_cases e : p = 0
  · subst e; rw [Int.zero_ediv]; exact h
  · exact h.of_dvd ⟨g, (Int.ediv_mul_cancel k).symm⟩ e
theorem Sz.of_div {n : Nat} {p q : Int} (h : 0 < q) (hp : Bd n p) (hq : Bd n q) : Sz n ((p : Rat) / q) := by
  constructor
  · rw [num_div h]; exact hp.ediv (Int.gcd_dvd_left ..)
  · rw [den_div h]; exact hq.ediv (Int.gcd_dvd_right ..)

theorem frac_ok {p q : Int} {n : Nat} [hb : Bd n q] (hq : q ≠ 0) (hn : n < 8990) : F_frac [.int p, .int q] = M.pure (fr ((p : Rat) / q)) := by
  have hg : (0 : Int) < Int.gcd p q := Int.natCast_pos.mpr (Int.gcd_pos_of_ne_zero_right _ hq)
  have bg : Bd n (Int.gcd p q : Int) := hb.of_dvd (Int.gcd_dvd_right ..) hq
  have lg := bg.log
  unfold F_frac sem_frac
  by_cases h : 0 < q
  · have e1 : dII dDivI (.int p) (.int (Int.gcd p q : Int)) = some (.int (p / (Int.gcd p q : Int))) := div_i hg (by omega)
    have e2 : dII dDivI (.int q) (.int (Int.gcd p q : Int)) = some (.int (q / (Int.gcd p q : Int))) := div_i hg (by omega)
    simp [h, e1, e2]
    unfold fr
    rw [num_div h, den_div h]
  · have hq' : 0 < -q := by omega
    have e : ∀ i : Int, (Int.gcd p q : Int) ∣ i → dII dDivI (.int i) (.int (-(Int.gcd p q : Int))) = some (.int (-(i / (Int.gcd p q : Int)))) := fun i hi => by
      show dDivI i _ = _
      unfold dDivI
      rw [if_neg (by omega), if_pos ⟨by omega, by rw [Int.natAbs_neg]; omega⟩]
      rw [Int.fdiv_eq_ediv_of_dvd (Int.neg_dvd.mpr hi), Int.ediv_neg]
    have e1 := e p (Int.gcd_dvd_left ..)
    have e2 := e q (Int.gcd_dvd_right ..)
    simp [h, e1, e2]
    unfold fr
    have e3 : ((p : Rat) / q) = ((-p : Int) : Rat) / ((-q : Int) : Rat) := by
      have hz : (q : Rat) ≠ 0 := by exact_mod_cast hq
      push_cast; grind
    rw [e3, num_div hq', den_div hq']
    have eg : Int.gcd (-p) (-q) = Int.gcd p q := by simp
    rw [eg, Int.neg_ediv_of_dvd (Int.gcd_dvd_left ..), Int.neg_ediv_of_dvd (Int.gcd_dvd_right ..)]

theorem Bd.addMax {m n l : Nat} {i j : Int} (h : Bd m i) (k : Bd n j) (h1 : m ≤ l) (h2 : n ≤ l) : Bd (l + 1) (i + j) := ⟨by
  have h1 := (h.mono h1).lt
  have k1 := (k.mono h2).lt
  have e : 2 ^ (l + 1) = 2 ^ l + 2 ^ l := by rw [Nat.pow_succ]; omega
  rw [e]
  omega⟩
theorem den_mul {a b : Rat} : 0 < (a.den : Int) * b.den := Int.mul_pos den_pos den_pos
theorem add_eq (a b : Rat) : a + b = ((a.num * b.den + b.num * a.den : Int) : Rat) / ((a.den * b.den : Int) : Rat) := by
  have := @den_ne a; have := @den_ne b; have := rat_eq a; have := rat_eq b
  simp only [Rat.intCast_add, Rat.intCast_mul]; grind
theorem sub_eq (a b : Rat) : a - b = ((a.num * b.den - b.num * a.den : Int) : Rat) / ((a.den * b.den : Int) : Rat) := by
  have := @den_ne a; have := @den_ne b; have := rat_eq a; have := rat_eq b
  simp only [Rat.intCast_sub, Rat.intCast_mul]; grind
theorem mul_eq (a b : Rat) : a * b = ((a.num * b.num : Int) : Rat) / ((a.den * b.den : Int) : Rat) := by
  have := @den_ne a; have := @den_ne b; have := rat_eq a; have := rat_eq b
  simp only [Rat.intCast_mul]; grind
theorem num_ne {b : Rat} (h : b ≠ 0) : b.num ≠ 0 := fun e => h (Rat.num_eq_zero.mp e)
theorem div_eq (a b : Rat) (h : b ≠ 0) : a / b = ((a.num * b.den : Int) : Rat) / ((a.den * b.num : Int) : Rat) := by
  have := @den_ne a; have := @den_ne b; have := rat_eq a; have := rat_eq b
  have : (b.num : Rat) ≠ 0 := by
    have := num_ne h
    exact_mod_cast this
  simp only [Rat.intCast_mul]; grind
instance Sz.add {m n : Nat} {a b : Rat} [h : Sz m a] [k : Sz n b] : Sz (m + n + 1) (a + b) := by
  rw [add_eq]
  exact Sz.of_div den_mul (Bd.addMax (l := m + n) (Bd.mul (h := h.num) (k := k.den)) (Bd.mul (h := k.num) (k := h.den)) (by omega) (by omega)) ((Bd.mul (h := h.den) (k := k.den)).mono (by omega))
instance Sz.sub {m n : Nat} {a b : Rat} [h : Sz m a] [k : Sz n b] : Sz (m + n + 1) (a - b) := by
  rw [sub_eq, Int.sub_eq_add_neg]
  exact Sz.of_div den_mul (Bd.addMax (l := m + n) (Bd.mul (h := h.num) (k := k.den)) (Bd.neg (h := Bd.mul (h := k.num) (k := h.den))) (by omega) (by omega)) ((Bd.mul (h := h.den) (k := k.den)).mono (by omega))
instance Sz.mul {m n : Nat} {a b : Rat} [h : Sz m a] [k : Sz n b] : Sz (m + n) (a * b) := by
  rw [mul_eq]
  exact Sz.of_div den_mul (Bd.mul (h := h.num) (k := k.num)) (Bd.mul (h := h.den) (k := k.den))
theorem Sz.inv {n : Nat} {b : Rat} (k : Sz n b) : Sz n b⁻¹ := by
  have hb := k.num; have hd := k.den
  rw [Rat.inv_def, Rat.divInt_eq_div]
  by_cases h : b.num = 0
  · rw [h]
    have e : ((b.den : Int) : Rat) / ((0 : Int) : Rat) = 0 := by grind
    rw [e]
    have h1 : 0 < 2 ^ n := Nat.pow_pos (by decide)
    refine ⟨⟨h1⟩, ⟨?_⟩⟩
    have := k.den.lt
    have h2 : 0 < b.den := b.den_pos
    show 1 < 2 ^ n
    omega
  · by_cases h0 : 0 < b.num
    · exact Sz.of_div h0 hd hb
    · have e : ((b.den : Int) : Rat) / (b.num : Rat) = ((-(b.den : Int) : Int) : Rat) / ((-b.num : Int) : Rat) := by
        have : (b.num : Rat) ≠ 0 := by exact_mod_cast h
        simp only [Rat.intCast_neg]; grind
      rw [e]
      exact Sz.of_div (by omega) (Bd.neg (h := hd)) (Bd.neg (h := hb))
instance Sz.div {m n : Nat} {a b : Rat} [h : Sz m a] [k : Sz n b] : Sz (m + n) (a / b) := by
  rw [Rat.div_def]
  exact Sz.mul (k := k.inv)
instance Sz.neg {m : Nat} {a : Rat} [h : Sz m a] : Sz m (-a) := ⟨by rw [Rat.neg_num]; exact Bd.neg (h := h.num), by rw [Rat.neg_den]; exact h.den⟩

section
variable {m n : Nat} {a b : Rat} [h : Sz m a] [k : Sz n b]
theorem plus_ok (c : m + n < 8900) : F_plus [fr a, fr b] = M.pure (fr (a + b)) := by
  have := h.num; have := h.den; have := k.num; have := k.den
  have e1 : dMul (.int a.num) (.int b.den) = some (.int (a.num * b.den)) := mul_i (m := m) (n := n) (by omega)
  have e2 : dMul (.int b.num) (.int a.den) = some (.int (b.num * a.den)) := mul_i (m := n) (n := m) (by omega)
  have e3 : dMul (.int a.den) (.int b.den) = some (.int (a.den * b.den)) := mul_i (m := m) (n := n) (by omega)
  have e4 : F_frac [.int (a.num * b.den + b.num * a.den), .int (a.den * b.den)] = _ := frac_ok (hb := Bd.mul (m := m) (n := n)) (Int.ne_of_gt den_mul) (by omega)
  unfold F_plus sem_plus
  simp [e1, e2, e3, e4, -Rat.intCast_add, -Rat.intCast_mul]
  rw [← add_eq]
theorem minus_ok (c : m + n < 8900) : F_minus [fr a, fr b] = M.pure (fr (a - b)) := by
  have := h.num; have := h.den; have := k.num; have := k.den
  have e1 : dMul (.int a.num) (.int b.den) = some (.int (a.num * b.den)) := mul_i (m := m) (n := n) (by omega)
  have e2 : dMul (.int b.num) (.int a.den) = some (.int (b.num * a.den)) := mul_i (m := n) (n := m) (by omega)
  have e3 : dMul (.int a.den) (.int b.den) = some (.int (a.den * b.den)) := mul_i (m := m) (n := n) (by omega)
  have e4 : F_frac [.int (a.num * b.den - b.num * a.den), .int (a.den * b.den)] = _ := frac_ok (hb := Bd.mul (m := m) (n := n)) (Int.ne_of_gt den_mul) (by omega)
  unfold F_minus sem_minus
  simp [e1, e2, e3, e4, -Rat.intCast_sub, -Rat.intCast_mul]
  rw [← sub_eq]
theorem times_ok (c : m + n < 8900) : F_times [fr a, fr b] = M.pure (fr (a * b)) := by
  have := h.num; have := h.den; have := k.num; have := k.den
  have e1 : dMul (.int a.num) (.int b.num) = some (.int (a.num * b.num)) := mul_i (m := m) (n := n) (by omega)
  have e3 : dMul (.int a.den) (.int b.den) = some (.int (a.den * b.den)) := mul_i (m := m) (n := n) (by omega)
  have e4 : F_frac [.int (a.num * b.num), .int (a.den * b.den)] = _ := frac_ok (hb := Bd.mul (m := m) (n := n)) (Int.ne_of_gt den_mul) (by omega)
  unfold F_times sem_times
  simp [e1, e3, e4, -Rat.intCast_mul]
  rw [← mul_eq]
theorem over_ok (hz : b ≠ 0) (c : m + n < 8900) : F_over [fr a, fr b] = M.pure (fr (a / b)) := by
  have := h.num; have := h.den; have := k.num; have := k.den
  have e1 : dMul (.int a.num) (.int b.den) = some (.int (a.num * b.den)) := mul_i (m := m) (n := n) (by omega)
  have e3 : dMul (.int a.den) (.int b.num) = some (.int (a.den * b.num)) := mul_i (m := m) (n := n) (by omega)
  have e4 : F_frac [.int (a.num * b.den), .int (a.den * b.num)] = _ := frac_ok (hb := Bd.mul (m := m) (n := n)) (Int.mul_ne_zero (Int.ne_of_gt den_pos) (num_ne hz)) (by omega)
  unfold F_over sem_over
  simp [e1, e3, e4, -Rat.intCast_mul]
  rw [← div_eq _ _ hz]
theorem less_ok (c : m + n < 8900) : F_less [fr a, fr b] = M.pure (.bl (decide (a < b))) := by
  have := h.num; have := h.den; have := k.num; have := k.den
  have e1 : dMul (.int a.num) (.int b.den) = some (.int (a.num * b.den)) := mul_i (m := m) (n := n) (by omega)
  have e2 : dMul (.int b.num) (.int a.den) = some (.int (b.num * a.den)) := mul_i (m := n) (n := m) (by omega)
  unfold F_less sem_less
  simp [e1, e2, Rat.lt_iff]
theorem lless_ok (c : m + n < 8900) : F__law_less [fr a, fr b] = M.pure (.bl (decide (a < b))) := by
  have := h.num; have := h.den; have := k.num; have := k.den
  have e1 : dMul (.int a.num) (.int b.den) = some (.int (a.num * b.den)) := mul_i (m := m) (n := n) (by omega)
  have e2 : dMul (.int b.num) (.int a.den) = some (.int (b.num * a.den)) := mul_i (m := n) (n := m) (by omega)
  unfold F__law_less sem__law_less
  simp [e1, e2, Rat.lt_iff]
end
end Pu

/-! Pure2: the law's own gcd and ratio, the pool -/
namespace Pu
open PySem PySem.Spec PyProof.Rows L2 Lf Pre

theorem W.pure_of {α : Type} {m : M α} {a : α} {p : Pl} {Q : α → Pl → Prop} (h : m = M.pure a) (q : Q a p) : W m p Q := by rw [h]; exact W_pure.mpr q

theorem gcd_step {x y : Int} (hy : y ≠ 0) : Int.gcd y (x % y) = Int.gcd x y := by
  have e : x % y = x - x / y * y := by
    have := Int.mul_ediv_add_emod x y
    grind
  rw [e, Int.gcd_sub_mul_right_right, Int.gcd_comm]
theorem small_of {x y b : Int} {n K : Nat} (h : x * y * 2 ^ K ≤ b * b) (hb : Bd n b) (hn : n + n ≤ K) (hx : 0 ≤ x) (hy : 0 ≤ y) : x * y = 0 := by
  have h1 := (Bd.mul (h := hb) (k := hb)).lt
  have h2 : (b * b).natAbs < 2 ^ K := Nat.lt_of_lt_of_le h1 (Nat.pow_le_pow_right (by decide) hn)
  have h3 : b * b < 2 ^ K := Int.lt_of_le_of_lt Int.le_natAbs (by exact_mod_cast h2)
  have h4 : (0 : Int) < 2 ^ K := Int.pow_pos (by decide)
  have h5 := Int.mul_nonneg hx hy
  by_cases h6 : x * y = 0
  · exact h6
  · have : 1 * (2 : Int) ^ K ≤ x * y * 2 ^ K := Int.mul_le_mul_of_nonneg_right (by omega) (by omega)
    omega
theorem lgcd_ok {a b : Int} {n : Nat} [hb : Bd n b] (h0 : 0 ≤ a) (h1 : 0 ≤ b) (hn : n ≤ 199000) : F__law_gcd [.int a, .int b] = M.pure (.int (Int.gcd a b)) := by
  refine W.eq fun p => ?_
  unfold F__law_gcd sem__law_gcd
  simp only [runFn_r, sSeq_r, sFor_r, rng1_r, aCons_r, eC_r, aNil_r, M.pure_bind, M.bind_assoc]
  rw [if_pos (by decide)]
  simp only [M.pure_bind, M.bind_assoc]
  refine W.to (Q := fun r p' => p' = p ∧ ∃ ρ, r = .nx ρ ∧ ρ 0 = some (.int (Int.gcd a b))) (W_for (fun k ρ p' => p' = p ∧ ∃ x y : Int, ρ 0 = some (.int x) ∧ ρ 1 = some (.int y) ∧ 0 ≤ x ∧ 0 ≤ y ∧ Int.gcd x y = Int.gcd a b ∧ (k = 0 ∧ y = b ∨ 0 < k ∧ y ≤ x ∧ x * y * 2 ^ (k - 1) ≤ b * b)) ?_ ?_ ?_) ?_
  · exact ⟨rfl, a, b, rfl, rfl, h0, h1, rfl, .inl ⟨rfl, rfl⟩⟩
  · rintro k d ρ p' hk ⟨rfl, x, y, e0, e1, hx, hy, hg, hm⟩
    obtain ⟨hk, rfl⟩ := range_get hk
    by_cases hz : y = 0
    · subst hz
      simp [e0, e1, W_pure, EndFor]
      rw [← hg]; simp; omega
    · have e2 : dII dModI (.int x) (.int y) = some (.int (x % y)) := mod_i (by omega)
      simp [e0, e1, e2, hz, W_pure, EndFor]
      have m0 := Int.emod_nonneg x hz
      have m1 := Int.emod_lt_of_pos x (show 0 < y by omega)
      refine ⟨hy, m0, by rw [gcd_step hz, hg], by omega, ?_⟩
      rcases hm with ⟨rfl, rfl⟩ | ⟨hk0, hxy, hm⟩
      · simp
        exact Int.mul_le_mul_of_nonneg_left (by omega) hy
      · obtain ⟨j, rfl⟩ : ∃ j, k = j + 1 := ⟨k - 1, by omega⟩
        simp at hm ⊢
        refine Int.le_trans ?_ hm
        rw [Int.pow_succ]
        have : y * (x % y) * 2 ≤ x * y := by
          have d1 := Int.mul_ediv_add_emod x y
          have q1 : 1 ≤ x / y := by
            rcases Int.lt_or_le 0 (x / y) with h | h
            · omega
            · have := Int.mul_le_mul_of_nonneg_left h hy
              omega
          have : y ≤ y * (x / y) := by
            have := Int.mul_le_mul_of_nonneg_left q1 hy
            omega
          have h2 : 2 * (x % y) ≤ x := by omega
          have := Int.mul_le_mul_of_nonneg_left h2 hy
          grind
        have p0 : (0 : Int) ≤ 2 ^ j := Int.pow_nonneg (by decide)
        have := Int.mul_le_mul_of_nonneg_right this p0
        grind
  · rintro ρ p' ⟨rfl, x, y, e0, e1, hx, hy, hg, hm⟩
    refine ⟨rfl, ρ, rfl, ?_⟩
    rw [e0, ← hg]
    rw [rangeL_length] at hm
    have : y = 0 := by
      rcases hm with ⟨h, _⟩ | ⟨_, hxy, hm⟩
      · exact absurd h (by decide)
      · have h := small_of hm hb (by show n + n ≤ 399999; omega) hx hy
        rcases Int.mul_eq_zero.mp h with h | h
        · omega
        · exact h
    subst this
    simp; omega
  · rintro r p' ⟨rfl, ρ, rfl, e⟩
    simp [e, W_pure]

theorem ratio_ok {p q : Int} {n : Nat} [hb : Bd n q] (hq : q ≠ 0) (hn : n < 8990) : F__law_ratio [.int p, .int q] = M.pure (fr ((p : Rat) / q)) := by
  have main : ∀ p q : Int, Bd n q → 0 < q → ∀ g, g = (Int.gcd p q : Int) → dII dDivI (.int p) (.int g) = some (.int ((p : Rat) / q).num) ∧ dII dDivI (.int q) (.int g) = some (.int ((p : Rat) / q).den) := fun p q bq h g eg => by
    subst eg
    have hg : (0 : Int) < Int.gcd p q := Int.natCast_pos.mpr (Int.gcd_pos_of_ne_zero_right _ (by omega))
    have bg : Bd n (Int.gcd p q : Int) := bq.of_dvd (Int.gcd_dvd_right ..) (by omega)
    have lg := bg.log
    rw [num_div h, den_div h]
    exact ⟨div_i hg (by omega), div_i hg (by omega)⟩
  unfold F__law_ratio sem__law_ratio
  by_cases h : q < 0
  · have eg : F__law_gcd [.int (if 0 < p then p else -p), .int (-q)] = M.pure (.int (Int.gcd p q)) := by
      rw [lgcd_ok (hb := Bd.neg (h := hb)) (by split <;> omega) (by omega) (by omega)]
      congr 3
      split <;> simp
    obtain ⟨e1, e2⟩ := main (-p) (-q) (Bd.neg (h := hb)) (by omega) (Int.gcd p q) (by simp)
    simp [h, eg, e1, e2]
    have e3 : ((p : Rat) / q) = ((-p : Int) : Rat) / ((-q : Int) : Rat) := by
      have hz : (q : Rat) ≠ 0 := by exact_mod_cast hq
      push_cast; grind
    rw [e3]; rfl
  · have eg : F__law_gcd [.int (if p < 0 then -p else p), .int q] = M.pure (.int (Int.gcd p q)) := by
      rw [lgcd_ok (hb := hb) (by split <;> omega) (by omega) (by omega)]
      congr 3
      split <;> simp
    obtain ⟨e1, e2⟩ := main p q hb (by omega) _ rfl
    simp [h, eg, e1, e2]
    rfl
section
variable {m n : Nat} {a b : Rat} [h : Sz m a] [k : Sz n b]
theorem ladd_ok (c : m + n < 8900) : F__law_add [fr a, fr b] = M.pure (fr (a + b)) := by
  have := h.num; have := h.den; have := k.num; have := k.den
  have e1 : dMul (.int a.num) (.int b.den) = some (.int (a.num * b.den)) := mul_i (m := m) (n := n) (by omega)
  have e2 : dMul (.int b.num) (.int a.den) = some (.int (b.num * a.den)) := mul_i (m := n) (n := m) (by omega)
  have e3 : dMul (.int a.den) (.int b.den) = some (.int (a.den * b.den)) := mul_i (m := m) (n := n) (by omega)
  have e4 : F__law_ratio [.int (a.num * b.den + b.num * a.den), .int (a.den * b.den)] = _ := ratio_ok (hb := Bd.mul (m := m) (n := n)) (Int.ne_of_gt den_mul) (by omega)
  unfold F__law_add sem__law_add
  simp [e1, e2, e3, e4, -Rat.intCast_add, -Rat.intCast_mul]
  rw [← add_eq]
theorem lsub_ok (c : m + n < 8900) : F__law_sub [fr a, fr b] = M.pure (fr (a - b)) := by
  have := h.num; have := h.den; have := k.num; have := k.den
  have e1 : dMul (.int a.num) (.int b.den) = some (.int (a.num * b.den)) := mul_i (m := m) (n := n) (by omega)
  have e2 : dMul (.int b.num) (.int a.den) = some (.int (b.num * a.den)) := mul_i (m := n) (n := m) (by omega)
  have e3 : dMul (.int a.den) (.int b.den) = some (.int (a.den * b.den)) := mul_i (m := m) (n := n) (by omega)
  have e4 : F__law_ratio [.int (a.num * b.den - b.num * a.den), .int (a.den * b.den)] = _ := ratio_ok (hb := Bd.mul (m := m) (n := n)) (Int.ne_of_gt den_mul) (by omega)
  unfold F__law_sub sem__law_sub
  simp [e1, e2, e3, e4, -Rat.intCast_sub, -Rat.intCast_mul]
  rw [← sub_eq]
theorem lmul_ok (c : m + n < 8900) : F__law_mul [fr a, fr b] = M.pure (fr (a * b)) := by
  have := h.num; have := h.den; have := k.num; have := k.den
  have e1 : dMul (.int a.num) (.int b.num) = some (.int (a.num * b.num)) := mul_i (m := m) (n := n) (by omega)
  have e3 : dMul (.int a.den) (.int b.den) = some (.int (a.den * b.den)) := mul_i (m := m) (n := n) (by omega)
  have e4 : F__law_ratio [.int (a.num * b.num), .int (a.den * b.den)] = _ := ratio_ok (hb := Bd.mul (m := m) (n := n)) (Int.ne_of_gt den_mul) (by omega)
  unfold F__law_mul sem__law_mul
  simp [e1, e3, e4, -Rat.intCast_mul]
  rw [← mul_eq]
theorem ldiv_ok (hz : b ≠ 0) (c : m + n < 8900) : F__law_div [fr a, fr b] = M.pure (fr (a / b)) := by
  have := h.num; have := h.den; have := k.num; have := k.den
  have e1 : dMul (.int a.num) (.int b.den) = some (.int (a.num * b.den)) := mul_i (m := m) (n := n) (by omega)
  have e3 : dMul (.int a.den) (.int b.num) = some (.int (a.den * b.num)) := mul_i (m := m) (n := n) (by omega)
  have e4 : F__law_ratio [.int (a.num * b.den), .int (a.den * b.num)] = _ := ratio_ok (hb := Bd.mul (m := m) (n := n)) (Int.mul_ne_zero (Int.ne_of_gt den_pos) (num_ne hz)) (by omega)
  unfold F__law_div sem__law_div
  simp [e1, e3, e4, -Rat.intCast_mul]
  rw [← div_eq _ _ hz]
end

/-! ### the pool -/
structure PoolOk (c : Nat) (ps : Ps) : Prop where
  p0 : 0 ≤ ps.place
  p1 : ps.place ≤ c
  f0 : 0 ≤ ps.fills
  f1 : ps.fills ≤ c
theorem PoolOk.mono {c c' : Nat} {ps : Ps} (h : PoolOk c ps) (k : c ≤ c') : PoolOk c' ps := ⟨h.p0, Int.le_trans h.p1 (by omega), h.f0, Int.le_trans h.f1 (by omega)⟩
theorem bd_of {n : Nat} {i : Int} (h0 : 0 ≤ i) (h : i < 2 ^ n) : Bd n i := ⟨by
  have : (i.natAbs : Int) < ((2 ^ n : Nat) : Int) := by rw [Int.natAbs_of_nonneg h0]; simpa using h
  exact_mod_cast this⟩
theorem bd_mod {n : Nat} (i : Int) {j : Int} (h0 : 0 < j) (h : j ≤ 2 ^ n) : Bd n (i % j) := bd_of (Int.emod_nonneg _ (by omega)) (Int.lt_of_lt_of_le (Int.emod_lt_of_pos _ h0) h)
theorem mixed_ok {number place : Int} [hn : Bd 3000000 number] [hp : Bd 70 place] : ∃ v, F__law_mixed [.int number, .int place] = M.pure (.int v) := by
  have e1 : dMul (.int number) (.int 410338673998125441398711) = some (.int _) := mul_i (h := hn) (k := bd_of (n := 80) (by decide) (by decide)) (by decide)
  have e2 : dMul (.int place) (.int 736418259301774563982039) = some (.int _) := mul_i (h := hp) (k := bd_of (n := 80) (by decide) (by decide)) (by decide)
  have e3 : ∀ i : Int, dII dModI (.int i) (.int 618970019642690137449562111) = some (.int (i % 618970019642690137449562111)) := fun i => mod_i (by decide)
  have e4 : ∀ i : Int, dII dModI (.int i) (.int 162259276829213363391578010288127) = some (.int (i % 162259276829213363391578010288127)) := fun i => mod_i (by decide)
  have e5 : ∀ i : Int, dMul (.int (i % 618970019642690137449562111)) (.int (i % 618970019642690137449562111)) = some (.int (i % 618970019642690137449562111 * (i % 618970019642690137449562111))) := fun i => mul_i (h := bd_mod (n := 100) _ (by decide) (by decide)) (k := bd_mod (n := 100) _ (by decide) (by decide)) (by decide)
  have e6 : ∀ i : Int, dMul (.int 7) (.int i) = some (.int (7 * i)) := fun i => mul_c' (by decide) (by decide)
  have e7 : ∀ i : Int, dMul (.int (i % 162259276829213363391578010288127)) (.int (i % 162259276829213363391578010288127)) = some (.int (i % 162259276829213363391578010288127 * (i % 162259276829213363391578010288127))) := fun i => mul_i (h := bd_mod (n := 120) _ (by decide) (by decide)) (k := bd_mod (n := 120) _ (by decide) (by decide)) (by decide)
  have e8 : ∀ i : Int, dMul (.int (i % 162259276829213363391578010288127)) (.int 618970019642690137449562111) = some (.int (i % 162259276829213363391578010288127 * 618970019642690137449562111)) := fun i => mul_i (h := bd_mod (n := 120) _ (by decide) (by decide)) (k := bd_of (n := 100) (by decide) (by decide)) (by decide)
  unfold F__law_mixed sem__law_mixed
  simp only [runFn_r, sSeq_r, sSet_r, eOp_r, eVar_r, args0, args1, M.lift_some', M.pure_bind, eC_r, sThen_nx, eCallB_r, aCons_r, aNil_r, upd_r, M.bind_assoc, e1, e2, e3, e4, e5, e6, e7, e8, add_i, int_i, if_true, sRet_r, endFn_rt, if_neg (show ¬ (0 : Nat) = 2 by decide), if_neg (show ¬ (1 : Nat) = 2 by decide), if_neg (show ¬ (1 : Nat) = 3 by decide), if_neg (show ¬ (2 : Nat) = 3 by decide), if_neg (show ¬ (2 : Nat) = 4 by decide), if_neg (show ¬ (3 : Nat) = 4 by decide)]
  exact ⟨_, rfl⟩
end Pu

/-! Pure3: the pool's moves; _law_same of equal data -/
namespace Pu
open PySem PySem.Spec PyProof.Rows L2 Lf Pre

theorem script_bd {ns : List Int} (h : Script ns) {z : Int} (hz : z ∈ ns) : Bd 1048577 z := by
  have := h.2 z hz
  refine ⟨?_⟩
  unfold Builtin.Int.intBits at this
  split at this
  · rename_i e
    rw [eq_of_beq e]; exact Nat.pow_pos (by decide)
  · exact Nat.lt_of_lt_of_le Nat.lt_log2_self (Nat.pow_le_pow_right (by decide) (by omega))
theorem pow18 : dII dPowI (.int 10) (.int 18) = some (.int 1000000000000000000) := by
  show dPowI 10 18 = _
  unfold dPowI
  rw [if_pos (by decide)]
  rfl
theorem rest_ok {ns : List Int} (h : Script ns) {place fills : Int} {c : Nat} (hp0 : 0 ≤ place) (hp1 : place ≤ c) (hf0 : 0 ≤ fills) (hf1 : fills ≤ c) (hc : c < 2 ^ 60) : ∃ v, F__law_rest [.scr ns, .int place, .int fills] = M.pure (.int v) := by
  have bp : Bd 70 place := bd_of hp0 (by omega)
  have bf : Bd 70 fills := bd_of hf0 (by omega)
  have key : ∀ z : Int, Bd 1048600 z → ∃ v, F__law_mixed [.int (z + fills * 1000003), .int place] = M.pure (.int v) := fun z hz =>
    mixed_ok (hn := (Bd.add (h := hz) (k := Bd.mul (h := bf) (k := bd_of (n := 20) (by decide) (by decide)))).mono (by decide)) (hp := bp)
  have e1 : dMul (.int fills) (.int 1000003) = some (.int (fills * 1000003)) := mul_c (by decide) (by decide)
  have num : ∃ z : Int, Bd 1048577 z ∧ (if (0 : Int) < ns.length then ((dIxA (.scr ns) (.int (place % ns.length))).bind fun d => dInt [d]) else some (.int 0)) = some (.int z) := by
    by_cases hn : ns = []
    · subst hn; exact ⟨0, bd_of (by decide) (Int.pow_pos (by decide)), rfl⟩
    · have hl : 0 < ns.length := List.length_pos_iff.mpr hn
      have hl' : (0 : Int) < ns.length := by omega
      rw [if_pos hl']
      have m0 := Int.emod_nonneg place (show (ns.length : Int) ≠ 0 by omega)
      have m1 := Int.emod_lt_of_pos place hl'
      have hk : (place % ns.length).toNat < ns.length := by omega
      refine ⟨ns[(place % ns.length).toNat], script_bd h (List.getElem_mem hk), ?_⟩
      show ((L2.atI ns (place % ns.length)).map D.int).bind _ = _
      rw [at_nat m0 m1, List.getElem?_eq_getElem hk]
      rfl
  obtain ⟨z, bz, ez⟩ := num
  have e2 : dMul (.int 2) (.int z) = some (.int (2 * z)) := mul_c' (by decide) (by decide)
  have bz2 : Bd 1048600 (1 - 2 * z) := (Bd.sub (h := bd_of (n := 2) (by decide) (by decide)) (k := Bd.mul (h := bd_of (n := 2) (by decide) (by decide)) (k := bz))).mono (by decide)
  have start : (sIf (tOf (eOp dGt (eCallB dLen (aCons (eVar 0) aNil)) (eC (.int 0))))
      (sSet 3 (eCallB dInt (aCons (eOp dIxA (eVar 0) (eOp (dII dModI) (eCallB dInt (aCons (eVar 1) aNil)) (eCallB dLen (aCons (eVar 0) aNil)))) aNil)))
      sNx) (Rho.upd (argsOf [.scr ns, .int place, .int fills]) 3 (.int 0)) = M.pure (.nx ((argsOf [.scr ns, .int place, .int fills]).upd 3 (.int z))) := by
    have uu : (Rho.upd (Rho.upd (argsOf [.scr ns, .int place, .int fills]) 3 (.int 0)) 3 (.int z)) = (argsOf [.scr ns, .int place, .int fills]).upd 3 (.int z) := by
      funext j; simp; split <;> rfl
    by_cases hl : (0 : Int) < ns.length
    · rw [if_pos hl] at ez
      have em : dII dModI (.int place) (.int ns.length) = some (.int (place % ns.length)) := mod_i hl
      obtain ⟨d, ed, ei⟩ := Option.bind_eq_some_iff.mp ez
      have hl' : 0 < ns.length := by omega
      simp [hl', em, ed, ei, uu]
    · rw [if_neg hl] at ez
      cases ez
      have hl' : ¬ 0 < ns.length := by omega
      simp [hl']
  unfold F__law_rest sem__law_rest
  simp only [runFn_r, sSeq_r, sSet_r, eC_r, M.pure_bind, sThen_nx, start]
  by_cases hz : z < 0
  · obtain ⟨v, ev⟩ := key _ bz2
    by_cases hf : fills = 0 ∧ place < ns.length ∧ (1000000000000000000 : Int) ≤ 1 - 2 * z
    · obtain ⟨h1, h2, h3⟩ := hf
      simp [hz, e2, h1, h2, h3, pow18]
      exact ⟨_, rfl⟩
    · refine ⟨v, ?_⟩
      have e3 : (if fills = 0 then if place < ns.length then decide ((1000000000000000000 : Int) ≤ 1 - 2 * z) else false else false) = false := by
        split
        · split
          · simp; omega
          · rfl
        · rfl
      by_cases g1 : fills = 0
      · subst g1
        simp at ev
        by_cases g2 : place < ns.length
        · have g3 : ¬ (1000000000000000000 : Int) ≤ 1 - 2 * z := by omega
          simp [hz, e2, g2, g3, pow18, e1, ev]
        · simp [hz, e2, g2, e1, ev]
      · simp [hz, e2, g1, e1, ev]
  · obtain ⟨v, ev⟩ := key z (bz.mono (by decide))
    by_cases g1 : fills = 0
    · subst g1
      simp at ev
      by_cases g2 : place < ns.length
      · by_cases g3 : (1000000000000000000 : Int) ≤ z
        · simp [hz, g2, g3, pow18]
          exact ⟨_, rfl⟩
        · simp [hz, g2, g3, pow18, e1, ev]
          exact ⟨_, rfl⟩
      · simp [hz, g2, e1, ev]
        exact ⟨_, rfl⟩
    · simp [hz, g1, e1, ev]
      exact ⟨_, rfl⟩
end Pu

/-! Pure4: the pool's moves -/
namespace Pu
open PySem PySem.Spec PyProof.Rows L2 Lf Pre
theorem pool_ok {ns : List Int} (h : Script ns) {Q : D → Pl → Prop} (q : ∀ ps, PoolOk 0 ps → Q .pool (some ps)) : W (F__law_pool ns [.scr ns]) none Q := by
  obtain ⟨v, e⟩ := rest_ok h (place := 0) (fills := 0) (c := 0) (by decide) (by decide) (by decide) (by decide) (by decide)
  refine ⟨.pool, some ⟨0, v, 0⟩, ?_, q _ ⟨Int.le_refl 0, Int.le_refl 0, Int.le_refl 0, Int.le_refl 0⟩⟩
  unfold F__law_pool sem__law_pool sRetPool
  simp only [runFn, aCons_r, eVar_r, eC_r, args0, M.lift_some', eCall_r, aNil_r, M.pure_bind, e]
  simp [M.bind, M.pure, endFn]
section
variable {ns : List Int} {ρ : Rho} {i : Nat} {ps : Ps} {Q : D → Pl → Prop}
theorem W_ep0 (h : ρ i = some .pool) (q : Q (.scr ns) (some ps)) : W (ePool ns i 0 ρ) (some ps) Q := ⟨_, _, by simp only [ePool, h], q⟩
theorem W_ep1 (h : ρ i = some .pool) (q : Q (.int ps.place) (some ps)) : W (ePool ns i 1 ρ) (some ps) Q := ⟨_, _, by simp only [ePool, h], q⟩
theorem W_ep2 (h : ρ i = some .pool) (q : Q (.int ps.rest) (some ps)) : W (ePool ns i 2 ρ) (some ps) Q := ⟨_, _, by simp only [ePool, h], q⟩
theorem W_ep3 (h : ρ i = some .pool) (q : Q (.int ps.fills) (some ps)) : W (ePool ns i 3 ρ) (some ps) Q := ⟨_, _, by simp only [ePool, h], q⟩
variable {R : Fl → Pl → Prop} {f : Rho → M D}
theorem W_sp1 (h : ρ i = some .pool) (q : W (f ρ) (some ps) fun d p => ∃ z ps', d = .int z ∧ p = some ps' ∧ R (.nx ρ) (some { ps' with place := z })) : W (sPool i 1 f ρ) (some ps) R := by
  refine W.to q ?_
  rintro d p ⟨z, ps', rfl, rfl, q⟩
  exact ⟨_, _, by simp only [h], q⟩
theorem W_sp2 (h : ρ i = some .pool) (q : W (f ρ) (some ps) fun d p => ∃ z ps', d = .int z ∧ p = some ps' ∧ R (.nx ρ) (some { ps' with rest := z })) : W (sPool i 2 f ρ) (some ps) R := by
  refine W.to q ?_
  rintro d p ⟨z, ps', rfl, rfl, q⟩
  exact ⟨_, _, by simp only [h], q⟩
theorem W_sp3 (h : ρ i = some .pool) (q : W (f ρ) (some ps) fun d p => ∃ z ps', d = .int z ∧ p = some ps' ∧ R (.nx ρ) (some { ps' with fills := z })) : W (sPool i 3 f ρ) (some ps) R := by
  refine W.to q ?_
  rintro d p ⟨z, ps', rfl, rfl, q⟩
  exact ⟨_, _, by simp only [h], q⟩
end
theorem W_seq {f k : Rho → M Fl} {ρ : Rho} {p : Pl} {Q : Fl → Pl → Prop} (h : W (f ρ) p fun r p' => W (sThen k r) p' Q) : W (sSeq f k ρ) p Q := W_bind.mpr h
theorem next_ok {ns : List Int} (h : Script ns) {c : Nat} {ps : Ps} (P : PoolOk c ps) (hc : c < 2 ^ 59) {Q : D → Pl → Prop} (q : ∀ ps, PoolOk (c + 1) ps → Q .non (some ps)) : W (F__law_next ns [.pool]) (some ps) Q := by
  obtain ⟨v, e⟩ := rest_ok h (place := ps.place + 1) (fills := 0) (c := c + 1) (by have := P.p0; omega) (by have := P.p1; push_cast; omega) (by decide) (by omega) (by omega)
  have q := q ⟨ps.place + 1, v, 0⟩ ⟨by have := P.p0; show 0 ≤ ps.place + 1; omega, by have := P.p1; show ps.place + 1 ≤ _; push_cast; omega, Int.le_refl 0, by show (0 : Int) ≤ _; omega⟩
  unfold F__law_next sem__law_next
  refine W_bind.mpr (W_seq (W_sp1 rfl ?_))
  refine W_bind.mpr (W_ep1 rfl ?_)
  simp only [eC_r, M.pure_bind, add_i, M.lift_some', W_pure, sThen_nx]
  refine ⟨_, _, rfl, rfl, ?_⟩
  refine W_seq (W_sp2 rfl ?_)
  refine W_bind.mpr (W_bind.mpr (W_ep0 rfl (W_bind.mpr (W_bind.mpr (W_ep1 rfl ?_)))))
  simp only [aCons_r, eC_r, aNil_r, M.pure_bind, W_pure]
  rw [e]
  refine W_pure.mpr ⟨_, _, rfl, rfl, ?_⟩
  refine W_sp3 rfl (W_pure.mpr ⟨_, _, rfl, rfl, ?_⟩)
  exact W_pure.mpr q
theorem draw_ok {ns : List Int} (h : Script ns) {c : Nat} {ps : Ps} (P : PoolOk c ps) (hc : c < 2 ^ 59) {lim : Int} {n : Nat} [hb : Bd n lim] (hn : n < 8990) (h0 : 0 < lim) {Q : D → Pl → Prop}
    (q : ∀ v ps, 0 ≤ v → v < lim → PoolOk (c + 1) ps → Q (.int v) (some ps)) : W (F__law_draw ns [.pool, .int lim]) (some ps) Q := by
  have lg := hb.log
  have fin : ∀ ps1 : Ps, PoolOk (c + 1) ps1 → W (sSeq (sSet 2 (eOp (dII dModI) (eCallB dInt (aCons (ePool ns 0 2) aNil)) (eVar 1)))
    (sSeq (sPool 0 2 (eOp (dII dDivI) (eCallB dInt (aCons (ePool ns 0 2) aNil)) (eVar 1)))
    (sRet (eVar 2))) (argsOf [.pool, .int lim])) (some ps1) fun r p' => W (endFn r) p' Q := fun ps1 P1 => by
    have em : dII dModI (.int ps1.rest) (.int lim) = some (.int (ps1.rest % lim)) := mod_i h0
    have ed : dII dDivI (.int ps1.rest) (.int lim) = some (.int (ps1.rest / lim)) := div_i h0 (by omega)
    refine W_seq (W_bind.mpr (W_bind.mpr (W_bind.mpr (W_bind.mpr (W_ep2 rfl ?_)))))
    simp only [aNil_r, M.pure_bind, W_pure, int_i, M.lift_some', eVar_r, args1, em, sThen_nx]
    refine W_seq (W_sp2 rfl ?_)
    refine W_bind.mpr (W_bind.mpr (W_bind.mpr (W_ep2 rfl ?_)))
    simp only [aNil_r, M.pure_bind, W_pure, int_i, M.lift_some', eVar_r, args1, upd_r, if_neg (show ¬ (1 : Nat) = 2 by decide), ed, sThen_nx]
    refine ⟨_, _, rfl, rfl, ?_⟩
    simp only [sRet_r, eVar_r, upd_r, if_true, M.lift_some', M.pure_bind, W_pure, endFn_rt]
    exact q _ _ (Int.emod_nonneg _ (by omega)) (Int.emod_lt_of_pos _ h0) ⟨P1.p0, P1.p1, P1.f0, P1.f1⟩
  unfold F__law_draw sem__law_draw
  refine W_bind.mpr (W_seq (W_bind.mpr (W_bind.mpr (W_bind.mpr (W_ep2 rfl ?_)))))
  simp only [eC_r, M.pure_bind, le_i, M.lift_some', asB_r, W_pure]
  by_cases hr : ps.rest ≤ 1
  · rw [if_pos (by simpa using hr)]
    obtain ⟨v, e⟩ := rest_ok h (place := ps.place) (fills := ps.fills + 1) (c := c + 1) P.p0 (by have := P.p1; push_cast; omega) (by have := P.f0; omega) (by have := P.f1; push_cast; omega) (by omega)
    refine W_seq (W_sp3 rfl (W_bind.mpr (W_ep3 rfl ?_)))
    simp only [eC_r, M.pure_bind, add_i, M.lift_some', asB_r, W_pure]
    refine ⟨_, _, rfl, rfl, ?_⟩
    refine W_sp2 rfl (W_bind.mpr (W_bind.mpr (W_ep0 rfl (W_bind.mpr (W_bind.mpr (W_ep1 rfl (W_bind.mpr (W_bind.mpr (W_ep3 rfl ?_)))))))))
    simp only [aNil_r, M.pure_bind, W_pure]
    rw [e]
    refine W_pure.mpr ⟨_, _, rfl, rfl, ?_⟩
    exact fin _ ⟨P.p0, by have := P.p1; show ps.place ≤ _; push_cast; omega, by have := P.f0; show 0 ≤ ps.fills + 1; omega, by have := P.f1; show ps.fills + 1 ≤ _; push_cast; omega⟩
  · rw [if_neg (by simpa using hr)]
    exact W_pure.mpr (fin _ (P.mono (by omega)))
theorem pick_ok {ns : List Int} (h : Script ns) {c : Nat} {ps : Ps} (P : PoolOk c ps) (hc : c < 2 ^ 59) {ds : List D} (hd : ds ≠ []) (hl : ds.length < 2 ^ 60) {Q : D → Pl → Prop}
    (q : ∀ d ps, d ∈ ds → PoolOk (c + 1) ps → Q d (some ps)) : W (F__law_pick ns [.pool, .lst ds]) (some ps) Q := by
  unfold F__law_pick sem__law_pick
  have l0 : 0 < ds.length := List.length_pos_iff.mpr hd
  simp only [runFn_r, sRet_r, eOp_r, eVar_r, args0, args1, M.lift_some', M.pure_bind, eCall_r, aCons_r, eCallB_r, aNil_r, len_l, M.bind_assoc]
  refine W.to (Q := fun d p => ∃ v, d = D.int v ∧ 0 ≤ v ∧ v < ds.length ∧ ∃ ps, p = some ps ∧ PoolOk (c + 1) ps) (draw_ok h P hc (hb := bd_of (n := 60) (by omega) (by exact_mod_cast hl)) (by decide) (by omega) fun v ps1 h0 h1 P1 => ⟨v, rfl, h0, h1, ps1, rfl, P1⟩) ?_
  rintro d p ⟨v, rfl, h0, h1, ps1, rfl, P1⟩
  have hk : v.toNat < ds.length := by omega
  have e : L2.atI ds v = some ds[v.toNat] := by rw [at_nat h0 h1, List.getElem?_eq_getElem hk]
  simp only [ix_l, e, M.lift_some', M.pure_bind, endFn_rt, W_pure]
  exact q _ _ (List.getElem_mem hk) P1
end Pu

/-! Pure5: _law_same of equal data; equality of plain data -/
namespace Pu
open PySem PySem.Spec PyProof.Rows L2 Lf Pre

/-- what _law_same can compare within n steps -/
def sam : Nat → D → Bool
  | 0, _ => false
  | n + 1, .lst ds => decide (ds.length ≤ 16777216) && ds.all (sam n)
  | n + 1, .tup ds => decide (ds.length ≤ 16777216) && ds.all (sam n)
  | n + 1, .str x => shp (.str x)
  | n + 1, .non => true
  | n + 1, .bl _ => true
  | n + 1, .int _ => true
  | _, _ => false
theorem smallB_len {n : Nat} (h : n ≤ 16777216) : smallB (n : Int) = true := by
  unfold smallB
  simp; omega
theorem lc_range {n : Nat} {turn : D → M (Option D)} {f : Nat → D} (h : ∀ k, k < n → turn (.int k) = M.pure (some (f k))) : lcGo turn (rangeL 0 n) = M.pure ((List.range n).map f) := by
  rw [range_map]
  have : ∀ xs : List Nat, (∀ k ∈ xs, k < n) → lcGo turn (xs.map fun k : Nat => D.int (0 + (k : Int))) = M.pure (xs.map f) := by
    intro xs
    induction xs with
    | nil => intro _; rfl
    | cons x xs ih =>
      intro hx
      show (turn (.int (0 + x))).bind _ = _
      rw [Int.zero_add, h x (hx x (by simp)), M.pure_bind]
      rw [ih fun k hk => hx k (by simp [hk]), M.pure_bind]
      rfl
  exact this _ fun k hk => List.mem_range.mp hk
theorem same_ok : ∀ (n : Nat) (d : D), sam n d = true → F__law_same n [d, d] = M.pure (.bl true)
  | 0, d, h => by cases h
  | n + 1, d, h => by
    have go : ∀ (c : List D → D) (ds : List D), (∀ i : Int, dIxA (c ds) (.int i) = L2.atI ds i) → (decide (ds.length ≤ 16777216) && ds.all (sam n)) = true →
        lcGo (lcTurn (gN 3) tYesS (eCall (F__law_same n) (aCons (eOp dIxA (eVar 0) (eVar 3)) (aCons (eOp dIxA (eVar 1) (eVar 3)) aNil))) ((argsOf [c ds, c ds]).wipe [3])) (rangeL 0 ds.length) = M.pure ((List.range ds.length).map fun _ => .bl true) := fun c ds hc h => by
      refine lc_range fun k hk => ?_
      have e : L2.atI ds (k : Int) = some ds[k] := by rw [at_nat (by omega) (by omega)]; simp [hk]
      rw [Bool.and_eq_true] at h
      have := same_ok n ds[k] (List.all_eq_true.mp h.2 _ (List.getElem_mem hk))
      simp [hc, e, this]
    have al : ∀ m : Nat, dAll [.lst ((List.range m).map fun _ => D.bl true)] = some (.bl true) := fun m => by
      have : ((List.range m).map fun _ => D.bl true) = (((List.range m).map fun _ => true).map D.bl) := by simp
      rw [this, all_l]
      simp
    show runFn (sem__law_same (F__law_same n)) [d, d] = _
    unfold sem__law_same
    cases d with
    | non => simp [tyOf, isTy]
    | bl b => cases b <;> simp [tyOf, isTy]
    | int i => simp [tyOf, isTy]
    | str x =>
      have e : dEq (.str x) (.str x) = some (.bl true) := by
        have h : shp (.str x) = true := h
        unfold dEq; rw [if_pos (by rw [h]; rfl)]
        simp [toPy, PyData.eqv]
      simp [tyOf, isTy, e]
    | lst ds =>
      have h' : (decide (ds.length ≤ 16777216) && ds.all (sam n)) = true := h
      have hl : ds.length ≤ 16777216 := by
        rw [Bool.and_eq_true] at h'
        exact of_decide_eq_true h'.1
      have g := go .lst ds (fun _ => rfl) h'
      simp [-wipe_r, -lcTurn_r, smallB_len hl, hl, rangeL_length, g, al, tyOf, isTy]
    | tup ds =>
      have h' : (decide (ds.length ≤ 16777216) && ds.all (sam n)) = true := h
      have hl : ds.length ≤ 16777216 := by
        rw [Bool.and_eq_true] at h'
        exact of_decide_eq_true h'.1
      have g := go .tup ds (fun _ => rfl) h'
      simp [-wipe_r, -lcTurn_r, smallB_len hl, hl, rangeL_length, g, al, tyOf, isTy]
    | _ => cases h

theorem lc_mapped {α : Type} {hs : List α} {enc : α → D} {turn : D → M (Option D)} {f : α → Option D} (h : ∀ x ∈ hs, turn (enc x) = M.pure (f x)) : lcGo turn (hs.map enc) = M.pure (hs.filterMap f) := by
  induction hs with
  | nil => rfl
  | cons x hs ih =>
    show (turn (enc x)).bind _ = _
    rw [h x (by simp), M.pure_bind, ih fun y hy => h y (by simp [hy]), M.pure_bind, List.filterMap_cons]
    cases f x <;> rfl
theorem lc_mapped' {α : Type} {hs : List α} {enc : α → D} {turn : D → M (Option D)} {f : α → D} (h : ∀ x ∈ hs, turn (enc x) = M.pure (some (f x))) : lcGo turn (hs.map enc) = M.pure (hs.map f) := by
  rw [lc_mapped (f := fun x => some (f x)) h]
  congr 1
  exact congrFun List.filterMap_eq_map' hs
/-- goes on with R -/
def Nx (R : Rho → Pl → Prop) : Fl → Pl → Prop := fun r p => ∃ ρ', r = .nx ρ' ∧ R ρ' p
theorem W_seqN {f k : Rho → M Fl} {ρ : Rho} {p : Pl} {Q : Fl → Pl → Prop} (R : Rho → Pl → Prop) (h : W (f ρ) p (Nx R)) (q : ∀ ρ' p', R ρ' p' → W (k ρ') p' Q) : W (sSeq f k ρ) p Q := by
  refine W_seq (h.mono ?_)
  rintro r p' ⟨ρ', rfl, hR⟩
  exact q ρ' p' hR
instance Sz.lit {n : Nat} : Sz (n.log2 + 1) (OfNat.ofNat n : Rat) := ⟨by
  rw [Rat.num_ofNat]; exact Bd.lit, ⟨by
  rw [Rat.den_ofNat]
  show 1 < 2 ^ (n.log2 + 1)
  exact Nat.one_lt_two_pow (by omega)⟩⟩
theorem fr_of {p q : Int} {a : Rat} (h : 0 < q) (hg : Int.gcd p q = 1) (e : a * q = p) : D.tup [.int p, .int q] = fr a := by
  have hz : (q : Rat) ≠ 0 := by
    have : q ≠ 0 := by omega
    exact_mod_cast this
  have e2 : a = (p : Rat) / q := by grind
  unfold fr
  rw [e2, num_div h, den_div h, hg]
  simp
/-- for ..: if bad: return d -/
theorem for_check {t : TgS} {test : Rho → M Bool} {d : D} (I : Rho → Prop) : ∀ {xs : List D} {bad : Nat → Bool} {ρ : Rho}, (∀ k x ρ, xs[k]? = some x → I ρ → ∃ ρ1, t x ρ = some ρ1 ∧ I ρ1 ∧ test ρ1 = M.pure (bad k)) → I ρ →
    ((∃ k, k < xs.length ∧ bad k = true) ∧ forGo t (sIf test (sRet (eC d)) sNx) xs ρ = M.pure (.rt d)) ∨ ((∀ k, k < xs.length → bad k = false) ∧ ∃ ρ', I ρ' ∧ forGo t (sIf test (sRet (eC d)) sNx) xs ρ = M.pure (.nx ρ'))
  | [], bad, ρ, _, hI => .inr ⟨fun k hk => absurd hk (Nat.not_lt_zero _), ρ, hI, rfl⟩
  | x :: xs, bad, ρ, ht, hI => by
    obtain ⟨ρ1, e1, I1, e2⟩ := ht 0 x ρ rfl hI
    have u : forGo t (sIf test (sRet (eC d)) sNx) (x :: xs) ρ = (M.lift (t x ρ)).bind fun ρ1 => (sIf test (sRet (eC d)) sNx ρ1).bind (forNext (forGo t (sIf test (sRet (eC d)) sNx) xs)) := rfl
    rw [u, e1]
    simp only [M.lift_some', M.pure_bind, sIf_r, e2]
    cases hb : bad 0 with
    | true => exact .inl ⟨⟨0, by simp, hb⟩, by simp; rfl⟩
    | false =>
      simp only [Bool.false_eq_true, if_false, sNx_r, M.pure_bind]
      rcases for_check I (xs := xs) (bad := fun k => bad (k + 1)) (ρ := ρ1) (fun k y ρ h => ht (k + 1) y ρ (by simpa using h)) I1 with ⟨⟨k, hk, hb'⟩, e⟩ | ⟨h, ρ', I', e⟩
      · exact .inl ⟨⟨k + 1, by simpa using hk, hb'⟩, e⟩
      · refine .inr ⟨fun k hk => ?_, ρ', I', e⟩
        cases k with
        | zero => exact hb
        | succ k => exact h k (by simpa using hk)
/-- the first pair of two places at which P holds -/
def First (P : Nat → Nat → Bool) (n : Nat) : Option (Nat × Nat) → Prop
  | some (i, j) => i < j ∧ j < n ∧ P i j = true ∧ ∀ i' j', i' < j' → j' < n → P i' j' = true → i < i' ∨ i = i' ∧ j ≤ j'
  | none => ∀ i j, i < j → j < n → P i j = false
theorem First.uniq {P : Nat → Nat → Bool} {n : Nat} : ∀ {a b : Option (Nat × Nat)}, First P n a → First P n b → a = b
  | none, none, _, _ => rfl
  | none, some (i, j), h, k => by
    have := h i j k.1 k.2.1
    rw [k.2.2.1] at this; cases this
  | some (i, j), none, h, k => by
    have := k i j h.1 h.2.1
    rw [h.2.2.1] at this; cases this
  | some (i, j), some (i', j'), h, k => by
    have h1 := h.2.2.2 i' j' k.1 k.2.1 k.2.2.1
    have k1 := k.2.2.2 i j h.1 h.2.1 h.2.2.1
    have : i = i' ∧ j = j' := by omega
    rw [this.1, this.2]
def dPair : Option (Nat × Nat) → D
  | none => .non
  | some (i, j) => .tup [.int i, .int j]
theorem for2 {test : Rho → M Bool} {P : Nat → Nat → Bool} {n : Nat} {I : Rho → Prop} {u v : Nat} (huv : u ≠ v) (hI : ∀ ρ i d, I ρ → i = u ∨ i = v → I (ρ.upd i d)) (hn : n ≤ 16777216)
    {it1 it2 : Rho → M (List D)} (h1 : ∀ ρ, I ρ → it1 ρ = M.pure (rangeL 0 n)) (h2 : ∀ ρ (i : Nat), i < n → I ρ → ρ u = some (.int i) → it2 ρ = M.pure (rangeL (i + 1) ((n : Int) - (i + 1)).toNat))
    (ht : ∀ ρ (i j : Nat), I ρ → ρ u = some (.int i) → ρ v = some (.int j) → i < j → j < n → test ρ = M.pure (P i j)) {ρ : Rho} (h : I ρ) :
    ∃ r, First P n r ∧ ∀ p, W (sFor (gN u) it1 (sFor (gN v) it2 (sIf test (sRet (eTup (aCons (eVar u) (aCons (eVar v) aNil)))) sNx)) ρ) p fun x p' => p' = p ∧ match r with
      | none => ∃ ρ', x = .nx ρ' ∧ I ρ'
      | some _ => x = .rt (dPair r) := by
  have key : ∀ p, W (sFor (gN u) it1 (sFor (gN v) it2 (sIf test (sRet (eTup (aCons (eVar u) (aCons (eVar v) aNil)))) sNx)) ρ) p fun x p' => p' = p ∧ ∃ r, First P n r ∧ match r with
      | none => ∃ ρ', x = .nx ρ' ∧ I ρ'
      | some _ => x = .rt (dPair r) := fun p => by
    simp only [sFor_r, h1 ρ h, M.pure_bind]
    refine W_for (fun k ρ p' => p' = p ∧ I ρ ∧ ∀ i j, i < k → i < j → j < n → P i j = false) ?_ ?_ ?_
    · exact ⟨rfl, h, fun i j hi => absurd hi (Nat.not_lt_zero _)⟩
    · rintro i d ρ1 p' hd ⟨rfl, I1, c1⟩
      obtain ⟨hi, rfl⟩ := range_get hd
      rw [Int.zero_add]
      have I2 := hI ρ1 u (.int i) I1 (.inl rfl)
      simp only [gN_r, M.lift_some', M.pure_bind, sFor_r]
      rw [h2 _ i hi I2 (by simp)]
      simp only [M.pure_bind]
      refine W_for (fun k ρ p'' => p'' = p' ∧ I ρ ∧ ρ u = some (.int i) ∧ ∀ j, i < j → j < i + 1 + k → j < n → P i j = false) ?_ ?_ ?_
      · exact ⟨rfl, I2, by simp, fun j h h' => by omega⟩
      · rintro k d ρ2 p'' hd ⟨rfl, I3, e3, c3⟩
        obtain ⟨hk, rfl⟩ := range_get hd
        have hj : i + 1 + k < n := by omega
        have I4 := hI ρ2 v (.int (i + 1 + k)) I3 (.inr rfl)
        have e4 : ((i : Int) + 1 + (k : Int)) = ((i + 1 + k : Nat) : Int) := by push_cast; rfl
        simp only [gN_r, M.lift_some', M.pure_bind, sIf_r]
        rw [ht _ i (i + 1 + k) I4 (by simp [huv, e3]) (by rw [e4]; simp) (by omega) hj]
        cases hp : P i (i + 1 + k) with
        | false =>
          simp only [M.pure_bind, Bool.false_eq_true, if_false, sNx_r, W_pure]
          refine ⟨rfl, I4, by simp [huv, e3], fun j h h' hn => ?_⟩
          by_cases e : j = i + 1 + k
          · subst e; exact hp
          · exact c3 j h (by omega) hn
        | true =>
          simp [W_pure, EndFor, huv, e3]
          refine ⟨some (i, i + 1 + k), ⟨by omega, hj, hp, fun i' j' hij hj' hp' => ?_⟩, by simp [dPair]⟩
          by_cases hi' : i' < i
          · rw [c1 i' j' hi' hij hj'] at hp'; cases hp'
          · by_cases he : i' = i
            · subst he
              refine .inr ⟨rfl, ?_⟩
              rcases Nat.lt_or_ge j' (i' + 1 + k) with hl | hl
              · rw [c3 j' hij hl hj'] at hp'; cases hp'
              · exact hl
            · exact .inl (by omega)
      · rintro ρ2 p'' ⟨rfl, I3, e3, c3⟩
        refine ⟨rfl, I3, fun i' j hi' hij hj => ?_⟩
        by_cases e : i' = i
        · subst e
          exact c3 j hij (by rw [rangeL_length]; omega) hj
        · exact c1 i' j (by omega) hij hj
    · rintro ρ1 p' ⟨rfl, I1, c1⟩
      refine ⟨rfl, none, fun i j hij hj => c1 i j (by rw [rangeL_length]; omega) hij hj, ρ1, rfl, I1⟩
  obtain ⟨x0, p0, e0, _, r0, F0, _⟩ := key none
  refine ⟨r0, F0, fun p => (key p).mono ?_⟩
  rintro x p' ⟨rfl, r, F, m⟩
  rw [F0.uniq F]
  exact ⟨rfl, m⟩
end Pu

/-! printed by gen.py: the pure readings of the defs of one law -/
namespace G
open PySem PySem.Spec PyProof.Rows L2 Lf Pre

def sem_is_safe : Rho → M Fl :=
    (sRet (eNotS (eCall F_less (aCons (eCall F_times (aCons (eVar 2) (aCons (eVar 0) aNil))) (aCons (eCall F_times (aCons (eVar 3) (aCons (eVar 1) aNil))) aNil)))))
def F_is_safe : List D → M D := runFn (sem_is_safe)
def sem_greatest_limit : Rho → M Fl :=
    (sRet (eCall F_over (aCons (eCall F_times (aCons (eVar 2) (aCons (eVar 0) aNil))) (aCons (eVar 1) aNil))))
def F_greatest_limit : List D → M D := runFn (sem_greatest_limit)
def sem_is_within : Rho → M Fl :=
    (sRet (eAndS (eNotS (eCall F_less (aCons (eVar 2) (aCons (eVar 0) aNil)))) (eNotS (eCall F_less (aCons (eVar 1) (aCons (eVar 2) aNil))))))
def F_is_within : List D → M D := runFn (sem_is_within)
def sem_is_right : Rho → M Fl :=
    (sSeq (sIf (tNotS (tTru (eCall F_is_within (aCons (eVar 0) (aCons (eVar 1) (aCons (eVar 3) aNil))))))
      (sRet (eC (.bl false)))
      sNx)
    (sSeq (sSet 5 (eC .non))
    (sSeq (sFor (gT (gsCons (gN 6) (gsCons (gN 7) (gsCons (gN 8) gsNil)))) (itemsOf (eVar 4))
      (sSeq (sIf (tOrS (tNotS (tTru (eCall F_is_within (aCons (eVar 0) (aCons (eVar 1) (aCons (eVar 6) aNil)))))) (tTru (eCall F_less (aCons (eVar 8) (aCons (eVar 7) aNil)))))
      (sRet (eC (.bl false)))
      sNx)
    (sSeq (sIf (tAndS (tOf (eOp dNotN (eVar 5) (eC .non))) (tTru (eCall F_less (aCons (eVar 8) (aCons (eVar 5) aNil)))))
      (sRet (eC (.bl false)))
      sNx)
    (sSet 5 (eCall F_plus (aCons (eVar 8) (aCons (eCall F_over (aCons (eVar 2) (aCons (eVar 3) aNil))) aNil)))))))
    (sRet (eC (.bl true))))))
def F_is_right : List D → M D := runFn (sem_is_right)
def sem_belief : Rho → M Fl :=
    (sSeq (sAsg (gT (gsCons (gN 3) (gsCons (gN 4) (gsCons (gN 5) gsNil)))) (eVar 1))
    (sSeq (sSet 2 (eCall F_plus (aCons (eVar 4) (aCons (eCall F_over (aCons (eVar 0) (aCons (eVar 3) aNil))) aNil))))
    (sRet (eIf (tTru (eCall F_less (aCons (eVar 5) (aCons (eVar 2) aNil)))) (eTup (aCons (eVar 5) (aCons (eVar 2) aNil))) (eC .non)))))
def F_belief : List D → M D := runFn (sem_belief)
def sem_meet : Rho → M Fl :=
    (sRet (eAndS (eCall F_less (aCons (eOp dIxA (eVar 0) (eC (.int 0))) (aCons (eOp dIxA (eVar 1) (eC (.int 1))) aNil))) (eCall F_less (aCons (eOp dIxA (eVar 1) (eC (.int 0))) (aCons (eOp dIxA (eVar 0) (eC (.int 1))) aNil)))))
def F_meet : List D → M D := runFn (sem_meet)
def sem_two_believe : Rho → M Fl :=
    (sSeq (sSetO 2 (eLc [5] (gN 5) (itemsOf (eVar 1)) tYesS (eCall F_belief (aCons (eVar 0) (aCons (eVar 5) aNil)))))
    (sSeq (sFor (gN 3) (rng1 (aCons (eCallB dLen (aCons (eVar 2) aNil)) aNil))
      (sFor (gN 4) (rng2 (aCons (eOp dAdd (eVar 3) (eC (.int 1))) (aCons (eCallB dLen (aCons (eVar 2) aNil)) aNil)))
      (sIf (tAndS (tOf (eOp dNotN (eOp dIxA (eVar 2) (eVar 3)) (eC .non))) (tAndS (tOf (eOp dNotN (eOp dIxA (eVar 2) (eVar 4)) (eC .non))) (tTru (eCall F_meet (aCons (eOp dIxA (eVar 2) (eVar 3)) (aCons (eOp dIxA (eVar 2) (eVar 4)) aNil))))))
      (sRet (eTup (aCons (eVar 3) (aCons (eVar 4) aNil))))
      sNx)))
    (sRet (eC .non))))
def F_two_believe : List D → M D := runFn (sem_two_believe)
def sem_bad_story : Rho → M Fl :=
    (sSeq (sIf (tTru (eCall F_is_safe (aCons (eVar 0) (aCons (eVar 1) (aCons (eVar 2) (aCons (eVar 3) aNil))))))
      (sRet (eC .non))
      sNx)
    (sSeq (sSet 4 (eCall F_over (aCons (eVar 2) (aCons (eVar 1) aNil))))
    (sRet (eTup (aCons (eVar 1) (aCons (eLst (aCons (eTup (aCons (eVar 0) (aCons (eC (.tup [(.int 0), (.int 1)])) (aCons (eC (.tup [(.int 0), (.int 1)])) aNil)))) (aCons (eTup (aCons (eVar 0) (aCons (eVar 4) (aCons (eVar 4) aNil)))) aNil))) aNil))))))
def F_bad_story : List D → M D := runFn (sem_bad_story)
def sem_judge_story : Rho → M Fl :=
    (sRet (eAndS (eCall F_is_right (aCons (eVar 0) (aCons (eVar 1) (aCons (eVar 2) (aCons (eVar 4) (aCons (eVar 5) aNil)))))) (eOp dNotN (eCall F_two_believe (aCons (eVar 3) (aCons (eVar 5) aNil))) (eC .non))))
def F_judge_story : List D → M D := runFn (sem_judge_story)
def sem__law_above_none (ns : List Int) : Rho → M Fl :=
    (sRet (eCall F__law_ratio (aCons (eOp dAdd (eC (.int 1)) (eCall (F__law_draw ns) (aCons (eVar 0) (aCons (eVar 1) aNil)))) (aCons (eOp dAdd (eC (.int 1)) (eCall (F__law_draw ns) (aCons (eVar 0) (aCons (eVar 1) aNil)))) aNil))))
def F__law_above_none (ns : List Int) : List D → M D := runFn (sem__law_above_none ns)
def sem__law_within_bounds : Rho → M Fl :=
    (sRet (eAndS (eNotS (eCall F__law_less (aCons (eVar 2) (aCons (eVar 0) aNil)))) (eNotS (eCall F__law_less (aCons (eVar 1) (aCons (eVar 2) aNil))))))
def F__law_within_bounds : List D → M D := runFn (sem__law_within_bounds)
def sem__law_story_right : Rho → M Fl :=
    (sSeq (sIf (tOrS (tNotS (tTru (eCall F__law_within_bounds (aCons (eVar 0) (aCons (eVar 1) (aCons (eVar 3) aNil)))))) (tOf (eOp dGt (eCallB dLen (aCons (eLc [6] (gN 6) (itemsOf (eVar 4)) (tOrS (tNotS (tTru (eCall F__law_within_bounds (aCons (eVar 0) (aCons (eVar 1) (aCons (eOp dIxA (eVar 6) (eC (.int 0))) aNil)))))) (tTru (eCall F__law_less (aCons (eOp dIxA (eVar 6) (eC (.int 2))) (aCons (eOp dIxA (eVar 6) (eC (.int 1))) aNil))))) (eVar 6)) aNil)) (eC (.int 0)))))
      (sRet (eC (.bl false)))
      sNx)
    (sSeq (sFor (gN 5) (rng2 (aCons (eC (.int 1)) (aCons (eCallB dLen (aCons (eVar 4) aNil)) aNil)))
      (sIf (tTru (eCall F__law_less (aCons (eOp dIxA (eOp dIxA (eVar 4) (eVar 5)) (eC (.int 2))) (aCons (eCall F__law_add (aCons (eOp dIxA (eOp dIxA (eVar 4) (eOp dSub (eVar 5) (eC (.int 1)))) (eC (.int 2))) (aCons (eCall F__law_div (aCons (eVar 2) (aCons (eVar 3) aNil))) aNil))) aNil))))
      (sRet (eC (.bl false)))
      sNx))
    (sRet (eC (.bl true)))))
def F__law_story_right : List D → M D := runFn (sem__law_story_right)
def sem__law_belief_of : Rho → M Fl :=
    (sSeq (sSet 2 (eCall F__law_add (aCons (eOp dIxA (eVar 1) (eC (.int 1))) (aCons (eCall F__law_div (aCons (eVar 0) (aCons (eOp dIxA (eVar 1) (eC (.int 0))) aNil))) aNil))))
    (sRet (eIf (tTru (eCall F__law_less (aCons (eOp dIxA (eVar 1) (eC (.int 2))) (aCons (eVar 2) aNil)))) (eTup (aCons (eOp dIxA (eVar 1) (eC (.int 2))) (aCons (eVar 2) aNil))) (eC .non))))
def F__law_belief_of : List D → M D := runFn (sem__law_belief_of)
def sem__law_two_of : Rho → M Fl :=
    (sSeq (sSetO 2 (eLc [5] (gN 5) (itemsOf (eVar 1)) tYesS (eCall F__law_belief_of (aCons (eVar 0) (aCons (eVar 5) aNil)))))
    (sSeq (sFor (gN 3) (rng1 (aCons (eCallB dLen (aCons (eVar 2) aNil)) aNil))
      (sFor (gN 4) (rng2 (aCons (eOp dAdd (eVar 3) (eC (.int 1))) (aCons (eCallB dLen (aCons (eVar 2) aNil)) aNil)))
      (sIf (tAndS (tOf (eOp dNotN (eOp dIxA (eVar 2) (eVar 3)) (eC .non))) (tAndS (tOf (eOp dNotN (eOp dIxA (eVar 2) (eVar 4)) (eC .non))) (tAndS (tTru (eCall F__law_less (aCons (eOp dIxA (eOp dIxA (eVar 2) (eVar 3)) (eC (.int 0))) (aCons (eOp dIxA (eOp dIxA (eVar 2) (eVar 4)) (eC (.int 1))) aNil)))) (tTru (eCall F__law_less (aCons (eOp dIxA (eOp dIxA (eVar 2) (eVar 4)) (eC (.int 0))) (aCons (eOp dIxA (eOp dIxA (eVar 2) (eVar 3)) (eC (.int 1))) aNil)))))))
      (sRet (eTup (aCons (eVar 3) (aCons (eVar 4) aNil))))
      sNx)))
    (sRet (eC .non))))
def F__law_two_of : List D → M D := runFn (sem__law_two_of)
def st_law_0 (ns : List Int) : Rho → M Fl :=
    (sSet 1 (eCall (F__law_pool ns) (aCons (eVar 0) aNil)))
def st_law_2 (ns : List Int) : Rho → M Fl :=
    (sExpr (eCall (F__law_next ns) (aCons (eVar 1) aNil)))
def st_law_3 (ns : List Int) : Rho → M Fl :=
    (sPar 10 11 (eCall (F__law_above_none ns) (aCons (eVar 1) (aCons (eC (.int 9)) aNil))) (eCall (F__law_above_none ns) (aCons (eVar 1) (aCons (eC (.int 9)) aNil))))
def st_law_4 (ns : List Int) : Rho → M Fl :=
    (sAsg (gT (gsCons (gN 12) (gsCons (gN 13) gsNil))) (eIf (tTru (eCall F__law_less (aCons (eVar 10) (aCons (eVar 11) aNil)))) (eTup (aCons (eVar 10) (aCons (eVar 11) aNil))) (eTup (aCons (eVar 11) (aCons (eVar 10) aNil)))))
def st_law_5 (ns : List Int) : Rho → M Fl :=
    (sPar 14 15 (eCall (F__law_above_none ns) (aCons (eVar 1) (aCons (eC (.int 12)) aNil))) (eCall (F__law_above_none ns) (aCons (eVar 1) (aCons (eC (.int 12)) aNil))))
def st_law_6 (ns : List Int) : Rho → M Fl :=
    (sSet 3 (eNotS (eCall F__law_less (aCons (eCall F__law_mul (aCons (eVar 14) (aCons (eVar 12) aNil))) (aCons (eCall F__law_mul (aCons (eVar 15) (aCons (eVar 13) aNil))) aNil)))))
def st_law_7 (ns : List Int) : Rho → M Fl :=
    (sSet 4 (eCall F__law_div (aCons (eCall F__law_mul (aCons (eVar 14) (aCons (eVar 12) aNil))) (aCons (eVar 13) aNil))))
def st_law_8 (ns : List Int) : Rho → M Fl :=
    (sIf (tOrS (tNotS (tTru (eCall (F__law_same 16) (aCons (eCall F_is_safe (aCons (eVar 12) (aCons (eVar 13) (aCons (eVar 14) (aCons (eVar 15) aNil))))) (aCons (eVar 3) aNil))))) (tOrS (tNotS (tTru (eCall (F__law_same 16) (aCons (eCall F_greatest_limit (aCons (eVar 12) (aCons (eVar 13) (aCons (eVar 14) aNil)))) (aCons (eVar 4) aNil))))) (tOrS (tOf (eOp dNotBA (eCall F_is_safe (aCons (eVar 12) (aCons (eVar 13) (aCons (eVar 14) (aCons (eVar 4) aNil))))) (eC (.bl true)))) (tOf (eOp dNotBA (eCall F_is_safe (aCons (eVar 12) (aCons (eVar 13) (aCons (eVar 14) (aCons (eCall F__law_add (aCons (eVar 4) (aCons (eTup (aCons (eC (.int 1)) (aCons (eC (.int 7)) aNil))) aNil))) aNil))))) (eC (.bl false)))))))
      (sRet (eC (.bl false)))
      sNx)
def st_law_10 (ns : List Int) : Rho → M Fl :=
    (sSet 5 (eCall (F__law_above_none ns) (aCons (eVar 1) (aCons (eC (.int 5)) aNil))))
def st_law_11 (ns : List Int) : Rho → M Fl :=
    (sIf (tOrS (tOf (eOp dNe (eCall F_is_safe (aCons (eVar 12) (aCons (eVar 13) (aCons (eCall F__law_mul (aCons (eVar 5) (aCons (eVar 14) aNil))) (aCons (eCall F__law_mul (aCons (eVar 5) (aCons (eVar 15) aNil))) aNil))))) (eVar 3))) (tOf (eOp dNe (eCall F_is_safe (aCons (eCall F__law_mul (aCons (eVar 5) (aCons (eVar 12) aNil))) (aCons (eCall F__law_mul (aCons (eVar 5) (aCons (eVar 13) aNil))) (aCons (eVar 14) (aCons (eVar 15) aNil))))) (eVar 3))))
      (sRet (eC (.bl false)))
      sNx)
def st_law_13 (ns : List Int) : Rho → M Fl :=
    (sSet 6 (eCall F_bad_story (aCons (eVar 12) (aCons (eVar 13) (aCons (eVar 14) (aCons (eVar 15) aNil))))))
def st_law_14 (ns : List Int) : Rho → M Fl :=
    (sIf (tOf (eOp dNe (eOp dIsN (eVar 6) (eC .non)) (eVar 3)))
      (sRet (eC (.bl false)))
      sNx)
def st_law_16 (ns : List Int) : Rho → M Fl :=
    (sSetO 7 (eLst aNil))
def st_law_18 (ns : List Int) : Rho → M Fl :=
    (sAsg (gT (gsCons (gN 8) (gsCons (gN 18) gsNil))) (eVar 6))
def st_law_19 (ns : List Int) : Rho → M Fl :=
    (sIf (tOrS (tOf (eOp dNe (eCallB dLen (aCons (eVar 18) aNil)) (eC (.int 2)))) (tOrS (tNotS (tTru (eCall F__law_story_right (aCons (eVar 12) (aCons (eVar 13) (aCons (eVar 14) (aCons (eVar 8) (aCons (eVar 18) aNil)))))))) (tOrS (tOf (eOp dNe (eCall F__law_two_of (aCons (eVar 15) (aCons (eVar 18) aNil))) (eTup (aCons (eC (.int 0)) (aCons (eC (.int 1)) aNil))))) (tOf (eOp dNotBA (eCall F_judge_story (aCons (eVar 12) (aCons (eVar 13) (aCons (eVar 14) (aCons (eVar 15) (aCons (eVar 8) (aCons (eVar 18) aNil))))))) (eC (.bl true)))))))
      (sRet (eC (.bl false)))
      sNx)
def st_law_21 (ns : List Int) : Rho → M Fl :=
    (sMeth 7 (aCons (eTup (aCons (eVar 8) (aCons (eCallB dList (aCons (eVar 18) aNil)) aNil))) aNil) dAppend)
def st_law_22 (ns : List Int) : Rho → M Fl :=
    (sSetO 16 (eLc [23, 19, 20] (gT (gsCons (gN 23) (gsCons (gN 19) (gsCons (gN 20) gsNil)))) (itemsOf (eVar 18)) tYesS (eTup (aCons (eVar 23) (aCons (eCall F__law_mul (aCons (eVar 5) (aCons (eVar 19) aNil))) (aCons (eCall F__law_mul (aCons (eVar 5) (aCons (eVar 20) aNil))) aNil))))))
def st_law_23 (ns : List Int) : Rho → M Fl :=
    (sIf (tOf (eOp dNotBA (eCall F_judge_story (aCons (eVar 12) (aCons (eVar 13) (aCons (eCall F__law_mul (aCons (eVar 5) (aCons (eVar 14) aNil))) (aCons (eCall F__law_mul (aCons (eVar 5) (aCons (eVar 15) aNil))) (aCons (eVar 8) (aCons (eVar 16) aNil))))))) (eC (.bl true))))
      (sRet (eC (.bl false)))
      sNx)
def st_law_17 (ns : List Int) : Rho → M Fl :=
    (sIf (tOf (eOp dNotN (eVar 6) (eC .non)))
      (sSeq (st_law_18 ns)
    (sSeq (st_law_19 ns)
    (sSeq (st_law_21 ns)
    (sSeq (st_law_22 ns)
    (st_law_23 ns)))))
      sNx)
def st_law_25 (ns : List Int) : Rho → M Fl :=
    (sExpr (eCall (F__law_next ns) (aCons (eVar 1) aNil)))
def st_law_26 (ns : List Int) : Rho → M Fl :=
    (sParEN 17 18 (eTup (aCons (eC (.int 0)) (aCons (eC (.int 1)) aNil))) (eLst aNil))
def st_law_27 (ns : List Int) : Rho → M Fl :=
    (sSet 8 (eCall (F__law_pick ns) (aCons (eVar 1) (aCons (eLst (aCons (eVar 12) (aCons (eVar 13) aNil))) aNil))))
def st_law_29 (ns : List Int) : Rho → M Fl :=
    (sSet 19 (eCall F__law_add (aCons (eVar 17) (aCons (eCall (F__law_pick ns) (aCons (eVar 1) (aCons (eLst (aCons (eTup (aCons (eC (.int 0)) (aCons (eC (.int 1)) aNil))) (aCons (eTup (aCons (eC (.int 1)) (aCons (eC (.int 2)) aNil))) (aCons (eTup (aCons (eC (.int 2)) (aCons (eC (.int 1)) aNil))) aNil)))) aNil))) aNil))))
def st_law_30 (ns : List Int) : Rho → M Fl :=
    (sSet 20 (eCall F__law_add (aCons (eVar 19) (aCons (eCall (F__law_pick ns) (aCons (eVar 1) (aCons (eLst (aCons (eTup (aCons (eC (.int 0)) (aCons (eC (.int 1)) aNil))) (aCons (eTup (aCons (eC (.int 1)) (aCons (eC (.int 3)) aNil))) (aCons (eTup (aCons (eC (.int 1)) (aCons (eC (.int 1)) aNil))) aNil)))) aNil))) aNil))))
def st_law_31 (ns : List Int) : Rho → M Fl :=
    (sMeth 18 (aCons (eTup (aCons (eCall (F__law_pick ns) (aCons (eVar 1) (aCons (eLst (aCons (eVar 12) (aCons (eVar 13) aNil))) aNil))) (aCons (eVar 19) (aCons (eVar 20) aNil)))) aNil) dAppend)
def st_law_32 (ns : List Int) : Rho → M Fl :=
    (sSet 17 (eCall F__law_add (aCons (eVar 20) (aCons (eCall F__law_mul (aCons (eCall (F__law_pick ns) (aCons (eVar 1) (aCons (eLst (aCons (eTup (aCons (eC (.int 1)) (aCons (eC (.int 1)) aNil))) (aCons (eTup (aCons (eC (.int 1)) (aCons (eC (.int 1)) aNil))) (aCons (eTup (aCons (eC (.int 1)) (aCons (eC (.int 2)) aNil))) aNil)))) aNil))) (aCons (eCall F__law_div (aCons (eVar 14) (aCons (eVar 8) aNil))) aNil))) aNil))))
def st_law_28 (ns : List Int) : Rho → M Fl :=
    (sFor (gN 9) (rng1 (aCons (eOp dAdd (eC (.int 1)) (eCall (F__law_draw ns) (aCons (eVar 1) (aCons (eC (.int 3)) aNil)))) aNil))
      (sSeq (st_law_29 ns)
    (sSeq (st_law_30 ns)
    (sSeq (st_law_31 ns)
    (st_law_32 ns)))))
def st_law_33 (ns : List Int) : Rho → M Fl :=
    (sMeth 7 (aCons (eTup (aCons (eVar 8) (aCons (eVar 18) aNil))) aNil) dAppend)
def st_law_36 (ns : List Int) : Rho → M Fl :=
    (sIf (tNotS (tTru (eCall (F__law_same 16) (aCons (eCall F_is_right (aCons (eVar 12) (aCons (eVar 13) (aCons (eVar 14) (aCons (eVar 8) (aCons (eVar 21) aNil)))))) (aCons (eCall F__law_story_right (aCons (eVar 12) (aCons (eVar 13) (aCons (eVar 14) (aCons (eVar 8) (aCons (eVar 21) aNil)))))) aNil)))))
      (sRet (eC (.bl false)))
      sNx)
def st_law_40 (ns : List Int) : Rho → M Fl :=
    (sIf (tNotS (tTru (eCall (F__law_same 16) (aCons (eCall F_belief (aCons (eVar 15) (aCons (eVar 22) aNil))) (aCons (eCall F__law_belief_of (aCons (eVar 15) (aCons (eVar 22) aNil))) aNil)))))
      (sRet (eC (.bl false)))
      sNx)
def st_law_39 (ns : List Int) : Rho → M Fl :=
    (sFor (gN 22) (itemsOf (eVar 21))
      (st_law_40 ns))
def st_law_42 (ns : List Int) : Rho → M Fl :=
    (sIf (tNotS (tTru (eCall (F__law_same 16) (aCons (eCall F_two_believe (aCons (eVar 15) (aCons (eVar 21) aNil))) (aCons (eCall F__law_two_of (aCons (eVar 15) (aCons (eVar 21) aNil))) aNil)))))
      (sRet (eC (.bl false)))
      sNx)
def st_law_44 (ns : List Int) : Rho → M Fl :=
    (sIf (tNotS (tTru (eCall (F__law_same 16) (aCons (eCall F_judge_story (aCons (eVar 12) (aCons (eVar 13) (aCons (eVar 14) (aCons (eVar 15) (aCons (eVar 8) (aCons (eVar 21) aNil))))))) (aCons (eAndS (eCall F__law_story_right (aCons (eVar 12) (aCons (eVar 13) (aCons (eVar 14) (aCons (eVar 8) (aCons (eVar 21) aNil)))))) (eOp dNotN (eCall F__law_two_of (aCons (eVar 15) (aCons (eVar 21) aNil))) (eC .non))) aNil)))))
      (sRet (eC (.bl false)))
      sNx)
def st_law_46 (ns : List Int) : Rho → M Fl :=
    (sIf (tAndS (tTru (eVar 3)) (tOf (eOp dNotBA (eCall F_judge_story (aCons (eVar 12) (aCons (eVar 13) (aCons (eVar 14) (aCons (eVar 15) (aCons (eVar 8) (aCons (eVar 21) aNil))))))) (eC (.bl false)))))
      (sRet (eC (.bl false)))
      sNx)
def st_law_38 (ns : List Int) : Rho → M Fl :=
    (sIf (tOf (eOp dEq (eCallB dLen (aCons (eLc [10] (gN 10) (itemsOf (eVar 21)) (tTru (eCall F__law_less (aCons (eOp dIxA (eVar 10) (eC (.int 2))) (aCons (eOp dIxA (eVar 10) (eC (.int 1))) aNil)))) (eVar 10)) aNil)) (eC (.int 0))))
      (sSeq (st_law_39 ns)
    (sSeq (st_law_42 ns)
    (sSeq (st_law_44 ns)
    (st_law_46 ns))))
      sNx)
def st_law_35 (ns : List Int) : Rho → M Fl :=
    (sFor (gN 21) (itemsOf (eLst (aCons (eVar 18) (aCons (eRev (eVar 18)) (aCons (eOp dAdd (eSl (eVar 18) oNone (oSome (eC (.int 1)))) (eVar 18)) (aCons (eLc [23, 19, 20] (gT (gsCons (gN 23) (gsCons (gN 19) (gsCons (gN 20) gsNil)))) (itemsOf (eVar 18)) tYesS (eTup (aCons (eVar 23) (aCons (eVar 20) (aCons (eVar 19) aNil))))) (aCons (eLc [23, 19, 20] (gT (gsCons (gN 23) (gsCons (gN 19) (gsCons (gN 20) gsNil)))) (itemsOf (eVar 18)) tYesS (eTup (aCons (eCall F__law_mul (aCons (eTup (aCons (eC (.int 2)) (aCons (eC (.int 1)) aNil))) (aCons (eVar 23) aNil))) (aCons (eVar 19) (aCons (eVar 20) aNil))))) aNil)))))))
      (sSeq (st_law_36 ns)
    (st_law_38 ns)))
def st_law_34 (ns : List Int) : Rho → M Fl :=
    (sFor (gT (gsCons (gN 8) (gsCons (gN 18) gsNil))) (itemsOf (eVar 7))
      (st_law_35 ns))
def st_law_1 (ns : List Int) : Rho → M Fl :=
    (sFor (gN 2) (rng1 (aCons (eC (.int 4)) aNil))
      (sSeq (st_law_2 ns)
    (sSeq (st_law_3 ns)
    (sSeq (st_law_4 ns)
    (sSeq (st_law_5 ns)
    (sSeq (st_law_6 ns)
    (sSeq (st_law_7 ns)
    (sSeq (st_law_8 ns)
    (sSeq (st_law_10 ns)
    (sSeq (st_law_11 ns)
    (sSeq (st_law_13 ns)
    (sSeq (st_law_14 ns)
    (sSeq (st_law_16 ns)
    (sSeq (st_law_17 ns)
    (sSeq (st_law_25 ns)
    (sSeq (st_law_26 ns)
    (sSeq (st_law_27 ns)
    (sSeq (st_law_28 ns)
    (sSeq (st_law_33 ns)
    (st_law_34 ns))))))))))))))))))))
def sem_law (ns : List Int) : Rho → M Fl :=
    (sSeq (st_law_0 ns)
    (sSeq (st_law_1 ns)
    (sRet (eC (.bl true)))))
def F_law (ns : List Int) : List D → M D := runFn (sem_law ns)
end G

/-! what the defs of law k20 compute -/
namespace G
open PySem PySem.Spec PyProof.Rows L2 Lf Pre Pu

structure Ho where
  r : Rat
  a : Rat
  g : Rat
def hol (h : Ho) : D := .tup [fr h.r, fr h.a, fr h.g]
structure OkH (h : Ho) : Prop where
  r : Sz 1000 h.r
  a : Sz 1000 h.a
  g : Sz 1000 h.g
  pos : 0 < h.r
@[simp] theorem hol0 {h : Ho} : dIxA (hol h) (.int 0) = some (fr h.r) := id rfl
@[simp] theorem hol1 {h : Ho} : dIxA (hol h) (.int 1) = some (fr h.a) := id rfl
@[simp] theorem hol2 {h : Ho} : dIxA (hol h) (.int 2) = some (fr h.g) := id rfl

section
variable {s f L lim g x : Rat} [Sz 1000 s] [Sz 1000 f] [Sz 1000 L] [Sz 1000 lim] [Sz 1000 g] [Sz 1000 x]
theorem safe_ok : F_is_safe [fr s, fr f, fr L, fr lim] = M.pure (.bl (!decide (L * s < lim * f))) := by
  unfold F_is_safe sem_is_safe
  simp [times_ok, less_ok]
theorem greatest_ok (hf : f ≠ 0) : F_greatest_limit [fr s, fr f, fr L] = M.pure (fr (L * s / f)) := by
  unfold F_greatest_limit sem_greatest_limit
  simp [times_ok, over_ok, hf]
def within (s f r : Rat) : Bool := !decide (r < s) && !decide (f < r)
theorem within_ok : F_is_within [fr s, fr f, fr x] = M.pure (.bl (within s f x)) := by
  unfold F_is_within sem_is_within
  simp [less_ok, within]
  by_cases h : x < s <;> simp [h]
theorem lwithin_ok : F__law_within_bounds [fr s, fr f, fr x] = M.pure (.bl (within s f x)) := by
  unfold F__law_within_bounds sem__law_within_bounds
  simp [lless_ok, within]
  by_cases h : x < s <;> simp [h]
end
/-- what one believes -/
def bel (lim : Rat) (h : Ho) : Option (Rat × Rat) := if h.g < h.a + lim / h.r then some (h.g, h.a + lim / h.r) else none
def dBel : Option (Rat × Rat) → D
  | none => .non
  | some (a, b) => .tup [fr a, fr b]
theorem bel_ok {lim : Rat} [Sz 1000 lim] {h : Ho} (k : OkH h) : F_belief [fr lim, hol h] = M.pure (dBel (bel lim h)) := by
  have := k.r; have := k.a; have := k.g
  have hz : h.r ≠ 0 := by have := k.pos; grind
  unfold F_belief sem_belief
  have e : hol h = .tup [fr h.r, fr h.a, fr h.g] := rfl
  simp [e, over_ok, plus_ok, less_ok, hz, bel]
  split <;> rfl
theorem lbel_ok {lim : Rat} [Sz 1000 lim] {h : Ho} (k : OkH h) : F__law_belief_of [fr lim, hol h] = M.pure (dBel (bel lim h)) := by
  have := k.r; have := k.a; have := k.g
  have hz : h.r ≠ 0 := by have := k.pos; grind
  unfold F__law_belief_of sem__law_belief_of
  simp [ldiv_ok, ladd_ok, lless_ok, hz, bel]
  split <;> rfl

/-! ### right stories -/
def rightGo (s f d : Rat) : Option Rat → List Ho → Bool
  | _, [] => true
  | free, h :: hs => within s f h.r && !decide (h.g < h.a) && (free.all fun x => !decide (h.g < x)) && rightGo s f d (some (h.g + d)) hs
def right (s f L g : Rat) (hs : List Ho) : Bool := within s f g && rightGo s f (L / g) none hs
def dFree : Option Rat → D
  | none => .non
  | some x => fr x
section
variable {s f L g : Rat} [Sz 1000 s] [Sz 1000 f] [Sz 1000 L] [Sz 1000 g]
theorem right_go (hg : g ≠ 0) {t : TgS} {body : Rho → M Fl}
    (hb : ∀ h free ρ, OkH h → (∀ x, free = some x → Sz 3001 x) → ρ 0 = some (fr s) → ρ 1 = some (fr f) → ρ 2 = some (fr L) → ρ 3 = some (fr g) → ρ 5 = some (dFree free) →
      ∃ r, (M.lift (t (hol h) ρ)).bind body = M.pure r ∧ (if (within s f h.r && !decide (h.g < h.a) && (free.all fun x => !decide (h.g < x))) = true then ∃ ρ', r = .nx ρ' ∧ ρ' 0 = some (fr s) ∧ ρ' 1 = some (fr f) ∧ ρ' 2 = some (fr L) ∧ ρ' 3 = some (fr g) ∧ ρ' 5 = some (dFree (some (h.g + L / g))) else r = .rt (.bl false))) :
    ∀ (hs : List Ho) (free : Option Rat) (ρ : Rho), (∀ h ∈ hs, OkH h) → (∀ x, free = some x → Sz 3001 x) → ρ 0 = some (fr s) → ρ 1 = some (fr f) → ρ 2 = some (fr L) → ρ 3 = some (fr g) → ρ 5 = some (dFree free) →
      ∃ r, forGo t body (hs.map hol) ρ = M.pure r ∧ (if rightGo s f (L / g) free hs = true then ∃ ρ', r = .nx ρ' else r = .rt (.bl false))
  | [], free, ρ, _, _, _, _, _, _, _ => ⟨.nx ρ, rfl, by simp [rightGo]⟩
  | h :: hs, free, ρ, ok, fz, h0, h1, h2, h3, h5 => by
    have okh := ok h (by simp)
    obtain ⟨r, e, c⟩ := hb h free ρ okh fz h0 h1 h2 h3 h5
    show ∃ r, ((M.lift (t (hol h) ρ)).bind fun ρ1 => (body ρ1).bind (forNext (forGo t body (hs.map hol)))) = M.pure r ∧ _
    rw [← M.bind_assoc, e, M.pure_bind, show rightGo s f (L / g) free (h :: hs) = (within s f h.r && !decide (h.g < h.a) && (free.all fun x => !decide (h.g < x)) && rightGo s f (L / g) (some (h.g + L / g)) hs) from by cases free <;> rfl]
    split at c
    · rename_i hc
      obtain ⟨ρ', rfl, k0, k1, k2, k3, k5⟩ := c
      rw [hc]
      have := okh.g
      exact right_go hg hb hs _ ρ' (fun h hh => ok h (by simp [hh])) (fun x e => by cases e; infer_instance) k0 k1 k2 k3 k5
    · rename_i hc
      subst c
      refine ⟨_, rfl, ?_⟩
      rw [Bool.not_eq_true] at hc
      rw [hc]; rfl
abbrev rbody : Rho → M Fl :=
      (sSeq (sIf (tOrS (tNotS (tTru (eCall F_is_within (aCons (eVar 0) (aCons (eVar 1) (aCons (eVar 6) aNil)))))) (tTru (eCall F_less (aCons (eVar 8) (aCons (eVar 7) aNil)))))
      (sRet (eC (.bl false)))
      sNx)
    (sSeq (sIf (tAndS (tOf (eOp dNotN (eVar 5) (eC .non))) (tTru (eCall F_less (aCons (eVar 8) (aCons (eVar 5) aNil)))))
      (sRet (eC (.bl false)))
      sNx)
    (sSet 5 (eCall F_plus (aCons (eVar 8) (aCons (eCall F_over (aCons (eVar 2) (aCons (eVar 3) aNil))) aNil))))))
theorem right_ok (hg : g ≠ 0) {hs : List Ho} (ok : ∀ h ∈ hs, OkH h) : F_is_right [fr s, fr f, fr L, fr g, .lst (hs.map hol)] = M.pure (.bl (right s f L g hs)) := by
  unfold F_is_right sem_is_right
  cases hw : within s f g with
  | false => simp [within_ok, hw, right]
  | true =>
    simp only [runFn_r, sSeq_r, sIf_r, tNotS_r, tTru_r, eCall_r, aCons_r, eVar_r, args0, args1, args2, args3, args4, M.lift_some', M.pure_bind, aNil_r, within_ok, hw, tru_b, Bool.not_true, sNx_r, sThen_nx, sSet_r, eC_r, sFor_r, itemsOf_r, upd_r, M.bind_assoc, Bool.false_eq_true, if_false, Nat.reduceEqDiff]
    have hb : ∀ h free ρ, OkH h → (∀ x, free = some x → Sz 3001 x) → ρ 0 = some (fr s) → ρ 1 = some (fr f) → ρ 2 = some (fr L) → ρ 3 = some (fr g) → ρ 5 = some (dFree free) →
        ∃ r, (M.lift (gT (gsCons (gN 6) (gsCons (gN 7) (gsCons (gN 8) gsNil))) (hol h) ρ)).bind rbody = M.pure r ∧ (if (within s f h.r && !decide (h.g < h.a) && (free.all fun x => !decide (h.g < x))) = true then ∃ ρ', r = .nx ρ' ∧ ρ' 0 = some (fr s) ∧ ρ' 1 = some (fr f) ∧ ρ' 2 = some (fr L) ∧ ρ' 3 = some (fr g) ∧ ρ' 5 = some (dFree (some (h.g + L / g))) else r = .rt (.bl false)) := by
      intro h free ρ okh fz h0 h1 h2 h3 h5
      have := okh.r; have := okh.a; have := okh.g
      have e : hol h = .tup [fr h.r, fr h.a, fr h.g] := rfl
      simp only [e, gT_r, gsCons_r, gN_r, gsNil_r, Option.bind_some, M.lift_some', M.pure_bind]
      cases hw1 : within s f h.r with
      | false => exact ⟨_, by simp [h0, h1, within_ok, hw1]; rfl, by simp⟩
      | true =>
        by_cases hga : h.g < h.a
        · exact ⟨_, by simp [h0, h1, within_ok, hw1, less_ok, hga]; rfl, by simp [hga]⟩
        · cases free with
          | none => exact ⟨_, by simp [h0, h1, h2, h3, h5, within_ok, hw1, less_ok, hga, dFree, over_ok, plus_ok, hg]; rfl, by simp [hga, h0, h1, h2, h3, dFree]⟩
          | some x =>
            have := fz x rfl
            have nn : dNotN (fr x) .non = some (.bl true) := rfl
            by_cases hx : h.g < x
            · exact ⟨_, by simp [h0, h1, h2, h3, h5, within_ok, hw1, less_ok, hga, dFree, nn, hx]; rfl, by simp [hga, hx]⟩
            · exact ⟨_, by simp [h0, h1, h2, h3, h5, within_ok, hw1, less_ok, hga, dFree, nn, hx, over_ok, plus_ok, hg]; rfl, by simp [hga, hx, h0, h1, h2, h3, dFree]⟩
    obtain ⟨r, e, c⟩ := right_go (s := s) (f := f) (L := L) (g := g) (t := gT (gsCons (gN 6) (gsCons (gN 7) (gsCons (gN 8) gsNil)))) (body := rbody) hg hb hs none (Rho.upd (argsOf [fr s, fr f, fr L, fr g, .lst (hs.map hol)]) 5 .non) ok (fun x e => nomatch e) rfl rfl rfl rfl rfl
    rw [e]
    unfold right
    rw [hw]
    split at c
    · rename_i hc
      obtain ⟨ρ', rfl⟩ := c
      simp [hc]
    · rename_i hc
      subst c
      rw [Bool.not_eq_true] at hc
      simp [hc]

theorem rightGo_iff {s f d : Rat} : ∀ (hs : List Ho) (free : Option Rat), rightGo s f d free hs = true ↔ (∀ h ∈ hs, within s f h.r = true ∧ ¬ h.g < h.a) ∧ (∀ x h, free = some x → hs[0]? = some h → ¬ h.g < x) ∧ ∀ (k : Nat) a b, hs[k]? = some a → hs[k + 1]? = some b → ¬ b.g < a.g + d
  | [], free => by simp [rightGo]
  | h :: hs, free => by
    have e : rightGo s f d free (h :: hs) = (within s f h.r && !decide (h.g < h.a) && (free.all fun x => !decide (h.g < x)) && rightGo s f d (some (h.g + d)) hs) := by cases free <;> rfl
    rw [e, Bool.and_eq_true, rightGo_iff hs (some (h.g + d))]
    constructor
    · rintro ⟨h1, h2, h3, h4⟩
      simp only [Bool.and_eq_true, Bool.not_eq_true', decide_eq_false_iff_not] at h1
      refine ⟨fun x hx => ?_, fun x y ex ey => ?_, fun k a b ea eb => ?_⟩
      · rcases List.mem_cons.mp hx with rfl | hx
        · exact ⟨h1.1.1, h1.1.2⟩
        · exact h2 x hx
      · subst ex
        simp at ey; subst ey
        simpa using h1.2
      · cases k with
        | zero =>
          simp at ea; subst ea
          exact h3 _ b rfl (by simpa using eb)
        | succ k => exact h4 k a b (by simpa using ea) (by simpa using eb)
    · rintro ⟨h2, h3, h4⟩
      have h1 := h2 h (by simp)
      refine ⟨?_, fun x hx => h2 x (by simp [hx]), fun x y ex ey => ?_, fun k a b ea eb => h4 (k + 1) a b (by simpa using ea) (by simpa using eb)⟩
      · simp only [Bool.and_eq_true, Bool.not_eq_true', decide_eq_false_iff_not]
        refine ⟨⟨h1.1, h1.2⟩, ?_⟩
        cases free with
        | none => rfl
        | some x => simpa using h3 x h rfl rfl
      · cases ex
        exact h4 0 h y rfl (by simpa using ey)
theorem lright_ok (hg : g ≠ 0) {hs : List Ho} (ok : ∀ h ∈ hs, OkH h) (hl : hs.length ≤ 1000) : F__law_story_right [fr s, fr f, fr L, fr g, .lst (hs.map hol)] = M.pure (.bl (right s f L g hs)) := by
  unfold F__law_story_right sem__law_story_right
  cases hw : within s f g with
  | false => simp [lwithin_ok, hw, right]
  | true =>
    have flt : lcGo (lcTurn (gN 6) (tOrS (tNotS (tTru (eCall F__law_within_bounds (aCons (eVar 0) (aCons (eVar 1) (aCons (eOp dIxA (eVar 6) (eC (.int 0))) aNil)))))) (tTru (eCall F__law_less (aCons (eOp dIxA (eVar 6) (eC (.int 2))) (aCons (eOp dIxA (eVar 6) (eC (.int 1))) aNil))))) (eVar 6) ((argsOf [fr s, fr f, fr L, fr g, .lst (hs.map hol)]).wipe [6])) (hs.map hol) = M.pure (hs.filterMap fun h => if (within s f h.r && !decide (h.g < h.a)) = true then none else some (hol h)) := by
      refine lc_mapped fun h hh => ?_
      have okh := ok h hh
      have := okh.r; have := okh.a; have := okh.g
      cases hw1 : within s f h.r with
      | false => simp [lwithin_ok, hw1]
      | true => by_cases hga : h.g < h.a <;> simp [lwithin_ok, hw1, lless_ok, hga]
    have len : ∀ ds : List D, (0 : Int) < ds.length ↔ ds ≠ [] := fun ds => by cases ds <;> simp <;> omega
    have e1 : (eLc [6] (gN 6) (itemsOf (eVar 4)) (tOrS (tNotS (tTru (eCall F__law_within_bounds (aCons (eVar 0) (aCons (eVar 1) (aCons (eOp dIxA (eVar 6) (eC (.int 0))) aNil)))))) (tTru (eCall F__law_less (aCons (eOp dIxA (eVar 6) (eC (.int 2))) (aCons (eOp dIxA (eVar 6) (eC (.int 1))) aNil))))) (eVar 6)) (argsOf [fr s, fr f, fr L, fr g, .lst (hs.map hol)]) = M.pure (.lst (hs.filterMap fun h => if (within s f h.r && !decide (h.g < h.a)) = true then none else some (hol h))) := by
      simp only [eLc_r, itemsOf_r, eVar_r, args4, M.lift_some', M.pure_bind, flt]
      rw [if_pos (by rw [List.length_map]; omega)]
    by_cases hb : (hs.filterMap fun h => if (within s f h.r && !decide (h.g < h.a)) = true then none else some (hol h)) = []
    · have good : ∀ h ∈ hs, within s f h.r = true ∧ ¬ h.g < h.a := fun h hh => by
        have := List.filterMap_eq_nil_iff.mp hb h hh
        split at this
        · rename_i hc
          simpa using hc
        · cases this
      have loop := for_check (t := gN 5) (d := .bl false) (test := tTru (eCall F__law_less (aCons (eOp dIxA (eOp dIxA (eVar 4) (eVar 5)) (eC (.int 2))) (aCons (eCall F__law_add (aCons (eOp dIxA (eOp dIxA (eVar 4) (eOp dSub (eVar 5) (eC (.int 1)))) (eC (.int 2))) (aCons (eCall F__law_div (aCons (eVar 2) (aCons (eVar 3) aNil))) aNil))) aNil))))
        (fun ρ => ρ 2 = some (fr L) ∧ ρ 3 = some (fr g) ∧ ρ 4 = some (.lst (hs.map hol))) (xs := rangeL 1 ((hs.length : Int) - 1).toNat)
        (bad := fun k => match hs[k]?, hs[k + 1]? with
          | some a, some b => decide (b.g < a.g + L / g)
          | _, _ => false) (ρ := argsOf [fr s, fr f, fr L, fr g, .lst (hs.map hol)]) (fun k x ρ hx ⟨h2, h3, h4⟩ => by
          obtain ⟨hk, rfl⟩ := range_get hx
          refine ⟨_, rfl, ⟨by simpa using h2, by simpa using h3, by simpa using h4⟩, ?_⟩
          have k1 : k + 1 < hs.length := by omega
          have o1 := ok hs[k] (List.getElem_mem _)
          have o2 := ok hs[k + 1] (List.getElem_mem _)
          have := o1.g; have := o2.g
          have a1 : L2.atI (hs.map hol) (1 + (k : Int)) = some (hol hs[k + 1]) := by
            rw [at_nat (by omega) (by rw [List.length_map]; omega)]
            rw [show (1 + (k : Int)).toNat = k + 1 by omega]
            simp [k1]
          have a2 : L2.atI (hs.map hol) (k : Int) = some (hol hs[k]) := by
            rw [at_nat (by omega) (by rw [List.length_map]; omega)]
            have : k < hs.length := by omega
            simp [this]
          have e3 : (1 + (k : Int) - 1) = k := by omega
          have k0 : k < hs.length := by omega
          simp [h2, h3, h4, a1, a2, e3, ldiv_ok, ladd_ok, lless_ok, hg, k1, k0]) ⟨rfl, rfl, rfl⟩
      have e2 : (rng2 (aCons (eC (.int 1)) (aCons (eCallB dLen (aCons (eVar 4) aNil)) aNil))) (argsOf [fr s, fr f, fr L, fr g, .lst (hs.map hol)]) = M.pure (rangeL 1 ((hs.length : Int) - 1).toNat) := by
        simp only [rng2_r, aCons_r, eC_r, eCallB_r, eVar_r, args4, M.lift_some', M.pure_bind, aNil_r, len_l, List.length_map]
        rw [if_pos ⟨by decide, smallB_len (by omega)⟩]
      simp only [runFn_r, sSeq_r, sIf_r, tOrS_r, tNotS_r, tTru_r, tOf_r, eCall_r, eCallB_r, eOp_r, aCons_r, eC_r, eVar_r, args0, args1, args2, args3, args4, M.lift_some', M.pure_bind, aNil_r, lwithin_ok, hw, tru_b, Bool.not_true, sNx_r, sThen_nx, M.bind_assoc, Bool.false_eq_true, if_false, e1, hb, len_l, gt_i, asB_r, List.length_nil, sFor_r, e2]
      have e0 : decide ((0 : Int) < ((0 : Nat) : Int)) = false := rfl
      simp only [e0, Bool.false_eq_true, if_false, M.pure_bind, sThen_nx, sFor_r, e2]
      rcases loop with ⟨⟨k, hk, hbad⟩, e⟩ | ⟨hok, ρ', _, e⟩
      · simp only [e, sSeq_r, sFor_r, e2, M.pure_bind, sThen_rt, endFn_rt]
        have : right s f L g hs = false := by
          unfold right
          rw [hw, Bool.true_and, ← Bool.not_eq_true, rightGo_iff]
          rintro ⟨_, _, h4⟩
          split at hbad
          · rename_i a b ea eb
            exact h4 k a b ea eb (of_decide_eq_true hbad)
          · cases hbad
        rw [this]
      · simp only [e, sSeq_r, sFor_r, e2, M.pure_bind, sThen_nx, sRet_r, eC_r, endFn_rt]
        have : right s f L g hs = true := by
          unfold right
          rw [hw, Bool.true_and, rightGo_iff]
          refine ⟨good, fun x h e => (nomatch e), fun k a b ea eb hlt => ?_⟩
          have h1 : k + 1 < hs.length := by
            rcases Nat.lt_or_ge (k + 1) hs.length with h | h
            · exact h
            · rw [List.getElem?_eq_none h] at eb; cases eb
          have := hok k (by rw [rangeL_length]; omega)
          simp only [ea, eb] at this
          exact absurd hlt (of_decide_eq_false this)
        rw [this]
    · have pos : decide ((0 : Int) < ((hs.filterMap fun h => if (within s f h.r && !decide (h.g < h.a)) = true then none else some (hol h)).length : Int)) = true := decide_eq_true ((len _).mpr hb)
      simp only [runFn_r, sSeq_r, sIf_r, tOrS_r, tNotS_r, tTru_r, tOf_r, eCall_r, eCallB_r, eOp_r, aCons_r, eC_r, eVar_r, args0, args1, args2, args3, args4, M.lift_some', M.pure_bind, aNil_r, lwithin_ok, hw, tru_b, Bool.not_true, sNx_r, sThen_nx, sThen_rt, M.bind_assoc, Bool.false_eq_true, if_false, e1, len_l, gt_i, asB_r, pos, if_true, sRet_r, endFn_rt]
      have : right s f L g hs = false := by
        unfold right
        rw [hw, Bool.true_and, ← Bool.not_eq_true, rightGo_iff]
        rintro ⟨h2, _, _⟩
        refine hb (List.filterMap_eq_nil_iff.mpr fun h hh => ?_)
        have := h2 h hh
        rw [if_pos (by simp [this.1, this.2])]
      rw [this]
end
end G

/-! what the defs of law k20 compute: pairs, judges, bad stories -/
namespace G
open PySem PySem.Spec PyProof.Rows L2 Lf Pre Pu

def meetB : Option (Rat × Rat) → Option (Rat × Rat) → Bool
  | some a, some b => decide (a.1 < b.2) && decide (b.1 < a.2)
  | _, _ => false
def pairP (lim : Rat) (hs : List Ho) (i j : Nat) : Bool := match hs[i]?, hs[j]? with
  | some a, some b => meetB (bel lim a) (bel lim b)
  | _, _ => false
theorem bel_sz {lim : Rat} [Sz 1000 lim] {h : Ho} (k : OkH h) {a b : Rat} (e : bel lim h = some (a, b)) : Sz 1000 a ∧ Sz 3001 b := by
  have := k.r; have := k.a; have := k.g
  unfold bel at e
  split at e
  · cases e; exact ⟨by infer_instance, by infer_instance⟩
  · cases e
theorem two_ok {lim : Rat} [Sz 1000 lim] {hs : List Ho} (ok : ∀ h ∈ hs, OkH h) (hl : hs.length ≤ 1000) :
    ∃ r, First (pairP lim hs) hs.length r ∧ F_two_believe [fr lim, .lst (hs.map hol)] = M.pure (dPair r) ∧ F__law_two_of [fr lim, .lst (hs.map hol)] = M.pure (dPair r) := by
  have it1 : ∀ ρ : Rho, ρ 2 = some (.lst (hs.map fun h => dBel (bel lim h))) → rng1 (aCons (eCallB dLen (aCons (eVar 2) aNil)) aNil) ρ = M.pure (rangeL 0 hs.length) := fun ρ h => by
    simp only [rng1_r, aCons_r, eCallB_r, eVar_r, h, M.lift_some', M.pure_bind, aNil_r, len_l, List.length_map]
    rw [if_pos (smallB_len (by omega))]
    rfl
  have it2 : ∀ (ρ : Rho) (i : Nat), i < hs.length → ρ 2 = some (.lst (hs.map fun h => dBel (bel lim h))) → ρ 3 = some (.int i) → rng2 (aCons (eOp dAdd (eVar 3) (eC (.int 1))) (aCons (eCallB dLen (aCons (eVar 2) aNil)) aNil)) ρ = M.pure (rangeL (i + 1) ((hs.length : Int) - (i + 1)).toNat) := fun ρ i hi h h3 => by
    simp only [rng2_r, aCons_r, eCallB_r, eVar_r, eOp_r, eC_r, h, h3, M.lift_some', M.pure_bind, aNil_r, len_l, List.length_map, add_i]
    have e : (i : Int) + 1 = ((i + 1 : Nat) : Int) := by push_cast; rfl
    rw [if_pos ⟨by rw [e]; exact smallB_len (by omega), smallB_len (by omega)⟩]
  have at_ : ∀ (k : Nat) (h : Ho), hs[k]? = some h → L2.atI (hs.map fun h => dBel (bel lim h)) (k : Int) = some (dBel (bel lim h)) := fun k h e => by
    have hk : k < hs.length := by
      rcases Nat.lt_or_ge k hs.length with h' | h'
      · exact h'
      · rw [List.getElem?_eq_none h'] at e; cases e
    rw [at_nat (by omega) (by rw [List.length_map]; omega)]
    simp [e]
  have some_ : ∀ k : Nat, k < hs.length → ∃ h, hs[k]? = some h ∧ OkH h := fun k hk => ⟨hs[k], List.getElem?_eq_getElem hk, ok _ (List.getElem_mem hk)⟩
  have nn : ∀ o : Option (Rat × Rat), dNotN (dBel o) .non = some (.bl o.isSome) := fun o => by
    cases o with
    | none => rfl
    | some x => rfl
  have t0 : ∀ a b : Rat, dIxA (dBel (some (a, b))) (.int 0) = some (fr a) := fun _ _ => rfl
  have t1 : ∀ a b : Rat, dIxA (dBel (some (a, b))) (.int 1) = some (fr b) := fun _ _ => rfl
  have lp : (hs.map hol).length ≤ 16777216 := by rw [List.length_map]; omega
  have one : ∀ (B : List D → M D) (test : Rho → M Bool), (∀ h ∈ hs, B [fr lim, hol h] = M.pure (dBel (bel lim h))) →
      (∀ ρ (i j : Nat), ρ 2 = some (.lst (hs.map fun h => dBel (bel lim h))) → ρ 3 = some (.int i) → ρ 4 = some (.int j) → i < j → j < hs.length → test ρ = M.pure (pairP lim hs i j)) →
      ∃ r, First (pairP lim hs) hs.length r ∧ runFn (sSeq (sSetO 2 (eLc [5] (gN 5) (itemsOf (eVar 1)) tYesS (eCall B (aCons (eVar 0) (aCons (eVar 5) aNil)))))
        (sSeq (sFor (gN 3) (rng1 (aCons (eCallB dLen (aCons (eVar 2) aNil)) aNil))
          (sFor (gN 4) (rng2 (aCons (eOp dAdd (eVar 3) (eC (.int 1))) (aCons (eCallB dLen (aCons (eVar 2) aNil)) aNil)))
            (sIf test (sRet (eTup (aCons (eVar 3) (aCons (eVar 4) aNil)))) sNx))) (sRet (eC .non)))) [fr lim, .lst (hs.map hol)] = M.pure (dPair r) := fun B test hB ht => by
    have c : eLc [5] (gN 5) (itemsOf (eVar 1)) tYesS (eCall B (aCons (eVar 0) (aCons (eVar 5) aNil))) (argsOf [fr lim, .lst (hs.map hol)]) = M.pure (.lst (hs.map fun h => dBel (bel lim h))) := by
      simp only [eLc_r, itemsOf_r, eVar_r, args1, M.lift_some', M.pure_bind]
      rw [if_pos lp, lc_mapped' (f := fun h => dBel (bel lim h)) (fun h hh => by simp [hB h hh])]
      rfl
    obtain ⟨r, F, run⟩ := for2 (test := test) (P := pairP lim hs) (n := hs.length) (I := fun ρ => ρ 2 = some (.lst (hs.map fun h => dBel (bel lim h)))) (u := 3) (v := 4) (by decide)
      (fun ρ i d h hi => by rcases hi with rfl | rfl <;> simpa using h) (by omega) (fun ρ h => it1 ρ h) (fun ρ i hi h h3 => it2 ρ i hi h h3) ht
      (ρ := (argsOf [fr lim, .lst (hs.map hol)]).upd 2 (.lst (hs.map fun h => dBel (bel lim h)))) (by simp)
    refine ⟨r, F, W.eq fun p => ?_⟩
    simp only [runFn_r, sSeq_r, sSetO_r, c, M.pure_bind, isBox_l, if_true, sThen_nx, M.bind_assoc]
    refine W.to (run p) fun x p' ⟨e, m⟩ => ?_
    subst e
    cases r with
    | none =>
      obtain ⟨ρ', rfl, _⟩ := m
      simp [W_pure, dPair]
    | some ij =>
      subst m
      simp [W_pure]
  obtain ⟨r, F, e1⟩ := one F_belief (tAndS (tOf (eOp dNotN (eOp dIxA (eVar 2) (eVar 3)) (eC .non))) (tAndS (tOf (eOp dNotN (eOp dIxA (eVar 2) (eVar 4)) (eC .non))) (tTru (eCall F_meet (aCons (eOp dIxA (eVar 2) (eVar 3)) (aCons (eOp dIxA (eVar 2) (eVar 4)) aNil)))))) (fun h hh => bel_ok (ok h hh))
    (fun ρ i j h2 h3 h4 hij hj => by
      obtain ⟨a, ea, oa⟩ := some_ i (by omega)
      obtain ⟨b, eb, ob⟩ := some_ j hj
      have e1 := at_ i a ea
      have e2 := at_ j b eb
      unfold pairP
      rw [ea, eb]
      simp only [tAndS_r, tOf_r, tTru_r, eOp_r, eVar_r, h2, h3, h4, M.lift_some', M.pure_bind, ix_l, e1, e2, eC_r, nn, asB_r, eCall_r, aCons_r, aNil_r]
      cases k1 : bel lim a with
      | none => simp [meetB]
      | some x =>
        cases k2 : bel lim b with
        | none => simp [meetB]
        | some y =>
          obtain ⟨x1, x2⟩ := x
          obtain ⟨y1, y2⟩ := y
          obtain ⟨_, _⟩ := bel_sz oa k1
          obtain ⟨_, _⟩ := bel_sz ob k2
          have em : F_meet [dBel (some (x1, x2)), dBel (some (y1, y2))] = M.pure (.bl (decide (x1 < y2) && decide (y1 < x2))) := by
            unfold F_meet sem_meet
            simp [t0, t1, less_ok]
            by_cases h : x1 < y2 <;> simp [h]
          simp [em, meetB])
  obtain ⟨r', F', e2⟩ := one F__law_belief_of (tAndS (tOf (eOp dNotN (eOp dIxA (eVar 2) (eVar 3)) (eC .non))) (tAndS (tOf (eOp dNotN (eOp dIxA (eVar 2) (eVar 4)) (eC .non))) (tAndS (tTru (eCall F__law_less (aCons (eOp dIxA (eOp dIxA (eVar 2) (eVar 3)) (eC (.int 0))) (aCons (eOp dIxA (eOp dIxA (eVar 2) (eVar 4)) (eC (.int 1))) aNil)))) (tTru (eCall F__law_less (aCons (eOp dIxA (eOp dIxA (eVar 2) (eVar 4)) (eC (.int 0))) (aCons (eOp dIxA (eOp dIxA (eVar 2) (eVar 3)) (eC (.int 1))) aNil))))))) (fun h hh => lbel_ok (ok h hh))
    (fun ρ i j h2 h3 h4 hij hj => by
      obtain ⟨a, ea, oa⟩ := some_ i (by omega)
      obtain ⟨b, eb, ob⟩ := some_ j hj
      have e1 := at_ i a ea
      have e2 := at_ j b eb
      unfold pairP
      rw [ea, eb]
      simp only [tAndS_r, tOf_r, tTru_r, eOp_r, eVar_r, h2, h3, h4, M.lift_some', M.pure_bind, ix_l, e1, e2, eC_r, nn, asB_r, eCall_r, aCons_r, aNil_r]
      cases k1 : bel lim a with
      | none => simp [meetB]
      | some x =>
        cases k2 : bel lim b with
        | none => simp [meetB]
        | some y =>
          obtain ⟨x1, x2⟩ := x
          obtain ⟨y1, y2⟩ := y
          obtain ⟨_, _⟩ := bel_sz oa k1
          obtain ⟨_, _⟩ := bel_sz ob k2
          simp [meetB, t0, t1, lless_ok]
          by_cases h : x1 < y2 <;> simp [h])
  rw [← F.uniq F'] at e2
  exact ⟨r, F, e1, e2⟩
section
variable {s f L lim g : Rat} [Sz 1000 s] [Sz 1000 f] [Sz 1000 L] [Sz 1000 lim] [Sz 1000 g]
theorem judge_ok (hg : g ≠ 0) {hs : List Ho} (ok : ∀ h ∈ hs, OkH h) {r : Option (Nat × Nat)} (e : F_two_believe [fr lim, .lst (hs.map hol)] = M.pure (dPair r)) :
    F_judge_story [fr s, fr f, fr L, fr lim, fr g, .lst (hs.map hol)] = M.pure (.bl (right s f L g hs && r.isSome)) := by
  unfold F_judge_story sem_judge_story
  have nn : dNotN (dPair r) .non = some (.bl r.isSome) := by cases r <;> rfl
  simp [right_ok hg ok, e, nn]
  cases right s f L g hs <;> simp
def badHs (s f L : Rat) : List Ho := [⟨s, 0, 0⟩, ⟨s, L / f, L / f⟩]
theorem bad_ok (hf : f ≠ 0) : F_bad_story [fr s, fr f, fr L, fr lim] = M.pure (if L * s < lim * f then .tup [fr f, .lst ((badHs s f L).map hol)] else .non) := by
  unfold F_bad_story sem_bad_story
  by_cases h : L * s < lim * f
  · simp [safe_ok, over_ok, h, hf]; rfl
  · simp [safe_ok, h]
end
end G

/-! law k20: the arithmetic of leases -/
namespace G
open PySem PySem.Spec PyProof.Rows L2 Lf Pre Pu

theorem div_lt_div {a b c d : Rat} (hb : 0 < b) (hd : 0 < d) : a / b < c / d ↔ a * d < c * b := by
  rw [Rat.div_lt_iff hb]
  have e : c / d * b = c * b / d := by grind
  rw [e, Rat.lt_div_iff hd]
structure DatO (s f L lim : Rat) : Prop where
  s0 : 0 < s
  sf' : s ≤ f
  L0 : 0 < L
  l0 : 0 < lim
structure Dat (s f L lim : Rat) : Prop extends DatO s f L lim where
  ss : Sz 40 s
  sf : Sz 40 f
  sL : Sz 40 L
  sl : Sz 40 lim
section
variable {s f L lim : Rat} (X : DatO s f L lim)
include X
theorem DatO.f0 : 0 < f := by have := X.s0; have := X.sf'; grind
theorem DatO.greatest : ¬ L * s < L * s / f * f := by
  have := X.f0
  rw [Rat.div_mul_cancel (by grind)]
  grind
theorem DatO.above : L * s < (L * s / f + 1 / 7) * f := by
  have h := X.f0
  have e : (L * s / f + 1 / 7) * f = L * s + f / 7 := by grind
  rw [e]
  grind
theorem DatO.scaleL {n : Rat} (hn : 0 < n) : (n * L * s < n * lim * f ↔ L * s < lim * f) := by
  rw [Rat.mul_assoc, Rat.mul_assoc, Rat.mul_lt_mul_left hn]
theorem DatO.scaleS {n : Rat} (hn : 0 < n) : (L * (n * s) < lim * (n * f) ↔ L * s < lim * f) := by
  have e1 : L * (n * s) = n * (L * s) := by grind
  have e2 : lim * (n * f) = n * (lim * f) := by grind
  rw [e1, e2, Rat.mul_lt_mul_left hn]
theorem DatO.within_f : within s f f = true := by
  have := X.sf'
  unfold within
  simp; grind
theorem DatO.within_s : within s f s = true := by
  have := X.sf'
  unfold within
  simp; grind
theorem DatO.bad_right : right s f L f (badHs s f L) = true := by
  unfold right badHs
  rw [X.within_f, Bool.true_and]
  simp [rightGo, X.within_s]
  grind
theorem DatO.bad_pair (h : L * s < lim * f) : pairP lim (badHs s f L) 0 1 = true := by
  have s0 := X.s0; have f0 := X.f0; have L0 := X.L0; have l0 := X.l0
  have a1 : (0 : Rat) < lim / s := by rw [Rat.lt_div_iff s0]; grind
  have a2 : (0 : Rat) < L / f := by rw [Rat.lt_div_iff f0]; grind
  have a3 : L / f < lim / s := by rw [div_lt_div f0 s0]; exact h
  unfold pairP badHs
  simp [bel, meetB]
  rw [if_pos (by grind), if_pos (by grind)]
  simp
  grind
theorem DatO.bad_first {r : Option (Nat × Nat)} (h : L * s < lim * f) (F : First (pairP lim (badHs s f L)) (badHs s f L).length r) : r = some (0, 1) := by
  have hp := X.bad_pair h
  cases r with
  | none =>
    have := F 0 1 (by decide) (show 1 < 2 by decide)
    rw [hp] at this; cases this
  | some ij =>
    obtain ⟨i, j⟩ := ij
    obtain ⟨h1, h2, h3, h4⟩ := F
    have h2 : j < 2 := h2
    have : i = 0 ∧ j = 1 := by omega
    rw [this.1, this.2]
theorem DatO.none_of {g : Rat} {hs : List Ho} {r : Option (Nat × Nat)} (hs0 : ¬ L * s < lim * f) (hr : right s f L g hs = true) (F : First (pairP lim hs) hs.length r) : r = none := by
  have s0 := X.s0; have f0 := X.f0; have L0 := X.L0; have l0 := X.l0
  unfold right at hr
  rw [Bool.and_eq_true, rightGo_iff] at hr
  obtain ⟨hw, h1, _, h3⟩ := hr
  have hw' : ¬ g < s ∧ ¬ f < g := by unfold within at hw; simpa using hw
  have g0 : 0 < g := by grind
  have a1 : ¬ L / g < L / f := by rw [div_lt_div g0 f0, Rat.mul_lt_mul_left L0]; exact hw'.2
  have a2 : ¬ L / f < lim / s := by rw [div_lt_div f0 s0]; exact hs0
  have a3 : 0 < L / g := by rw [Rat.lt_div_iff g0]; grind
  have chain : ∀ (d i : Nat) (a b : Ho), hs[i]? = some a → hs[i + d + 1]? = some b → ¬ b.g < a.g + L / g := by
    intro d
    induction d with
    | zero => intro i a b ea eb; exact h3 i a b ea eb
    | succ d ih =>
      intro i a b ea eb
      have hl : i + d + 1 < hs.length := by
        rcases Nat.lt_or_ge (i + d + 1) hs.length with h | h
        · exact h
        · rw [List.getElem?_eq_none (by omega)] at eb; cases eb
      have ec : hs[i + d + 1]? = some hs[i + d + 1] := List.getElem?_eq_getElem hl
      have k1 := ih i a _ ea ec
      have k2 := h3 (i + d + 1) _ b ec eb
      grind
  cases r with
  | none => rfl
  | some ij =>
    obtain ⟨i, j⟩ := ij
    obtain ⟨hij, hj, hp, _⟩ := F
    exfalso
    have hi : i < hs.length := by omega
    have ea : hs[i]? = some hs[i] := List.getElem?_eq_getElem hi
    have eb : hs[j]? = some hs[j] := List.getElem?_eq_getElem hj
    generalize hs[i] = a at ea
    generalize hs[j] = b at eb
    have ma := h1 a (List.mem_of_getElem? ea)
    have mb := h1 b (List.mem_of_getElem? eb)
    obtain ⟨d, rfl⟩ : ∃ d, j = i + d + 1 := ⟨j - i - 1, by omega⟩
    have k := chain d i a b ea eb
    unfold pairP at hp
    rw [ea, eb] at hp
    have wa : ¬ a.r < s ∧ ¬ f < a.r := by have := ma.1; unfold within at this; simpa using this
    have r0 : 0 < a.r := by grind
    have a4 : ¬ lim / s < lim / a.r := by rw [div_lt_div s0 r0, Rat.mul_lt_mul_left l0]; exact wa.1
    simp only [bel] at hp
    split at hp
    · split at hp
      · simp only [meetB, Bool.and_eq_true, decide_eq_true_eq] at hp
        have := ma.2
        grind
      · cases hp
    · cases hp
end
end G

/-! law k20: its statements, up to the bad story -/
namespace G
open PySem PySem.Spec PyProof.Rows L2 Lf Pre Pu

theorem fr0_ : D.tup [.int 0, .int 1] = fr 0 := rfl
theorem fr1_ : D.tup [.int 1, .int 1] = fr 1 := rfl
theorem fr2_ : D.tup [.int 2, .int 1] = fr 2 := rfl
theorem fr17 : D.tup [.int 1, .int 7] = fr (1 / 7) := fr_of (by decide) (by decide) (by grind)
theorem fr12 : D.tup [.int 1, .int 2] = fr (1 / 2) := fr_of (by decide) (by decide) (by grind)
theorem fr13 : D.tup [.int 1, .int 3] = fr (1 / 3) := fr_of (by decide) (by decide) (by grind)
theorem above_ok {ns : List Int} (h : Script ns) {c : Nat} {ps : Ps} (P : PoolOk c ps) (hc : c < 2 ^ 50) {m : Int} (h0 : 0 < m) (h1 : m ≤ 1000) {Q : D → Pl → Prop}
    (q : ∀ a ps, Sz 20 a → 0 < a → PoolOk (c + 2) ps → Q (fr a) (some ps)) : W (F__law_above_none ns [.pool, .int m]) (some ps) Q := by
  have bm : Bd 20 m := bd_of (by omega) (by omega)
  unfold F__law_above_none sem__law_above_none
  simp only [runFn_r, sRet_r, eCall_r, aCons_r, eOp_r, eC_r, eVar_r, args0, args1, M.lift_some', M.pure_bind, aNil_r, M.bind_assoc]
  refine W_bind.mpr (draw_ok h P (by omega) (by decide) h0 fun u ps1 u0 u1 P1 => ?_)
  simp only [add_i, M.lift_some', M.pure_bind]
  refine W_bind.mpr (draw_ok h P1 (by omega) (by decide) h0 fun v ps2 v0 v1 P2 => ?_)
  have bu : Bd 20 (1 + u) := bd_of (by omega) (by omega)
  have bv : Bd 20 (1 + v) := bd_of (by omega) (by omega)
  have e : F__law_ratio [.int (1 + u), .int (1 + v)] = _ := ratio_ok (hb := bv) (by omega) (by omega)
  simp only [add_i, M.lift_some', M.pure_bind, e, endFn_rt, W_pure]
  refine q _ _ (Sz.of_div (by omega) bu bv) ?_ P2
  rw [Rat.lt_div_iff (by exact_mod_cast (show (0 : Int) < 1 + v by omega)), Rat.zero_mul]
  exact_mod_cast (show (0 : Int) < 1 + u by omega)

structure E0 (ρ : Rho) (s f L lim : Rat) : Prop where
  e1 : ρ 1 = some .pool
  e12 : ρ 12 = some (fr s)
  e13 : ρ 13 = some (fr f)
  e14 : ρ 14 = some (fr L)
  e15 : ρ 15 = some (fr lim)
  e3 : ρ 3 = some (.bl (!decide (L * s < lim * f)))
theorem E0.upd {ρ : Rho} {s f L lim : Rat} (h : E0 ρ s f L lim) {i : Nat} {d : D} (hi : i ≠ 1 ∧ i ≠ 12 ∧ i ≠ 13 ∧ i ≠ 14 ∧ i ≠ 15 ∧ i ≠ 3) : E0 (ρ.upd i d) s f L lim := by
  obtain ⟨h1, h2, h3, h4, h5, h6⟩ := hi
  exact ⟨by rw [upd_r, if_neg (Ne.symm h1)]; exact h.e1, by rw [upd_r, if_neg (Ne.symm h2)]; exact h.e12, by rw [upd_r, if_neg (Ne.symm h3)]; exact h.e13, by rw [upd_r, if_neg (Ne.symm h4)]; exact h.e14,
    by rw [upd_r, if_neg (Ne.symm h5)]; exact h.e15, by rw [upd_r, if_neg (Ne.symm h6)]; exact h.e3⟩
section
variable {ns : List Int} (hS : Script ns) {c : Nat} {ps : Ps} {ρ : Rho} {k : Rho → M Fl} {Q : Fl → Pl → Prop}
include hS
theorem blockA (P : PoolOk c ps) (hc : c < 2 ^ 40) (h1 : ρ 1 = some .pool)
    (q : ∀ s f L lim ρ' ps', Dat s f L lim → E0 ρ' s f L lim → ρ' 4 = some (fr (L * s / f)) → PoolOk (c + 20) ps' → W (k ρ') (some ps') Q) :
    W (sSeq (st_law_2 ns) (sSeq (st_law_3 ns) (sSeq (st_law_4 ns) (sSeq (st_law_5 ns) (sSeq (st_law_6 ns) (sSeq (st_law_7 ns) k))))) ρ) (some ps) Q := by
  refine W_seqN (fun ρ' p => ρ' = ρ ∧ ∃ ps', p = some ps' ∧ PoolOk (c + 1) ps') ?_ ?_
  · unfold st_law_2
    simp only [sExpr_r, eCall_r, aCons_r, eVar_r, h1, M.lift_some', M.pure_bind, aNil_r]
    exact W_bind.mpr (next_ok hS P (by omega) fun ps1 P1 => W_pure.mpr ⟨_, rfl, rfl, _, rfl, P1⟩)
  rintro ρ1 p1 ⟨rfl, ps1, rfl, P1⟩
  refine W_seqN (fun ρ' p => ∃ a b ps', ρ' = (ρ1.upd 10 (fr a)).upd 11 (fr b) ∧ p = some ps' ∧ PoolOk (c + 5) ps' ∧ Sz 20 a ∧ Sz 20 b ∧ 0 < a ∧ 0 < b) ?_ ?_
  · unfold st_law_3
    simp only [sPar_r, eCall_r, aCons_r, eVar_r, eC_r, h1, M.lift_some', M.pure_bind, aNil_r]
    refine W_bind.mpr (above_ok hS P1 (by omega) (by decide) (by decide) fun a ps2 za a0 P2 => ?_)
    refine W_bind.mpr (above_ok hS P2 (by omega) (by decide) (by decide) fun b ps3 zb b0 P3 => ?_)
    exact W_pure.mpr ⟨_, rfl, a, b, _, rfl, rfl, P3, za, zb, a0, b0⟩
  rintro ρ2 p2 ⟨a, b, ps2, rfl, rfl, P2, za, zb, a0, b0⟩
  refine W_seqN (fun ρ' p => p = some ps2 ∧ ∃ s f, Sz 20 s ∧ Sz 20 f ∧ 0 < s ∧ s ≤ f ∧ ρ' 12 = some (fr s) ∧ ρ' 13 = some (fr f) ∧ ρ' 1 = some .pool) ?_ ?_
  · by_cases hab : a < b
    · have e : st_law_4 ns ((ρ1.upd 10 (fr a)).upd 11 (fr b)) = M.pure (.nx ((((ρ1.upd 10 (fr a)).upd 11 (fr b)).upd 12 (fr a)).upd 13 (fr b))) := by
        unfold st_law_4
        simp [lless_ok, hab]
      rw [e]
      exact W_pure.mpr ⟨_, rfl, rfl, a, b, za, zb, a0, by grind, by simp, by simp, by simp [h1]⟩
    · have e : st_law_4 ns ((ρ1.upd 10 (fr a)).upd 11 (fr b)) = M.pure (.nx ((((ρ1.upd 10 (fr a)).upd 11 (fr b)).upd 12 (fr b)).upd 13 (fr a))) := by
        unfold st_law_4
        simp [lless_ok, hab]
      rw [e]
      exact W_pure.mpr ⟨_, rfl, rfl, b, a, zb, za, b0, by grind, by simp, by simp, by simp [h1]⟩
  rintro ρ3 p3 ⟨rfl, s, f, zs, zf, s0, sf, e12, e13, e1⟩
  refine W_seqN (fun ρ' p => ∃ L lim ps', ρ' = (ρ3.upd 14 (fr L)).upd 15 (fr lim) ∧ p = some ps' ∧ PoolOk (c + 9) ps' ∧ Sz 20 L ∧ Sz 20 lim ∧ 0 < L ∧ 0 < lim) ?_ ?_
  · unfold st_law_5
    simp only [sPar_r, eCall_r, aCons_r, eVar_r, eC_r, e1, M.lift_some', M.pure_bind, aNil_r]
    refine W_bind.mpr (above_ok hS P2 (by omega) (by decide) (by decide) fun a ps2 za a0 P2 => ?_)
    refine W_bind.mpr (above_ok hS P2 (by omega) (by decide) (by decide) fun b ps3 zb b0 P3 => ?_)
    exact W_pure.mpr ⟨_, rfl, a, b, _, rfl, rfl, P3, za, zb, a0, b0⟩
  rintro ρ4 p4 ⟨L, lim, ps4, rfl, rfl, P4, zL, zl, L0, l0⟩
  have f0 : f ≠ 0 := by grind
  refine W_seqN (fun ρ' p => p = some ps4 ∧ ρ' = ((ρ3.upd 14 (fr L)).upd 15 (fr lim)).upd 3 (.bl (!decide (L * s < lim * f)))) ?_ ?_
  · unfold st_law_6
    simp [W_pure, e12, e13, lmul_ok, lless_ok, Nx]
  rintro ρ5 p5 ⟨rfl, rfl⟩
  refine W_seqN (fun ρ' p => p = some ps4 ∧ ρ' = (((ρ3.upd 14 (fr L)).upd 15 (fr lim)).upd 3 (.bl (!decide (L * s < lim * f)))).upd 4 (fr (L * s / f))) ?_ ?_
  · unfold st_law_7
    simp [W_pure, e12, e13, lmul_ok, ldiv_ok, f0, Nx]
  rintro ρ6 p6 ⟨rfl, rfl⟩
  exact q s f L lim _ _ ⟨⟨s0, sf, L0, l0⟩, zs.mono (by decide), zf.mono (by decide), zL.mono (by decide), zl.mono (by decide)⟩ ⟨by simp [e1], by simp [e12], by simp [e13], by simp, by simp, by simp⟩ (by simp) (P4.mono (by omega))
theorem blockB (P : PoolOk c ps) (hc : c < 2 ^ 40) {s f L lim : Rat} (X : Dat s f L lim) (e0 : E0 ρ s f L lim) (e4 : ρ 4 = some (fr (L * s / f)))
    (q : ∀ n ps', Sz 20 n → 0 < n → PoolOk (c + 2) ps' → W (k (ρ.upd 5 (fr n))) (some ps') Q) :
    W (sSeq (st_law_8 ns) (sSeq (st_law_10 ns) (sSeq (st_law_11 ns) k)) ρ) (some ps) Q := by
  have hs : Sz 1000 s := X.ss.mono (by decide)
  have hf : Sz 1000 f := X.sf.mono (by decide)
  have hL : Sz 1000 L := X.sL.mono (by decide)
  have hl : Sz 1000 lim := X.sl.mono (by decide)
  have f0 : f ≠ 0 := by have := X.f0; grind
  have hg : Sz 1000 (L * s / f) := (Sz.div (h := Sz.mul (h := X.sL) (k := X.ss)) (k := X.sf)).mono (by decide)
  have h7 : Sz 100 (1 / 7 : Rat) := (Sz.div (h := Sz.lit) (k := Sz.lit)).mono (by decide)
  have hg7 : Sz 1000 (L * s / f + 1 / 7) := (Sz.add (h := Sz.div (h := Sz.mul (h := X.sL) (k := X.ss)) (k := X.sf)) (k := h7)).mono (by decide)
  refine W_seqN (fun ρ' p => ρ' = ρ ∧ p = some ps) ?_ ?_
  · have sb : ∀ b : Bool, F__law_same 16 [.bl b, .bl b] = M.pure (.bl true) := fun b => same_ok 16 _ rfl
    have sg : F__law_same 16 [fr (L * s / f), fr (L * s / f)] = M.pure (.bl true) := same_ok 16 _ rfl
    have e : st_law_8 ns ρ = M.pure (.nx ρ) := by
      unfold st_law_8
      simp [e0.e12, e0.e13, e0.e14, e0.e15, e0.e3, e4, safe_ok, greatest_ok f0, sb, sg, X.greatest, X.above, fr17, ladd_ok]
    rw [e]
    exact W_pure.mpr ⟨_, rfl, rfl, rfl⟩
  rintro ρ1 p1 ⟨rfl, rfl⟩
  refine W_seqN (fun ρ' p => ∃ n ps', ρ' = ρ1.upd 5 (fr n) ∧ p = some ps' ∧ PoolOk (c + 2) ps' ∧ Sz 20 n ∧ 0 < n) ?_ ?_
  · unfold st_law_10
    simp only [sSet_r, eCall_r, aCons_r, eVar_r, eC_r, e0.e1, M.lift_some', M.pure_bind, aNil_r]
    exact W_bind.mpr (above_ok hS P (by omega) (by decide) (by decide) fun n ps2 zn n0 P2 => W_pure.mpr ⟨_, rfl, n, ps2, rfl, rfl, P2, zn, n0⟩)
  rintro ρ2 p2 ⟨n, ps2, rfl, rfl, P2, zn, n0⟩
  refine W_seqN (fun ρ' p => ρ' = ρ1.upd 5 (fr n) ∧ p = some ps2) ?_ ?_
  · have z1 : Sz 1000 (n * L) := (Sz.mul (h := zn) (k := X.sL)).mono (by decide)
    have z2 : Sz 1000 (n * lim) := (Sz.mul (h := zn) (k := X.sl)).mono (by decide)
    have z3 : Sz 1000 (n * s) := (Sz.mul (h := zn) (k := X.ss)).mono (by decide)
    have z4 : Sz 1000 (n * f) := (Sz.mul (h := zn) (k := X.sf)).mono (by decide)
    have q1 : decide (n * L * s < n * lim * f) = decide (L * s < lim * f) := by simp [X.scaleL n0]
    have q2 : decide (L * (n * s) < lim * (n * f)) = decide (L * s < lim * f) := by simp [X.scaleS n0]
    have e : st_law_11 ns (ρ1.upd 5 (fr n)) = M.pure (.nx (ρ1.upd 5 (fr n))) := by
      unfold st_law_11
      simp [e0.e12, e0.e13, e0.e14, e0.e15, e0.e3, safe_ok, lmul_ok, q1, q2]
    rw [e]
    exact W_pure.mpr ⟨_, rfl, rfl, rfl⟩
  rintro ρ3 p3 ⟨rfl, rfl⟩
  exact q n ps2 zn n0 P2

/-! stories -/
structure St where
  g : Rat
  hs : List Ho
def dSt (x : St) : D := .tup [fr x.g, .lst (x.hs.map hol)]
structure OkSt (x : St) : Prop where
  z : Sz 1000 x.g
  g0 : 0 < x.g
  ok : ∀ h ∈ x.hs, Sz 900 h.r ∧ Sz 1000 h.a ∧ Sz 1000 h.g ∧ 0 < h.r
  len : x.hs.length ≤ 10
omit hS in
theorem OkSt.okH {x : St} (h : OkSt x) : ∀ y ∈ x.hs, OkH y := fun y hy => by
  obtain ⟨a, b, c, d⟩ := h.ok y hy
  exact ⟨a.mono (by decide), b, c, d⟩
theorem blockC {s f L lim n : Rat} (X : Dat s f L lim) (e0 : E0 ρ s f L lim) (zn : Sz 20 n) (n0 : 0 < n) (e5 : ρ 5 = some (fr n))
    (q : ∀ ρ' (xs : List St), E0 ρ' s f L lim → ρ' 7 = some (.lst (xs.map dSt)) → (∀ x ∈ xs, OkSt x) → xs.length ≤ 1 → W (k ρ') (some ps) Q) :
    W (sSeq (st_law_13 ns) (sSeq (st_law_14 ns) (sSeq (st_law_16 ns) (sSeq (st_law_17 ns) k))) ρ) (some ps) Q := by
  have hs : Sz 1000 s := X.ss.mono (by decide)
  have hf : Sz 1000 f := X.sf.mono (by decide)
  have hL : Sz 1000 L := X.sL.mono (by decide)
  have hl : Sz 1000 lim := X.sl.mono (by decide)
  have f0 : f ≠ 0 := by have := X.f0; grind
  have lo : Sz 1000 (L / f) := (Sz.div (h := X.sL) (k := X.sf)).mono (by decide)
  have z0 : Sz 1000 (0 : Rat) := Sz.lit.mono (by decide)
  have okb : ∀ h ∈ badHs s f L, Sz 900 h.r ∧ Sz 1000 h.a ∧ Sz 1000 h.g ∧ 0 < h.r := fun h hh => by
    simp only [badHs, List.mem_cons, List.not_mem_nil, or_false] at hh
    rcases hh with rfl | rfl
    · exact ⟨X.ss.mono (by decide), z0, z0, X.s0⟩
    · exact ⟨X.ss.mono (by decide), lo, lo, X.s0⟩
  have okx : OkSt ⟨f, badHs s f L⟩ := ⟨hf, X.f0, okb, by show 2 ≤ 10; decide⟩
  by_cases hu : L * s < lim * f
  · have e13 : st_law_13 ns ρ = M.pure (.nx (ρ.upd 6 (dSt ⟨f, badHs s f L⟩))) := by
      unfold st_law_13
      simp [e0.e12, e0.e13, e0.e14, e0.e15, bad_ok f0, hu, dSt]
    have tn : dIsN (dSt ⟨f, badHs s f L⟩) .non = some (.bl false) := rfl
    have tn2 : dNotN (dSt ⟨f, badHs s f L⟩) .non = some (.bl true) := rfl
    refine W_seqN (fun ρ' p => ρ' = ρ.upd 6 (dSt ⟨f, badHs s f L⟩) ∧ p = some ps) (by rw [e13]; exact W_pure.mpr ⟨_, rfl, rfl, rfl⟩) ?_
    rintro _ _ ⟨rfl, rfl⟩
    refine W_seqN (fun ρ' p => ρ' = ρ.upd 6 (dSt ⟨f, badHs s f L⟩) ∧ p = some ps) ?_ ?_
    · have e : st_law_14 ns (ρ.upd 6 (dSt ⟨f, badHs s f L⟩)) = M.pure (.nx (ρ.upd 6 (dSt ⟨f, badHs s f L⟩))) := by
        unfold st_law_14
        simp [e0.e3, hu, tn]
      rw [e]; exact W_pure.mpr ⟨_, rfl, rfl, rfl⟩
    rintro _ _ ⟨rfl, rfl⟩
    refine W_seqN (fun ρ' p => ρ' = (ρ.upd 6 (dSt ⟨f, badHs s f L⟩)).upd 7 (.lst []) ∧ p = some ps) ?_ ?_
    · have e : st_law_16 ns (ρ.upd 6 (dSt ⟨f, badHs s f L⟩)) = M.pure (.nx ((ρ.upd 6 (dSt ⟨f, badHs s f L⟩)).upd 7 (.lst []))) := by
        unfold st_law_16
        simp
      rw [e]; exact W_pure.mpr ⟨_, rfl, rfl, rfl⟩
    rintro _ _ ⟨rfl, rfl⟩
    obtain ⟨r, F, ep, el⟩ := two_ok (lim := lim) (hs := badHs s f L) (OkSt.okH okx) (by show 2 ≤ 1000; decide)
    have hr := X.bad_first hu F
    subst hr
    have rr := lright_ok (s := s) (f := f) (L := L) (g := f) f0 (OkSt.okH okx) (by show 2 ≤ 1000; decide)
    have jj := judge_ok (s := s) (f := f) (L := L) (lim := lim) (g := f) f0 (OkSt.okH okx) ep
    rw [X.bad_right] at rr jj
    refine W_seqN (fun ρ' p => E0 ρ' s f L lim ∧ ρ' 7 = some (.lst ([(⟨f, badHs s f L⟩ : St)].map dSt)) ∧ p = some ps) ?_ ?_
    · have Y : DatO s f (n * L) (n * lim) := ⟨X.s0, X.sf', Rat.mul_pos n0 X.L0, Rat.mul_pos n0 X.l0⟩
      have zL : Sz 1000 (n * L) := (Sz.mul (h := zn) (k := X.sL)).mono (by decide)
      have zl : Sz 1000 (n * lim) := (Sz.mul (h := zn) (k := X.sl)).mono (by decide)
      have zLf : Sz 1000 (n * L / f) := (Sz.div (h := Sz.mul (h := zn) (k := X.sL)) (k := X.sf)).mono (by decide)
      have hu2 : n * L * s < n * lim * f := (X.scaleL n0).mpr hu
      have okw : ∀ h ∈ badHs s f (n * L), OkH h := fun h hh => by
        simp only [badHs, List.mem_cons, List.not_mem_nil, or_false] at hh
        rcases hh with rfl | rfl
        · exact ⟨hs, z0, z0, X.s0⟩
        · exact ⟨hs, zLf, zLf, X.s0⟩
      obtain ⟨r2, F2, ep2, _⟩ := two_ok (lim := n * lim) (hs := badHs s f (n * L)) okw (by show 2 ≤ 1000; decide)
      have hr2 := Y.bad_first hu2 F2
      subst hr2
      have j2 := judge_ok (s := s) (f := f) (L := n * L) (lim := n * lim) (g := f) f0 okw ep2
      rw [Y.bad_right] at j2
      have e0' : E0 (((((ρ.upd 6 (dSt ⟨f, badHs s f L⟩)).upd 7 (.lst [])).upd 8 (fr f)).upd 18 (.lst ((badHs s f L).map hol))).upd 7 (.lst [dSt ⟨f, badHs s f L⟩])) s f L lim := ((((e0.upd (by decide)).upd (by decide)).upd (by decide)).upd (by decide)).upd (by decide)
      have ne1 : dNe (dPair (some (0, 1))) (.tup [.int 0, .int 1]) = some (.bl false) := rfl
      have lw : lcGo (lcTurn (gT (gsCons (gN 23) (gsCons (gN 19) (gsCons (gN 20) gsNil)))) tYesS (eTup (aCons (eVar 23) (aCons (eCall F__law_mul (aCons (eVar 5) (aCons (eVar 19) aNil))) (aCons (eCall F__law_mul (aCons (eVar 5) (aCons (eVar 20) aNil))) aNil)))) ((((((ρ.upd 6 (dSt ⟨f, badHs s f L⟩)).upd 7 (.lst [])).upd 8 (fr f)).upd 18 (.lst ((badHs s f L).map hol))).upd 7 (.lst [dSt ⟨f, badHs s f L⟩])).wipe [23, 19, 20])) ((badHs s f L).map hol) = M.pure ((badHs s f (n * L)).map hol) := by
        rw [lc_mapped' (f := fun h => hol ⟨h.r, n * h.a, n * h.g⟩) (fun h hh => by
          have := (okb h hh).2.1; have := (okb h hh).2.2.1
          have e : hol h = .tup [fr h.r, fr h.a, fr h.g] := rfl
          simp [e, e5, lmul_ok, hol])]
        congr 1
        have m0 : n * 0 = 0 := by grind
        have m1 : n * (L / f) = n * L / f := by grind
        simp [badHs, m0, m1]
      have bx : ∀ xs : List D, D.isBox (.lst xs) = true := fun _ => rfl
      have e17 : st_law_17 ns ((ρ.upd 6 (dSt ⟨f, badHs s f L⟩)).upd 7 (.lst [])) = M.pure (.nx ((((((ρ.upd 6 (dSt ⟨f, badHs s f L⟩)).upd 7 (.lst [])).upd 8 (fr f)).upd 18 (.lst ((badHs s f L).map hol))).upd 7 (.lst [dSt ⟨f, badHs s f L⟩])).upd 16 (.lst ((badHs s f (n * L)).map hol)))) := by
        have d18 : st_law_18 ns ((ρ.upd 6 (dSt ⟨f, badHs s f L⟩)).upd 7 (.lst [])) = M.pure (.nx ((((ρ.upd 6 (dSt ⟨f, badHs s f L⟩)).upd 7 (.lst [])).upd 8 (fr f)).upd 18 (.lst ((badHs s f L).map hol)))) := by
          unfold st_law_18
          simp [dSt]
        have d19 : st_law_19 ns ((((ρ.upd 6 (dSt ⟨f, badHs s f L⟩)).upd 7 (.lst [])).upd 8 (fr f)).upd 18 (.lst ((badHs s f L).map hol))) = M.pure (.nx ((((ρ.upd 6 (dSt ⟨f, badHs s f L⟩)).upd 7 (.lst [])).upd 8 (fr f)).upd 18 (.lst ((badHs s f L).map hol)))) := by
          have l2 : (badHs s f L).length = 2 := rfl
          unfold st_law_19
          simp [e0.e12, e0.e13, e0.e14, e0.e15, l2, rr, jj, el, ne1]
        have d21 : st_law_21 ns ((((ρ.upd 6 (dSt ⟨f, badHs s f L⟩)).upd 7 (.lst [])).upd 8 (fr f)).upd 18 (.lst ((badHs s f L).map hol))) = M.pure (.nx (((((ρ.upd 6 (dSt ⟨f, badHs s f L⟩)).upd 7 (.lst [])).upd 8 (fr f)).upd 18 (.lst ((badHs s f L).map hol))).upd 7 (.lst [dSt ⟨f, badHs s f L⟩]))) := by
          unfold st_law_21
          simp [dSt]
        have d22 : st_law_22 ns (((((ρ.upd 6 (dSt ⟨f, badHs s f L⟩)).upd 7 (.lst [])).upd 8 (fr f)).upd 18 (.lst ((badHs s f L).map hol))).upd 7 (.lst [dSt ⟨f, badHs s f L⟩])) = M.pure (.nx ((((((ρ.upd 6 (dSt ⟨f, badHs s f L⟩)).upd 7 (.lst [])).upd 8 (fr f)).upd 18 (.lst ((badHs s f L).map hol))).upd 7 (.lst [dSt ⟨f, badHs s f L⟩])).upd 16 (.lst ((badHs s f (n * L)).map hol)))) := by
          unfold st_law_22
          simp only [sSetO_r, eLc_r, itemsOf_r, eVar_r, upd_r, Nat.reduceEqDiff, if_false, if_true, M.lift_some', M.pure_bind, lw, bx]
          rfl
        have d23 : st_law_23 ns ((((((ρ.upd 6 (dSt ⟨f, badHs s f L⟩)).upd 7 (.lst [])).upd 8 (fr f)).upd 18 (.lst ((badHs s f L).map hol))).upd 7 (.lst [dSt ⟨f, badHs s f L⟩])).upd 16 (.lst ((badHs s f (n * L)).map hol))) = M.pure (.nx ((((((ρ.upd 6 (dSt ⟨f, badHs s f L⟩)).upd 7 (.lst [])).upd 8 (fr f)).upd 18 (.lst ((badHs s f L).map hol))).upd 7 (.lst [dSt ⟨f, badHs s f L⟩])).upd 16 (.lst ((badHs s f (n * L)).map hol)))) := by
          unfold st_law_23
          simp [e0.e12, e0.e13, e0.e14, e0.e15, e5, lmul_ok, j2]
        unfold st_law_17
        simp only [sIf_r, tOf_r, eOp_r, eVar_r, eC_r, upd_r, Nat.reduceEqDiff, if_false, if_true, M.lift_some', M.pure_bind, tn2, asB_r, sSeq_r, d18, d19, d21, d22, d23, sThen_nx]
      rw [e17]
      exact W_pure.mpr ⟨_, rfl, e0'.upd (by decide), by simp, rfl⟩
    rintro ρ1 p1 ⟨E1, e7, rfl⟩
    exact q ρ1 [⟨f, badHs s f L⟩] E1 e7 (fun x hx => by simp at hx; subst hx; exact okx) (by simp)
  · have e13 : st_law_13 ns ρ = M.pure (.nx (ρ.upd 6 .non)) := by
      unfold st_law_13
      simp [e0.e12, e0.e13, e0.e14, e0.e15, bad_ok f0, hu]
    refine W_seqN (fun ρ' p => ρ' = ρ.upd 6 .non ∧ p = some ps) (by rw [e13]; exact W_pure.mpr ⟨_, rfl, rfl, rfl⟩) ?_
    rintro _ _ ⟨rfl, rfl⟩
    refine W_seqN (fun ρ' p => ρ' = ρ.upd 6 .non ∧ p = some ps) ?_ ?_
    · have e : st_law_14 ns (ρ.upd 6 .non) = M.pure (.nx (ρ.upd 6 .non)) := by
        unfold st_law_14
        simp [e0.e3, hu]
      rw [e]; exact W_pure.mpr ⟨_, rfl, rfl, rfl⟩
    rintro _ _ ⟨rfl, rfl⟩
    refine W_seqN (fun ρ' p => ρ' = (ρ.upd 6 .non).upd 7 (.lst []) ∧ p = some ps) ?_ ?_
    · have e : st_law_16 ns (ρ.upd 6 .non) = M.pure (.nx ((ρ.upd 6 .non).upd 7 (.lst []))) := by
        unfold st_law_16
        simp
      rw [e]; exact W_pure.mpr ⟨_, rfl, rfl, rfl⟩
    rintro _ _ ⟨rfl, rfl⟩
    refine W_seqN (fun ρ' p => ρ' = (ρ.upd 6 .non).upd 7 (.lst []) ∧ p = some ps) ?_ ?_
    · have e : st_law_17 ns ((ρ.upd 6 .non).upd 7 (.lst [])) = M.pure (.nx ((ρ.upd 6 .non).upd 7 (.lst []))) := by
        unfold st_law_17
        simp
      rw [e]; exact W_pure.mpr ⟨_, rfl, rfl, rfl⟩
    rintro _ _ ⟨rfl, rfl⟩
    exact q _ [] ((e0.upd (by decide)).upd (by decide)) (by simp) (fun x hx => by cases hx) (by simp)
end
end G

/-! law k20: the drawn story; the judging of all stories; the plain law -/
namespace G
open PySem PySem.Spec PyProof.Rows L2 Lf Pre Pu

theorem pick2 {ns : List Int} (hS : Script ns) {c : Nat} {ps : Ps} (P : PoolOk c ps) (hc : c < 2 ^ 50) {a b : Rat} {Q : D → Pl → Prop}
    (q : ∀ x ps', x = a ∨ x = b → PoolOk (c + 1) ps' → Q (fr x) (some ps')) : W (F__law_pick ns [.pool, .lst [fr a, fr b]]) (some ps) Q :=
  pick_ok hS P (by omega) (by simp) (by simp) fun d ps' hd P' => by
    simp only [List.mem_cons, List.not_mem_nil, or_false] at hd
    rcases hd with rfl | rfl
    · exact q a ps' (.inl rfl) P'
    · exact q b ps' (.inr rfl) P'
theorem pick3 {ns : List Int} (hS : Script ns) {c : Nat} {ps : Ps} (P : PoolOk c ps) (hc : c < 2 ^ 50) {a b d : Rat} (ha : Sz 5 a) (hb : Sz 5 b) (hd : Sz 5 d) {Q : D → Pl → Prop}
    (q : ∀ x ps', Sz 5 x → PoolOk (c + 1) ps' → Q (fr x) (some ps')) : W (F__law_pick ns [.pool, .lst [fr a, fr b, fr d]]) (some ps) Q :=
  pick_ok hS P (by omega) (by simp) (by simp) fun x ps' hx P' => by
    simp only [List.mem_cons, List.not_mem_nil, or_false] at hx
    rcases hx with rfl | rfl | rfl
    · exact q a ps' ha P'
    · exact q b ps' hb P'
    · exact q d ps' hd P'
theorem z0_ : Sz 5 (0 : Rat) := Sz.lit.mono (by decide)
theorem z1_ : Sz 5 (1 : Rat) := Sz.lit.mono (by decide)
theorem z2_ : Sz 5 (2 : Rat) := Sz.lit.mono (by decide)
theorem z12 : Sz 5 (1 / 2 : Rat) := (Sz.div (h := Sz.lit) (k := Sz.lit)).mono (by decide)
theorem z13 : Sz 5 (1 / 3 : Rat) := (Sz.div (h := Sz.lit) (k := Sz.lit)).mono (by decide)

/-- the drawn story so far -/
structure Dr (ρ : Rho) (s f L lim g : Rat) (xs : List St) (k : Nat) : Prop where
  e0 : E0 ρ s f L lim
  e7 : ρ 7 = some (.lst (xs.map dSt))
  e8 : ρ 8 = some (fr g)
  e17 : ∃ t, ρ 17 = some (fr t) ∧ Sz (10 + 200 * k) t
  e18 : ∃ hs : List Ho, ρ 18 = some (.lst (hs.map hol)) ∧ hs.length = k ∧ ∀ h ∈ hs, Sz 900 h.r ∧ Sz 1000 h.a ∧ Sz 1000 h.g ∧ 0 < h.r
section
variable {ns : List Int} (hS : Script ns) {c : Nat} {ps : Ps} {ρ : Rho} {k : Rho → M Fl} {Q : Fl → Pl → Prop}
include hS
theorem turnD (P : PoolOk c ps) (hc : c < 2 ^ 45) {s f L lim g : Rat} (X : Dat s f L lim) (hg : g = s ∨ g = f) {xs : List St} {j : Nat} (hj : j < 3) (R : Dr ρ s f L lim g xs j) {d : D}
    (q : ∀ ρ' ps', Dr ρ' s f L lim g xs (j + 1) → PoolOk (c + 4) ps' → Q (.nx ρ') (some ps')) : W (sSeq (st_law_29 ns) (sSeq (st_law_30 ns) (sSeq (st_law_31 ns) (st_law_32 ns))) (ρ.upd 9 d)) (some ps) Q := by
  obtain ⟨t, et, zt⟩ := R.e17
  obtain ⟨hs, eh, lh, oh⟩ := R.e18
  have zg : Sz 40 g := by rcases hg with rfl | rfl; exact X.ss; exact X.sf
  have g0 : g ≠ 0 := by have := X.s0; have := X.f0; rcases hg with rfl | rfl <;> grind
  have eps := R.e0
  refine W_seqN (fun ρ' p => ∃ x ps', ρ' = (ρ.upd 9 d).upd 19 (fr (t + x)) ∧ p = some ps' ∧ PoolOk (c + 1) ps' ∧ Sz 5 x) ?_ ?_
  · unfold st_law_29
    simp only [sSet_r, eCall_r, aCons_r, eVar_r, eC_r, upd_r, Nat.reduceEqDiff, if_false, if_true, et, eps.e1, M.lift_some', M.pure_bind, aNil_r, eLst_r, eTup_r, List.length_cons, List.length_nil, Nat.reduceAdd, Nat.reduceLeDiff, fr0_, fr12, fr2_, M.bind_assoc]
    refine W_bind.mpr (pick3 hS P (by omega) z0_ z12 z2_ fun x ps' zx P' => ?_)
    rw [ladd_ok (by omega), M.pure_bind]
    exact W_pure.mpr ⟨_, rfl, x, ps', rfl, rfl, P', zx⟩
  rintro ρ1 p1 ⟨x, ps1, rfl, rfl, P1, zx⟩
  have za : Sz (10 + 200 * j + 5 + 1) (t + x) := inferInstance
  refine W_seqN (fun ρ' p => ∃ y ps', ρ' = ((ρ.upd 9 d).upd 19 (fr (t + x))).upd 20 (fr (t + x + y)) ∧ p = some ps' ∧ PoolOk (c + 2) ps' ∧ Sz 5 y) ?_ ?_
  · unfold st_law_30
    simp only [sSet_r, eCall_r, aCons_r, eVar_r, eC_r, upd_r, Nat.reduceEqDiff, if_false, if_true, eps.e1, M.lift_some', M.pure_bind, aNil_r, eLst_r, eTup_r, List.length_cons, List.length_nil, Nat.reduceAdd, Nat.reduceLeDiff, fr0_, fr13, fr1_, M.bind_assoc]
    refine W_bind.mpr (pick3 hS P1 (by omega) z0_ z13 z1_ fun y ps' zy P' => ?_)
    rw [ladd_ok (by omega), M.pure_bind]
    exact W_pure.mpr ⟨_, rfl, y, ps', rfl, rfl, P', zy⟩
  rintro ρ2 p2 ⟨y, ps2, rfl, rfl, P2, zy⟩
  have zb : Sz (10 + 200 * j + 5 + 1 + 5 + 1) (t + x + y) := inferInstance
  refine W_seqN (fun ρ' p => ∃ r ps', ρ' = (((ρ.upd 9 d).upd 19 (fr (t + x))).upd 20 (fr (t + x + y))).upd 18 (.lst ((hs ++ [(⟨r, t + x, t + x + y⟩ : Ho)]).map hol)) ∧ p = some ps' ∧ PoolOk (c + 3) ps' ∧ (r = s ∨ r = f)) ?_ ?_
  · unfold st_law_31
    simp only [sMeth_r, eCall_r, aCons_r, eVar_r, eC_r, upd_r, Nat.reduceEqDiff, if_false, if_true, eps.e1, eps.e12, eps.e13, M.lift_some', M.pure_bind, aNil_r, eLst_r, eTup_r, List.length_cons, List.length_nil, Nat.reduceAdd, Nat.reduceLeDiff, M.bind_assoc]
    refine W_bind.mpr (pick2 hS P2 (by omega) fun r ps' hr P' => ?_)
    simp only [M.pure_bind, List.length_cons, List.length_nil, Nat.reduceAdd, Nat.reduceLeDiff, if_true, eh, M.lift_some', app_l, List.length_map]
    rw [if_pos (by omega), M.lift_some', M.pure_bind]
    exact W_pure.mpr ⟨_, rfl, r, ps', by rw [List.map_append]; rfl, rfl, P', hr⟩
  rintro ρ3 p3 ⟨r, ps3, rfl, rfl, P3, hr⟩
  have zr : Sz 40 r := by rcases hr with rfl | rfl; exact X.ss; exact X.sf
  have r0 : 0 < r := by have := X.s0; have := X.f0; rcases hr with rfl | rfl <;> grind
  have zL := X.sL
  unfold st_law_32
  simp only [sSet_r, eCall_r, aCons_r, eVar_r, eC_r, upd_r, Nat.reduceEqDiff, if_false, if_true, eps.e1, eps.e14, R.e8, M.lift_some', M.pure_bind, aNil_r, eLst_r, eTup_r, List.length_cons, List.length_nil, Nat.reduceAdd, Nat.reduceLeDiff, fr12, fr1_, M.bind_assoc]
  refine W_bind.mpr (pick3 hS P3 (by omega) z1_ z1_ z12 fun w ps' zw P' => ?_)
  have zm : Sz (5 + (40 + 40)) (w * (L / g)) := inferInstance
  simp only [ldiv_ok g0 (by omega : 40 + 40 < 8900), M.pure_bind, lmul_ok (by omega : 5 + (40 + 40) < 8900)]
  rw [ladd_ok (by omega), M.pure_bind]
  refine W_pure.mpr (q _ ps' ⟨?_, ?_, ?_, ⟨t + x + y + w * (L / g), by simp, (inferInstance : Sz (10 + 200 * j + 5 + 1 + 5 + 1 + (5 + (40 + 40)) + 1) _).mono (by omega)⟩, ⟨hs ++ [(⟨r, t + x, t + x + y⟩ : Ho)], by simp, by simp [lh], fun h hh => ?_⟩⟩ P')
  · exact ((((eps.upd (by decide)).upd (by decide)).upd (by decide)).upd (by decide)).upd (by decide)
  · simpa using R.e7
  · simpa using R.e8
  · rcases List.mem_append.mp hh with hh | hh
    · exact oh h hh
    · simp at hh
      subst hh
      exact ⟨zr.mono (by decide), za.mono (by omega), zb.mono (by omega), r0⟩
theorem blockD (P : PoolOk c ps) (hc : c < 2 ^ 40) {s f L lim : Rat} (X : Dat s f L lim) (e0 : E0 ρ s f L lim) {xs : List St} (e7 : ρ 7 = some (.lst (xs.map dSt))) (ox : ∀ x ∈ xs, OkSt x) (lx : xs.length ≤ 1)
    (q : ∀ ρ' (xs : List St) ps', E0 ρ' s f L lim → ρ' 7 = some (.lst (xs.map dSt)) → (∀ x ∈ xs, OkSt x) → xs.length ≤ 2 → PoolOk (c + 20) ps' → W (k ρ') (some ps') Q) :
    W (sSeq (st_law_25 ns) (sSeq (st_law_26 ns) (sSeq (st_law_27 ns) (sSeq (st_law_28 ns) (sSeq (st_law_33 ns) k)))) ρ) (some ps) Q := by
  refine W_seqN (fun ρ' p => ρ' = ρ ∧ ∃ ps', p = some ps' ∧ PoolOk (c + 1) ps') ?_ ?_
  · unfold st_law_25
    simp only [sExpr_r, eCall_r, aCons_r, eVar_r, e0.e1, M.lift_some', M.pure_bind, aNil_r]
    exact W_bind.mpr (next_ok hS P (by omega) fun ps1 P1 => W_pure.mpr ⟨_, rfl, rfl, _, rfl, P1⟩)
  rintro ρz p1 ⟨rfl, ps1, rfl, P1⟩
  refine W_seqN (fun ρ' p => ρ' = (ρz.upd 17 (fr 0)).upd 18 (.lst []) ∧ p = some ps1) ?_ ?_
  · have e : st_law_26 ns ρz = M.pure (.nx ((ρz.upd 17 (fr 0)).upd 18 (.lst []))) := by
      unfold st_law_26
      simp [fr0_]
    rw [e]; exact W_pure.mpr ⟨_, rfl, rfl, rfl⟩
  rintro _ _ ⟨rfl, rfl⟩
  refine W_seqN (fun ρ' p => ∃ g ps', ρ' = ((ρz.upd 17 (fr 0)).upd 18 (.lst [])).upd 8 (fr g) ∧ (g = s ∨ g = f) ∧ p = some ps' ∧ PoolOk (c + 2) ps') ?_ ?_
  · unfold st_law_27
    simp only [sSet_r, eCall_r, aCons_r, eVar_r, eC_r, upd_r, Nat.reduceEqDiff, if_false, if_true, e0.e1, e0.e12, e0.e13, M.lift_some', M.pure_bind, aNil_r, eLst_r, List.length_cons, List.length_nil, Nat.reduceAdd, Nat.reduceLeDiff]
    exact W_bind.mpr (pick2 hS P1 (by omega) fun g ps' hg P' => W_pure.mpr ⟨_, rfl, g, ps', rfl, hg, rfl, P'⟩)
  rintro _ _ ⟨g, ps2, rfl, hg, rfl, P2⟩
  have R0 : Dr (((ρz.upd 17 (fr 0)).upd 18 (.lst [])).upd 8 (fr g)) s f L lim g xs 0 := ⟨((e0.upd (by decide)).upd (by decide)).upd (by decide), by simpa using e7, by simp, ⟨0, by simp, z0_.mono (by decide)⟩, ⟨[], by simp, rfl, fun h hh => by cases hh⟩⟩
  refine W_seqN (fun ρ' p => ∃ n ps', n ≤ 3 ∧ Dr ρ' s f L lim g xs n ∧ p = some ps' ∧ PoolOk (c + 19) ps') ?_ ?_
  · unfold st_law_28
    generalize (((ρz.upd 17 (fr 0)).upd 18 (.lst [])).upd 8 (fr g)) = ρ0 at R0
    simp only [sFor_r, rng1_r, aCons_r, eOp_r, eC_r, eCall_r, eVar_r, R0.e0.e1, M.lift_some', M.pure_bind, aNil_r, M.bind_assoc]
    refine W_bind.mpr (draw_ok hS P2 (by omega) (hb := bd_of (n := 5) (by decide) (by decide)) (by decide) (by decide) fun v ps3 v0 v1 P3 => ?_)
    simp only [add_i, M.lift_some', M.pure_bind]
    rw [if_pos (by unfold smallB; simp; omega), M.pure_bind]
    refine W_for (fun k ρ p => ∃ ps', p = some ps' ∧ PoolOk (c + 3 + 4 * k) ps' ∧ Dr ρ s f L lim g xs k) ⟨ps3, rfl, P3, R0⟩ ?_ ?_
    · rintro j d ρ1 _ hd ⟨ps4, rfl, P4, R4⟩
      obtain ⟨hj, rfl⟩ := range_get hd
      simp only [gN_r, M.lift_some', M.pure_bind]
      exact turnD hS P4 (by omega) X hg (by omega) R4 fun ρ5 ps5 R5 P5 => ⟨ps5, rfl, P5.mono (by omega), R5⟩
    · rintro ρ1 _ ⟨ps4, rfl, P4, R4⟩
      rw [rangeL_length] at P4 R4
      exact ⟨ρ1, rfl, _, ps4, by omega, R4, rfl, P4.mono (by omega)⟩
  rintro ρ3 _ ⟨n, ps3, hn, R3, rfl, P3⟩
  obtain ⟨hs, eh, lh, oh⟩ := R3.e18
  refine W_seqN (fun ρ' p => ρ' = ρ3.upd 7 (.lst ((xs ++ [(⟨g, hs⟩ : St)]).map dSt)) ∧ p = some ps3) ?_ ?_
  · have e : st_law_33 ns ρ3 = M.pure (.nx (ρ3.upd 7 (.lst ((xs ++ [(⟨g, hs⟩ : St)]).map dSt)))) := by
      have hl : xs.length < 16777216 := by omega
      unfold st_law_33
      simp [R3.e8, eh, R3.e7, hl, dSt]
    rw [e]; exact W_pure.mpr ⟨_, rfl, rfl, rfl⟩
  rintro _ _ ⟨rfl, rfl⟩
  have zg : Sz 40 g := by rcases hg with rfl | rfl; exact X.ss; exact X.sf
  have g0 : 0 < g := by have := X.s0; have := X.f0; rcases hg with rfl | rfl <;> grind
  refine q _ (xs ++ [(⟨g, hs⟩ : St)]) ps3 (R3.e0.upd (by decide)) (by simp) (fun x hx => ?_) (by simp; omega) (P3.mono (by omega))
  rcases List.mem_append.mp hx with hx | hx
  · exact ox x hx
  · simp at hx
    subst hx
    exact ⟨zg.mono (by decide), g0, oh, by show hs.length ≤ 10; omega⟩
end
end G

/-! law k20: the judging of all stories; the plain law -/
namespace G
open PySem PySem.Spec PyProof.Rows L2 Lf Pre Pu

/-- where a row is judged -/
structure E1 (ρ : Rho) (s f L lim g : Rat) (row : List Ho) : Prop where
  e0 : E0 ρ s f L lim
  e8 : ρ 8 = some (fr g)
  e21 : ρ 21 = some (.lst (row.map hol))
theorem row_ok {ns : List Int} {p : Pl} {ρ : Rho} {s f L lim g : Rat} {row : List Ho} (X : Dat s f L lim) (zg : Sz 1000 g) (g0 : 0 < g) (ok : ∀ h ∈ row, OkH h) (hl : row.length ≤ 100) (E : E1 ρ s f L lim g row)
    {Q : Fl → Pl → Prop} (q : ∀ ρ', E1 ρ' s f L lim g row → (∀ i, i ≠ 22 → ρ' i = ρ i) → Q (.nx ρ') p) : W (sSeq (st_law_36 ns) (st_law_38 ns) ρ) p Q := by
  have hs : Sz 1000 s := X.ss.mono (by decide)
  have hf : Sz 1000 f := X.sf.mono (by decide)
  have hL : Sz 1000 L := X.sL.mono (by decide)
  have hlm : Sz 1000 lim := X.sl.mono (by decide)
  have gz : g ≠ 0 := by grind
  have r1 := right_ok (s := s) (f := f) (L := L) (g := g) gz ok
  have r2 := lright_ok (s := s) (f := f) (L := L) (g := g) gz ok (by omega)
  obtain ⟨r, F, t1, t2⟩ := two_ok (lim := lim) ok (by omega)
  have j1 := judge_ok (s := s) (f := f) (L := L) (lim := lim) (g := g) gz ok t1
  have sb : ∀ b : Bool, F__law_same 16 [.bl b, .bl b] = M.pure (.bl true) := fun b => same_ok 16 _ rfl
  have sp : ∀ r : Option (Nat × Nat), F__law_same 16 [dPair r, dPair r] = M.pure (.bl true) := fun r => same_ok 16 _ (by cases r <;> rfl)
  have sl : ∀ o : Option (Rat × Rat), F__law_same 16 [dBel o, dBel o] = M.pure (.bl true) := fun o => same_ok 16 _ (by cases o <;> rfl)
  have nn : dNotN (dPair r) .non = some (.bl r.isSome) := by cases r <;> rfl
  refine W_seqN (fun ρ' p' => ρ' = ρ ∧ p' = p) ?_ ?_
  · have e : st_law_36 ns ρ = M.pure (.nx ρ) := by
      unfold st_law_36
      simp [E.e0.e12, E.e0.e13, E.e0.e14, E.e8, E.e21, r1, r2, sb]
    rw [e]; exact W_pure.mpr ⟨_, rfl, rfl, rfl⟩
  rintro ρ0 _ ⟨rfl, rfl⟩
  have flt : lcGo (lcTurn (gN 10) (tTru (eCall F__law_less (aCons (eOp dIxA (eVar 10) (eC (.int 2))) (aCons (eOp dIxA (eVar 10) (eC (.int 1))) aNil)))) (eVar 10) (ρ0.wipe [10])) (row.map hol) = M.pure (row.filterMap fun h => if h.g < h.a then some (hol h) else none) := by
    refine lc_mapped fun h hh => ?_
    have := (ok h hh).a; have := (ok h hh).g
    by_cases hga : h.g < h.a <;> simp [lless_ok, hga]
  have lm : (row.map hol).length ≤ 16777216 := by rw [List.length_map]; omega
  unfold st_law_38
  simp only [sIf_r, tOf_r, eOp_r, eCallB_r, aCons_r, aNil_r, eLc_r, itemsOf_r, eVar_r, E.e21, M.lift_some', M.pure_bind, lm, if_true, flt, len_l, eC_r, eq_i, asB_r]
  by_cases hb : ((row.filterMap fun h => if h.g < h.a then some (hol h) else none).length : Int) = 0
  · rw [if_pos (by simpa using hb)]
    have loop := for_check (t := gN 22) (d := .bl false) (test := tNotS (tTru (eCall (F__law_same 16) (aCons (eCall F_belief (aCons (eVar 15) (aCons (eVar 22) aNil))) (aCons (eCall F__law_belief_of (aCons (eVar 15) (aCons (eVar 22) aNil))) aNil)))))
      (fun ρ' => E1 ρ' s f L lim g row ∧ ∀ i, i ≠ 22 → ρ' i = ρ0 i) (xs := row.map hol) (bad := fun _ => false) (ρ := ρ0) (fun k x ρ1 hx ⟨I1, I2⟩ => by
        rw [List.getElem?_map] at hx
        obtain ⟨h, eh, rfl⟩ := Option.map_eq_some_iff.mp hx
        have oh := ok h (List.mem_of_getElem? eh)
        refine ⟨_, rfl, ⟨⟨I1.e0.upd (by decide), by simpa using I1.e8, by simpa using I1.e21⟩, fun i hi => by rw [upd_r, if_neg hi]; exact I2 i hi⟩, ?_⟩
        simp [I1.e0.e15, bel_ok oh, lbel_ok oh, sl]) ⟨E, fun _ _ => rfl⟩
    rcases loop with ⟨⟨k, _, hk⟩, _⟩ | ⟨_, ρ1, ⟨I1, I2⟩, e39⟩
    · cases hk
    have d39 : st_law_39 ns ρ0 = M.pure (.nx ρ1) := by
      unfold st_law_39 st_law_40
      simp only [sFor_r, itemsOf_r, eVar_r, E.e21, M.lift_some', M.pure_bind, e39]
    have d42 : st_law_42 ns ρ1 = M.pure (.nx ρ1) := by
      unfold st_law_42
      simp [I1.e0.e15, I1.e21, t1, t2, sp]
    have d44 : st_law_44 ns ρ1 = M.pure (.nx ρ1) := by
      unfold st_law_44
      cases hr : right s f L g row with
      | true => simp [I1.e0.e12, I1.e0.e13, I1.e0.e14, I1.e0.e15, I1.e8, I1.e21, j1, r2, t2, nn, sb, hr]
      | false => simp [I1.e0.e12, I1.e0.e13, I1.e0.e14, I1.e0.e15, I1.e8, I1.e21, j1, r2, t2, nn, sb, hr]
    have d46 : st_law_46 ns ρ1 = M.pure (.nx ρ1) := by
      unfold st_law_46
      by_cases hu : L * s < lim * f
      · simp [I1.e0.e3, hu]
      · have : (right s f L g row && r.isSome) = false := by
          cases hr : right s f L g row with
          | false => rfl
          | true => rw [X.none_of hu hr F]; rfl
        simp [I1.e0.e12, I1.e0.e13, I1.e0.e14, I1.e0.e15, I1.e0.e3, I1.e8, I1.e21, hu, j1, this]
    simp only [sSeq_r, d39, d42, d44, d46, M.pure_bind, sThen_nx, W_pure]
    exact q ρ1 I1 I2
  · rw [if_neg (by simpa using hb)]
    exact W_pure.mpr (q ρ0 E fun _ _ => rfl)
theorem rows_ok {ns : List Int} {p : Pl} {ρ : Rho} {s f L lim : Rat} (X : Dat s f L lim) (E : E0 ρ s f L lim) {x : St} (ox : OkSt x) (e8 : ρ 8 = some (fr x.g)) (e18 : ρ 18 = some (.lst (x.hs.map hol)))
    {Q : Fl → Pl → Prop} (q : ∀ ρ', E0 ρ' s f L lim → Q (.nx ρ') p) : W (st_law_35 ns ρ) p Q := by
  have lm : (x.hs.map hol).length ≤ 16777216 := by have := ox.len; rw [List.length_map]; omega
  have l4 : lcGo (lcTurn (gT (gsCons (gN 23) (gsCons (gN 19) (gsCons (gN 20) gsNil)))) tYesS (eTup (aCons (eVar 23) (aCons (eVar 20) (aCons (eVar 19) aNil)))) (ρ.wipe [23, 19, 20])) (x.hs.map hol) = M.pure ((x.hs.map fun h => (⟨h.r, h.g, h.a⟩ : Ho)).map hol) := by
    rw [lc_mapped' (f := fun h => hol ⟨h.r, h.g, h.a⟩) (fun h hh => by
      have e : hol h = .tup [fr h.r, fr h.a, fr h.g] := rfl
      simp [e, hol])]
    rw [List.map_map]; rfl
  have l5 : lcGo (lcTurn (gT (gsCons (gN 23) (gsCons (gN 19) (gsCons (gN 20) gsNil)))) tYesS (eTup (aCons (eCall F__law_mul (aCons (eTup (aCons (eC (.int 2)) (aCons (eC (.int 1)) aNil))) (aCons (eVar 23) aNil))) (aCons (eVar 19) (aCons (eVar 20) aNil)))) (ρ.wipe [23, 19, 20])) (x.hs.map hol) = M.pure ((x.hs.map fun h => (⟨2 * h.r, h.a, h.g⟩ : Ho)).map hol) := by
    rw [lc_mapped' (f := fun h => hol ⟨2 * h.r, h.a, h.g⟩) (fun h hh => by
      have e : hol h = .tup [fr h.r, fr h.a, fr h.g] := rfl
      have := (ox.ok h hh).1
      have := z2_
      simp [e, hol, fr2_, lmul_ok])]
    rw [List.map_map]; rfl
  have okH := ox.okH
  have len := ox.len
  have rows : ∀ row ∈ [x.hs, x.hs.reverse, x.hs.take 1 ++ x.hs, x.hs.map (fun h => (⟨h.r, h.g, h.a⟩ : Ho)), x.hs.map (fun h => (⟨2 * h.r, h.a, h.g⟩ : Ho))], (∀ h ∈ row, OkH h) ∧ row.length ≤ 100 := fun row hr => by
    simp only [List.mem_cons, List.not_mem_nil, or_false] at hr
    rcases hr with rfl | rfl | rfl | rfl | rfl
    · exact ⟨okH, by omega⟩
    · exact ⟨fun h hh => okH h (by simpa using hh), by simp; omega⟩
    · refine ⟨fun h hh => ?_, by simp; omega⟩
      rcases List.mem_append.mp hh with hh | hh
      · exact okH h (List.mem_of_mem_take hh)
      · exact okH h hh
    · refine ⟨fun h hh => ?_, by simp; omega⟩
      obtain ⟨y, hy, rfl⟩ := List.mem_map.mp hh
      have := okH y hy
      exact ⟨this.r, this.g, this.a, this.pos⟩
    · refine ⟨fun h hh => ?_, by simp; omega⟩
      obtain ⟨y, hy, rfl⟩ := List.mem_map.mp hh
      have := okH y hy
      have z2 := z2_
      have zr := (ox.ok y hy).1
      have := this.pos
      exact ⟨(Sz.mul (h := z2) (k := zr)).mono (by decide), (okH y hy).a, (okH y hy).g, by show 0 < 2 * y.r; grind⟩
  have items : (itemsOf (eLst (aCons (eVar 18) (aCons (eRev (eVar 18)) (aCons (eOp dAdd (eSl (eVar 18) oNone (oSome (eC (.int 1)))) (eVar 18)) (aCons (eLc [23, 19, 20] (gT (gsCons (gN 23) (gsCons (gN 19) (gsCons (gN 20) gsNil)))) (itemsOf (eVar 18)) tYesS (eTup (aCons (eVar 23) (aCons (eVar 20) (aCons (eVar 19) aNil))))) (aCons (eLc [23, 19, 20] (gT (gsCons (gN 23) (gsCons (gN 19) (gsCons (gN 20) gsNil)))) (itemsOf (eVar 18)) tYesS (eTup (aCons (eCall F__law_mul (aCons (eTup (aCons (eC (.int 2)) (aCons (eC (.int 1)) aNil))) (aCons (eVar 23) aNil))) (aCons (eVar 19) (aCons (eVar 20) aNil))))) aNil))))))) ρ =
      M.pure ([x.hs, x.hs.reverse, x.hs.take 1 ++ x.hs, x.hs.map (fun h => (⟨h.r, h.g, h.a⟩ : Ho)), x.hs.map (fun h => (⟨2 * h.r, h.a, h.g⟩ : Ho))].map fun row => D.lst (row.map hol)) := by
    have cut : Lf.cutD (x.hs.map hol) none (some 1) = (x.hs.map hol).take 1 := by
      unfold Lf.cutD
      have e : HT.sIx (x.hs.map hol).length (x.hs.map hol).length (some 1) = min 1 (x.hs.map hol).length := HT.sIx_nat _ _ 1
      rw [HT.sIx_none, e, List.drop_zero, Nat.sub_zero]
      cases x.hs with
      | nil => rfl
      | cons a b => simp
    simp only [itemsOf_r, eLst_r, aCons_r, eVar_r, e18, M.lift_some', M.pure_bind, eRev_r, eOp_r, eSl_r, oNone_r, oSome_r, eC_r, eLc_r, lm, if_true, l4, l5, aNil_r, cut, add_l]
    rw [if_pos (by rw [List.length_take, List.length_map]; omega)]
    simp [List.map_take]
  unfold st_law_35
  simp only [sFor_r]
  rw [items, M.pure_bind]
  refine W_for (fun k ρ' p' => p' = p ∧ E0 ρ' s f L lim ∧ ρ' 8 = some (fr x.g)) ⟨rfl, E, e8⟩ ?_ ?_
  · rintro k d ρ1 p1 hd ⟨rfl, E1', e8'⟩
    rw [List.getElem?_map] at hd
    obtain ⟨row, er, rfl⟩ := Option.map_eq_some_iff.mp hd
    obtain ⟨ok, hl⟩ := rows row (List.mem_of_getElem? er)
    simp only [gN_r, M.lift_some', M.pure_bind]
    refine row_ok X ox.z ox.g0 ok hl ⟨E1'.upd (by decide), by simpa using e8', by simp⟩ fun ρ2 I2 _ => ⟨rfl, I2.e0, I2.e8⟩
  · rintro ρ1 p1 ⟨rfl, E1', _⟩
    exact q ρ1 E1'
theorem stories_ok {ns : List Int} {p : Pl} {ρ : Rho} {s f L lim : Rat} (X : Dat s f L lim) (E : E0 ρ s f L lim) {xs : List St} (ox : ∀ x ∈ xs, OkSt x) (e7 : ρ 7 = some (.lst (xs.map dSt)))
    {Q : Fl → Pl → Prop} (q : ∀ ρ', E0 ρ' s f L lim → Q (.nx ρ') p) : W (st_law_34 ns ρ) p Q := by
  unfold st_law_34
  simp only [sFor_r, itemsOf_r, eVar_r, e7, M.lift_some', M.pure_bind]
  refine W_for (fun k ρ' p' => p' = p ∧ E0 ρ' s f L lim) ⟨rfl, E⟩ ?_ ?_
  · rintro k d ρ1 p1 hd ⟨rfl, E1'⟩
    rw [List.getElem?_map] at hd
    obtain ⟨x, er, rfl⟩ := Option.map_eq_some_iff.mp hd
    simp only [dSt, gT_r, gsCons_r, gN_r, gsNil_r, Option.bind_some, M.lift_some', M.pure_bind]
    exact rows_ok X ((E1'.upd (by decide)).upd (by decide)) (ox x (List.mem_of_getElem? er)) (by simp) (by simp) fun ρ2 I2 => ⟨rfl, I2⟩
  · rintro ρ1 p1 ⟨rfl, E1'⟩
    exact q ρ1 E1'
theorem plain_law : ∀ ns, Script ns → ∃ p', F_law ns [.scr ns] none = some (.bl true, p') := fun ns hS => by
  have main : W (F_law ns [.scr ns]) none fun d _ => d = .bl true := by
    unfold F_law sem_law
    refine W_bind.mpr (W_seqN (fun ρ p => ρ 1 = some .pool ∧ ∃ ps, p = some ps ∧ PoolOk 0 ps) ?_ ?_)
    · unfold st_law_0
      simp only [sSet_r, eCall_r, aCons_r, eVar_r, args0, M.lift_some', M.pure_bind, aNil_r]
      exact W_bind.mpr (pool_ok hS fun ps P => W_pure.mpr ⟨_, rfl, by simp, ps, rfl, P⟩)
    rintro ρ _ ⟨h1, ps, rfl, P⟩
    refine W_seqN (fun _ _ => True) ?_ ?_
    · unfold st_law_1
      simp only [sFor_r, rng1_r, aCons_r, eC_r, aNil_r, M.pure_bind]
      rw [if_pos (by decide), M.pure_bind]
      refine W_for (fun k ρ p => ρ 1 = some .pool ∧ ∃ ps, p = some ps ∧ PoolOk (100 * k) ps) ⟨h1, ps, rfl, P⟩ ?_ ?_
      · rintro k d ρ1 _ hd ⟨h1, ps, rfl, P⟩
        obtain ⟨hk, rfl⟩ := range_get hd
        have hk4 : k < 4 := hk
        simp only [gN_r, M.lift_some', M.pure_bind]
        refine blockA hS P (by omega) (by simpa using h1) fun s f L lim ρ2 ps2 X e0 e4 P2 => ?_
        refine blockB hS P2 (by omega) X e0 e4 fun n ps3 zn n0 P3 => ?_
        refine blockC hS X (e0.upd (by decide)) zn n0 (by simp) fun ρ4 xs e04 e7 ox lx => ?_
        refine blockD hS P3 (by omega) X e04 e7 ox lx fun ρ5 xs5 ps5 e05 e75 ox5 lx5 P5 => ?_
        exact stories_ok X e05 ox5 e75 fun ρ6 e06 => ⟨e06.e1, ps5, rfl, P5.mono (by omega)⟩
      · rintro ρ1 p1 _
        exact ⟨ρ1, rfl, trivial⟩
    · rintro ρ1 p1 _
      simp [W_pure]
  obtain ⟨d, p', e, rfl⟩ := main
  exact ⟨p', e⟩
end G

/-! printed by gen.py: the defs of one law, their pure readings and derivations -/
namespace G
open PySem PySem.Spec PyProof.Rows L2 Lf Pre

def topS (i : Nat) : Stmt := PySem.Challenge.pw_everbeat_k20_whole_leases_scaled_and_tol.main.body.getD i (.Pass ⟨0, 0, 0, 0⟩)
abbrev s_frac : Stmt := topS 3
abbrev s_plus : Stmt := topS 4
abbrev s_times : Stmt := topS 5
abbrev s_over : Stmt := topS 6
abbrev s_less : Stmt := topS 7
abbrev s_is_safe : Stmt := topS 9
abbrev s_greatest_limit : Stmt := topS 10
abbrev s_is_within : Stmt := topS 11
abbrev s_is_right : Stmt := topS 12
abbrev s_belief : Stmt := topS 13
abbrev s_meet : Stmt := topS 14
abbrev s_two_believe : Stmt := topS 15
abbrev s_bad_story : Stmt := topS 16
abbrev s_judge_story : Stmt := topS 18
abbrev s__law_mixed : Stmt := topS 20
abbrev s__law_rest : Stmt := topS 21
abbrev s__law_pool : Stmt := topS 22
abbrev s__law_next : Stmt := topS 23
abbrev s__law_draw : Stmt := topS 24
abbrev s__law_pick : Stmt := topS 25
abbrev s__law_same : Stmt := topS 26
abbrev s__law_gcd : Stmt := topS 27
abbrev s__law_ratio : Stmt := topS 28
abbrev s__law_above_none : Stmt := topS 29
abbrev s__law_less : Stmt := topS 30
abbrev s__law_mul : Stmt := topS 31
abbrev s__law_div : Stmt := topS 32
abbrev s__law_add : Stmt := topS 33
abbrev s__law_within_bounds : Stmt := topS 34
abbrev s__law_story_right : Stmt := topS 35
abbrev s__law_belief_of : Stmt := topS 36
abbrev s__law_two_of : Stmt := topS 37
abbrev s_law : Stmt := topS 38

structure Tf (K : PySem.W.Frag) (mg : Str → Option Value) : Prop where
  m_abs : mg "abs" = none
  m_all : mg "all" = none
  m_bool : mg "bool" = none
  m_dict : mg "dict" = none
  m_int : mg "int" = none
  m_isinstance : mg "isinstance" = none
  m_len : mg "len" = none
  m_list : mg "list" = none
  m_range : mg "range" = none
  m_str : mg "str" = none
  m_tuple : mg "tuple" = none
  i_gcd : mg "gcd" = some (.builtin "math.gcd")
  c_NOUGHT : ∃ u, mg "NOUGHT" = some u ∧ KRep K u (.tup [(.int 0), (.int 1)])
  at_frac : FunAt K mg "frac" s_frac ["p", "q"]
  at_plus : FunAt K mg "plus" s_plus ["a", "b"]
  at_times : FunAt K mg "times" s_times ["a", "b"]
  at_over : FunAt K mg "over" s_over ["a", "b"]
  at_less : FunAt K mg "less" s_less ["a", "b"]
  at_is_safe : FunAt K mg "is_safe" s_is_safe ["slow", "fast", "length", "limit"]
  at_greatest_limit : FunAt K mg "greatest_limit" s_greatest_limit ["slow", "fast", "length"]
  at_is_within : FunAt K mg "is_within" s_is_within ["slow", "fast", "rate"]
  at_is_right : FunAt K mg "is_right" s_is_right ["slow", "fast", "length", "giver", "holders"]
  at_belief : FunAt K mg "belief" s_belief ["limit", "holder"]
  at_meet : FunAt K mg "meet" s_meet ["one", "other"]
  at_two_believe : FunAt K mg "two_believe" s_two_believe ["limit", "holders"]
  at_bad_story : FunAt K mg "bad_story" s_bad_story ["slow", "fast", "length", "limit"]
  at_judge_story : FunAt K mg "judge_story" s_judge_story ["slow", "fast", "length", "limit", "giver", "holders"]
  at__law_mixed : FunAt K mg "_law_mixed" s__law_mixed ["number", "place"]
  at__law_rest : FunAt K mg "_law_rest" s__law_rest ["script", "place", "fills"]
  at__law_pool : FunAt K mg "_law_pool" s__law_pool ["script"]
  at__law_next : FunAt K mg "_law_next" s__law_next ["pool"]
  at__law_draw : FunAt K mg "_law_draw" s__law_draw ["pool", "limit"]
  at__law_pick : FunAt K mg "_law_pick" s__law_pick ["pool", "options"]
  at__law_same : FunAt K mg "_law_same" s__law_same ["answer", "due"]
  at__law_gcd : FunAt K mg "_law_gcd" s__law_gcd ["one", "other"]
  at__law_ratio : FunAt K mg "_law_ratio" s__law_ratio ["p", "q"]
  at__law_above_none : FunAt K mg "_law_above_none" s__law_above_none ["pool", "most"]
  at__law_less : FunAt K mg "_law_less" s__law_less ["one", "other"]
  at__law_mul : FunAt K mg "_law_mul" s__law_mul ["one", "other"]
  at__law_div : FunAt K mg "_law_div" s__law_div ["one", "other"]
  at__law_add : FunAt K mg "_law_add" s__law_add ["one", "other"]
  at__law_within_bounds : FunAt K mg "_law_within_bounds" s__law_within_bounds ["slow", "fast", "rate"]
  at__law_story_right : FunAt K mg "_law_story_right" s__law_story_right ["slow", "fast", "length", "giver", "holders"]
  at__law_belief_of : FunAt K mg "_law_belief_of" s__law_belief_of ["limit", "holder"]
  at__law_two_of : FunAt K mg "_law_two_of" s__law_two_of ["limit", "holders"]
  at_law : FunAt K mg "law" s_law ["script"]

section
variable {P : Program} {w : World} {K : PySem.W.Frag} {mg : Str → Option Value} {base : Heap} {ns : List Int}


/-! ### frac -/
abbrev N_frac : List Str := ["p", "q", "factor"]
theorem S_frac : FnScope N_frac ["p", "q"] (defScope s_frac) := ⟨rfl, rfl, rfl, by decide +kernel, rfl, by decide +kernel, by decide +kernel⟩
theorem ok_frac (T : Tf K mg) : HasFn P w K mg base ns "frac" 1 2 (F_frac) :=
  HasFn.of T.at_frac S_frac (by decide) fun f cdv A outer s H E hr => ⟨[], by
    have S := S_frac
    exact
     (lss_cons (ls_set 2 S.nd (le_ifexp (lt_cmp op_gt op2_gt (lb_var 1) (lb_of_le le_int)) (le_of_ln (lx_callG (R := rN) cr_gcd opn_gcd (by rfl) T.i_gcd (lab_cons (lb_var 0) (lab_cons (lb_var 1) lab_nil)))) (le_of_ln (lx_un (R := rN) un_neg op1_neg (lb_of_ln (lx_callG (R := rN) cr_gcd opn_gcd (by rfl) T.i_gcd (lab_cons (lb_var 0) (lab_cons (lb_var 1) lab_nil)))))))) (lss_one (ls_ret (ms' := []) (le_tup (la_cons (le_of_ln (lx_bin (R := rN) op_fdivX op2_fdiv (lb_var 0) (lb_var 2))) (la_cons (le_of_ln (lx_bin (R := rN) op_fdivX op2_fdiv (lb_var 1) (lb_var 2))) la_nil))))))⟩

/-! ### plus -/
abbrev N_plus : List Str := ["a", "b"]
theorem S_plus : FnScope N_plus ["a", "b"] (defScope s_plus) := ⟨rfl, rfl, rfl, by decide +kernel, rfl, by decide +kernel, by decide +kernel⟩
theorem ok_plus (T : Tf K mg) : HasFn P w K mg base ns "plus" 2 2 (F_plus) :=
  HasFn.of T.at_plus S_plus (by decide) fun f cdv A outer s H E hr => ⟨[], by
    have S := S_plus
    exact
     (lss_one (ls_ret (ms' := []) (le_callN (ok_frac T) hr (by decide) (by rfl) (la_cons (le_of_ln (lx_bin (R := rN) op_addX op2_add (lb_of_ln (lx_bin (R := rN) op_mulA op2_mulX (lb_of_le (le_ixA (hu64 hr) (lb_var 0) (lb_of_le le_int))) (lb_of_le (le_ixA (hu64 hr) (lb_var 1) (lb_of_le le_int))))) (lb_of_ln (lx_bin (R := rN) op_mulA op2_mulX (lb_of_le (le_ixA (hu64 hr) (lb_var 1) (lb_of_le le_int))) (lb_of_le (le_ixA (hu64 hr) (lb_var 0) (lb_of_le le_int))))))) (la_cons (le_of_ln (lx_bin (R := rN) op_mulA op2_mulX (lb_of_le (le_ixA (hu64 hr) (lb_var 0) (lb_of_le le_int))) (lb_of_le (le_ixA (hu64 hr) (lb_var 1) (lb_of_le le_int))))) la_nil)) (aCons_len (aCons_len aNil_len)))))⟩

/-! ### times -/
abbrev N_times : List Str := ["a", "b"]
theorem S_times : FnScope N_times ["a", "b"] (defScope s_times) := ⟨rfl, rfl, rfl, by decide +kernel, rfl, by decide +kernel, by decide +kernel⟩
theorem ok_times (T : Tf K mg) : HasFn P w K mg base ns "times" 2 2 (F_times) :=
  HasFn.of T.at_times S_times (by decide) fun f cdv A outer s H E hr => ⟨[], by
    have S := S_times
    exact
     (lss_one (ls_ret (ms' := []) (le_callN (ok_frac T) hr (by decide) (by rfl) (la_cons (le_of_ln (lx_bin (R := rN) op_mulA op2_mulX (lb_of_le (le_ixA (hu64 hr) (lb_var 0) (lb_of_le le_int))) (lb_of_le (le_ixA (hu64 hr) (lb_var 1) (lb_of_le le_int))))) (la_cons (le_of_ln (lx_bin (R := rN) op_mulA op2_mulX (lb_of_le (le_ixA (hu64 hr) (lb_var 0) (lb_of_le le_int))) (lb_of_le (le_ixA (hu64 hr) (lb_var 1) (lb_of_le le_int))))) la_nil)) (aCons_len (aCons_len aNil_len)))))⟩

/-! ### over -/
abbrev N_over : List Str := ["a", "b"]
theorem S_over : FnScope N_over ["a", "b"] (defScope s_over) := ⟨rfl, rfl, rfl, by decide +kernel, rfl, by decide +kernel, by decide +kernel⟩
theorem ok_over (T : Tf K mg) : HasFn P w K mg base ns "over" 2 2 (F_over) :=
  HasFn.of T.at_over S_over (by decide) fun f cdv A outer s H E hr => ⟨[], by
    have S := S_over
    exact
     (lss_one (ls_ret (ms' := []) (le_callN (ok_frac T) hr (by decide) (by rfl) (la_cons (le_of_ln (lx_bin (R := rN) op_mulA op2_mulX (lb_of_le (le_ixA (hu64 hr) (lb_var 0) (lb_of_le le_int))) (lb_of_le (le_ixA (hu64 hr) (lb_var 1) (lb_of_le le_int))))) (la_cons (le_of_ln (lx_bin (R := rN) op_mulA op2_mulX (lb_of_le (le_ixA (hu64 hr) (lb_var 0) (lb_of_le le_int))) (lb_of_le (le_ixA (hu64 hr) (lb_var 1) (lb_of_le le_int))))) la_nil)) (aCons_len (aCons_len aNil_len)))))⟩

/-! ### less -/
abbrev N_less : List Str := ["a", "b"]
theorem S_less : FnScope N_less ["a", "b"] (defScope s_less) := ⟨rfl, rfl, rfl, by decide +kernel, rfl, by decide +kernel, by decide +kernel⟩
theorem ok_less (T : Tf K mg) : HasFn P w K mg base ns "less" 1 2 (F_less) :=
  HasFn.of T.at_less S_less (by decide) fun f cdv A outer s H E hr => ⟨[], by
    have S := S_less
    exact
     (lss_one (ls_ret (ms' := []) (le_of_ln (lx_cmp (R := rN) op_lt op2_lt (lb_of_ln (lx_bin (R := rN) op_mulA op2_mulX (lb_of_le (le_ixA (hu64 hr) (lb_var 0) (lb_of_le le_int))) (lb_of_le (le_ixA (hu64 hr) (lb_var 1) (lb_of_le le_int))))) (lb_of_ln (lx_bin (R := rN) op_mulA op2_mulX (lb_of_le (le_ixA (hu64 hr) (lb_var 1) (lb_of_le le_int))) (lb_of_le (le_ixA (hu64 hr) (lb_var 0) (lb_of_le le_int)))))))))⟩

/-! ### is_safe -/
abbrev N_is_safe : List Str := ["slow", "fast", "length", "limit"]
theorem S_is_safe : FnScope N_is_safe ["slow", "fast", "length", "limit"] (defScope s_is_safe) := ⟨rfl, rfl, rfl, by decide +kernel, rfl, by decide +kernel, by decide +kernel⟩
theorem ok_is_safe (T : Tf K mg) : HasFn P w K mg base ns "is_safe" 3 4 (F_is_safe) :=
  HasFn.of T.at_is_safe S_is_safe (by decide) fun f cdv A outer s H E hr => ⟨[], by
    have S := S_is_safe
    exact
     (lss_one (ls_ret (ms' := []) (le_not (lb_of_le (le_callN (ok_less T) hr (by decide) (by rfl) (la_cons (le_callN (ok_times T) hr (by decide) (by rfl) (la_cons (le_var 2) (la_cons (le_var 0) la_nil)) (aCons_len (aCons_len aNil_len))) (la_cons (le_callN (ok_times T) hr (by decide) (by rfl) (la_cons (le_var 3) (la_cons (le_var 1) la_nil)) (aCons_len (aCons_len aNil_len))) la_nil)) (aCons_len (aCons_len aNil_len)))))))⟩

/-! ### greatest_limit -/
abbrev N_greatest_limit : List Str := ["slow", "fast", "length"]
theorem S_greatest_limit : FnScope N_greatest_limit ["slow", "fast", "length"] (defScope s_greatest_limit) := ⟨rfl, rfl, rfl, by decide +kernel, rfl, by decide +kernel, by decide +kernel⟩
theorem ok_greatest_limit (T : Tf K mg) : HasFn P w K mg base ns "greatest_limit" 3 3 (F_greatest_limit) :=
  HasFn.of T.at_greatest_limit S_greatest_limit (by decide) fun f cdv A outer s H E hr => ⟨[], by
    have S := S_greatest_limit
    exact
     (lss_one (ls_ret (ms' := []) (le_callN (ok_over T) hr (by decide) (by rfl) (la_cons (le_callN (ok_times T) hr (by decide) (by rfl) (la_cons (le_var 2) (la_cons (le_var 0) la_nil)) (aCons_len (aCons_len aNil_len))) (la_cons (le_var 1) la_nil)) (aCons_len (aCons_len aNil_len)))))⟩

/-! ### is_within -/
abbrev N_is_within : List Str := ["slow", "fast", "rate"]
theorem S_is_within : FnScope N_is_within ["slow", "fast", "rate"] (defScope s_is_within) := ⟨rfl, rfl, rfl, by decide +kernel, rfl, by decide +kernel, by decide +kernel⟩
theorem ok_is_within (T : Tf K mg) : HasFn P w K mg base ns "is_within" 2 3 (F_is_within) :=
  HasFn.of T.at_is_within S_is_within (by decide) fun f cdv A outer s H E hr => ⟨[], by
    have S := S_is_within
    exact
     (lss_one (ls_ret (ms' := []) (le_and (le_not (lb_of_le (le_callN (ok_less T) hr (by decide) (by rfl) (la_cons (le_var 2) (la_cons (le_var 0) la_nil)) (aCons_len (aCons_len aNil_len))))) (le_one (le_not (lb_of_le (le_callN (ok_less T) hr (by decide) (by rfl) (la_cons (le_var 1) (la_cons (le_var 2) la_nil)) (aCons_len (aCons_len aNil_len)))))))))⟩

/-! ### is_right -/
abbrev N_is_right : List Str := ["slow", "fast", "length", "giver", "holders", "free", "rate", "asked", "given"]
theorem S_is_right : FnScope N_is_right ["slow", "fast", "length", "giver", "holders"] (defScope s_is_right) := ⟨rfl, rfl, rfl, by decide +kernel, rfl, by decide +kernel, by decide +kernel⟩
theorem ok_is_right (T : Tf K mg) : HasFn P w K mg base ns "is_right" 3 5 (F_is_right) :=
  HasFn.of T.at_is_right S_is_right (by decide) fun f cdv A outer s H E hr => ⟨[], by
    have S := S_is_right
    exact
     (lss_cons (ls_if (lt_not (lt_tru (lb_of_le (le_callN (ok_is_within T) hr (by decide) (by rfl) (la_cons (le_var 0) (la_cons (le_var 1) (la_cons (le_var 3) la_nil))) (aCons_len (aCons_len (aCons_len aNil_len)))))))
      (lss_one (ls_ret (ms' := []) le_bl))
      lss_nil) (lss_cons (ls_set 5 S.nd le_non) (lss_cons (ls_for (ml := []) (vs := [6, 7, 8]) PassesOwn.never rfl (li_list (le_var 4)) (by rfl) (lg_tup 3 rfl (lgs_cons (lg_name 6 S.nd) (lgs_cons (lg_name 7 S.nd) (lgs_cons (lg_name 8 S.nd) lgs_nil))) (gsCons_len (gsCons_len (gsCons_len gs_len))))
      (lss_cons (ls_if (lt_of_lw (lw_or (lt_not (lt_tru (lb_of_le (le_callN (ok_is_within T) hr (by decide) (by rfl) (la_cons (le_var 0) (la_cons (le_var 1) (la_cons (le_var 6) la_nil))) (aCons_len (aCons_len (aCons_len aNil_len))))))) (lw_or1 (lt_tru (lb_of_le (le_callN (ok_less T) hr (by decide) (by rfl) (la_cons (le_var 8) (la_cons (le_var 7) la_nil)) (aCons_len (aCons_len aNil_len))))))))
      (lss_one (ls_ret (ms' := []) le_bl))
      lss_nil) (lss_cons (ls_if (lt_of_lw (lw_and (lt_cmp op_notN op2_notN (lb_var 5) (lb_of_le le_non)) (lw_and1 (lt_tru (lb_of_le (le_callN (ok_less T) hr (by decide) (by rfl) (la_cons (le_var 8) (la_cons (le_var 5) la_nil)) (aCons_len (aCons_len aNil_len))))))))
      (lss_one (ls_ret (ms' := []) le_bl))
      lss_nil) (lss_one (ls_set 5 S.nd (le_callN (ok_plus T) hr (by decide) (by rfl) (la_cons (le_var 8) (la_cons (le_callN (ok_over T) hr (by decide) (by rfl) (la_cons (le_var 2) (la_cons (le_var 3) la_nil)) (aCons_len (aCons_len aNil_len))) la_nil)) (aCons_len (aCons_len aNil_len)))))))) (lss_one (ls_ret (ms' := []) le_bl)))))⟩

/-! ### belief -/
abbrev N_belief : List Str := ["limit", "holder", "end", "rate", "asked", "given"]
theorem S_belief : FnScope N_belief ["limit", "holder"] (defScope s_belief) := ⟨rfl, rfl, rfl, by decide +kernel, rfl, by decide +kernel, by decide +kernel⟩
theorem ok_belief (T : Tf K mg) : HasFn P w K mg base ns "belief" 3 2 (F_belief) :=
  HasFn.of T.at_belief S_belief (by decide) fun f cdv A outer s H E hr => ⟨[], by
    have S := S_belief
    exact
     (lss_cons (ls_asg (vs := [3, 4, 5]) (le_var 1) (lg_tup 3 rfl (lgs_cons (lg_name 3 S.nd) (lgs_cons (lg_name 4 S.nd) (lgs_cons (lg_name 5 S.nd) lgs_nil))) (gsCons_len (gsCons_len (gsCons_len gs_len))))) (lss_cons (ls_set 2 S.nd (le_callN (ok_plus T) hr (by decide) (by rfl) (la_cons (le_var 4) (la_cons (le_callN (ok_over T) hr (by decide) (by rfl) (la_cons (le_var 0) (la_cons (le_var 3) la_nil)) (aCons_len (aCons_len aNil_len))) la_nil)) (aCons_len (aCons_len aNil_len)))) (lss_one (ls_ret (ms' := []) (le_ifexp (lt_tru (lb_of_le (le_callN (ok_less T) hr (by decide) (by rfl) (la_cons (le_var 5) (la_cons (le_var 2) la_nil)) (aCons_len (aCons_len aNil_len))))) (le_tup (la_cons (le_var 5) (la_cons (le_var 2) la_nil))) le_non)))))⟩

/-! ### meet -/
abbrev N_meet : List Str := ["one", "other"]
theorem S_meet : FnScope N_meet ["one", "other"] (defScope s_meet) := ⟨rfl, rfl, rfl, by decide +kernel, rfl, by decide +kernel, by decide +kernel⟩
theorem ok_meet (T : Tf K mg) : HasFn P w K mg base ns "meet" 2 2 (F_meet) :=
  HasFn.of T.at_meet S_meet (by decide) fun f cdv A outer s H E hr => ⟨[], by
    have S := S_meet
    exact
     (lss_one (ls_ret (ms' := []) (le_and (le_callN (ok_less T) hr (by decide) (by rfl) (la_cons (le_ixA (hu64 hr) (lb_var 0) (lb_of_le le_int)) (la_cons (le_ixA (hu64 hr) (lb_var 1) (lb_of_le le_int)) la_nil)) (aCons_len (aCons_len aNil_len))) (le_one (le_callN (ok_less T) hr (by decide) (by rfl) (la_cons (le_ixA (hu64 hr) (lb_var 1) (lb_of_le le_int)) (la_cons (le_ixA (hu64 hr) (lb_var 0) (lb_of_le le_int)) la_nil)) (aCons_len (aCons_len aNil_len)))))))⟩

/-! ### two_believe -/
abbrev N_two_believe : List Str := ["limit", "holders", "told", "one", "other", "holder"]
theorem S_two_believe : FnScope N_two_believe ["limit", "holders"] (defScope s_two_believe) := ⟨rfl, rfl, rfl, by decide +kernel, rfl, by decide +kernel, by decide +kernel⟩
theorem ok_two_believe (T : Tf K mg) : HasFn P w K mg base ns "two_believe" 4 2 (F_two_believe) :=
  HasFn.of T.at_two_believe S_two_believe (by decide) fun f cdv A outer s H E hr => ⟨[], by
    have S := S_two_believe
    exact
     (lss_cons (ls_weak (m2 := [2]) (by rfl) (ls_setLc 2 [("holder", 5)] (m2 := []) rfl S.nd (li_list (le_var 1)) (by rfl) (blkOk_by (by rfl)) (fun _ _ _ _ _ => (lg_name 5 S.nd)) (fun _ _ _ _ _ => lts_nil) (fun _ _ _ _ _ => (le_callN (ok_belief T) hr (by decide) (by rfl) (la_cons (le_var 0) (la_cons (le_var 5) la_nil)) (aCons_len (aCons_len aNil_len)))))) (lss_cons (ls_for (ml := [2]) (vs := [3]) PassesOwn.never rfl (li_range1 (by rfl) T.m_range (lab_cons (lb_of_ln (lx_callB (R := rN) call_lenX opn_len (by rfl) T.m_len boot_len (lab_cons (lb_var 2) lab_nil))) lab_nil)) (by rfl) (lg_name 3 S.nd)
      (lss_one (ls_for (ml := [2]) (vs := [4]) PassesOwn.never rfl (li_range2 (by rfl) T.m_range (lab_cons (lb_of_ln (lx_bin (R := rN) op_addX op2_add (lb_var 3) (lb_of_le le_int))) (lab_cons (lb_of_ln (lx_callB (R := rN) call_lenX opn_len (by rfl) T.m_len boot_len (lab_cons (lb_var 2) lab_nil))) lab_nil))) (by rfl) (lg_name 4 S.nd)
      (lss_one (ls_if (lt_of_lw (lw_and (lt_cmp op_notN op2_notN (lb_of_le (le_ixA (hu64 hr) (lb_var 2) (lb_var 3))) (lb_of_le le_non)) (lw_and (lt_cmp op_notN op2_notN (lb_of_le (le_ixA (hu64 hr) (lb_var 2) (lb_var 4))) (lb_of_le le_non)) (lw_and1 (lt_tru (lb_of_le (le_callN (ok_meet T) hr (by decide) (by rfl) (la_cons (le_ixA (hu64 hr) (lb_var 2) (lb_var 3)) (la_cons (le_ixA (hu64 hr) (lb_var 2) (lb_var 4)) la_nil)) (aCons_len (aCons_len aNil_len)))))))))
      (lss_one (ls_ret (ms' := [2]) (le_tup (la_cons (le_var 3) (la_cons (le_var 4) la_nil)))))
      lss_nil))))) (lss_one (ls_ret (ms' := []) le_non))))⟩

/-! ### bad_story -/
abbrev N_bad_story : List Str := ["slow", "fast", "length", "limit", "again"]
theorem S_bad_story : FnScope N_bad_story ["slow", "fast", "length", "limit"] (defScope s_bad_story) := ⟨rfl, rfl, rfl, by decide +kernel, rfl, by decide +kernel, by decide +kernel⟩
theorem ok_bad_story (T : Tf K mg) : HasFn P w K mg base ns "bad_story" 4 4 (F_bad_story) :=
  HasFn.of T.at_bad_story S_bad_story (by decide) fun f cdv A outer s H E hr => ⟨[], by
    have S := S_bad_story
    exact
     (lss_cons (ls_if (lt_tru (lb_of_le (le_callN (ok_is_safe T) hr (by decide) (by rfl) (la_cons (le_var 0) (la_cons (le_var 1) (la_cons (le_var 2) (la_cons (le_var 3) la_nil)))) (aCons_len (aCons_len (aCons_len (aCons_len aNil_len)))))))
      (lss_one (ls_ret (ms' := []) le_non))
      lss_nil) (lss_cons (ls_set 4 S.nd (le_callN (ok_over T) hr (by decide) (by rfl) (la_cons (le_var 2) (la_cons (le_var 1) la_nil)) (aCons_len (aCons_len aNil_len)))) (lss_one (ls_ret (ms' := []) (le_tup (la_cons (le_var 1) (la_cons (le_of_ln (ln_lst (la_cons (le_tup (la_cons (le_var 0) (la_cons (le_globE T.c_NOUGHT) (la_cons (le_globE T.c_NOUGHT) la_nil)))) (la_cons (le_tup (la_cons (le_var 0) (la_cons (le_var 4) (la_cons (le_var 4) la_nil)))) la_nil)))) la_nil)))))))⟩

/-! ### judge_story -/
abbrev N_judge_story : List Str := ["slow", "fast", "length", "limit", "giver", "holders"]
theorem S_judge_story : FnScope N_judge_story ["slow", "fast", "length", "limit", "giver", "holders"] (defScope s_judge_story) := ⟨rfl, rfl, rfl, by decide +kernel, rfl, by decide +kernel, by decide +kernel⟩
theorem ok_judge_story (T : Tf K mg) : HasFn P w K mg base ns "judge_story" 5 6 (F_judge_story) :=
  HasFn.of T.at_judge_story S_judge_story (by decide) fun f cdv A outer s H E hr => ⟨[], by
    have S := S_judge_story
    exact
     (lss_one (ls_ret (ms' := []) (le_and (le_callN (ok_is_right T) hr (by decide) (by rfl) (la_cons (le_var 0) (la_cons (le_var 1) (la_cons (le_var 2) (la_cons (le_var 4) (la_cons (le_var 5) la_nil))))) (aCons_len (aCons_len (aCons_len (aCons_len (aCons_len aNil_len)))))) (le_one (le_of_ln (lx_cmp (R := rN) op_notN op2_notN (lb_of_le (le_callN (ok_two_believe T) hr (by decide) (by rfl) (la_cons (le_var 3) (la_cons (le_var 5) la_nil)) (aCons_len (aCons_len aNil_len)))) (lb_of_le le_non)))))))⟩

/-! ### _law_mixed -/
abbrev N__law_mixed : List Str := ["number", "place", "first", "second", "third"]
theorem S__law_mixed : FnScope N__law_mixed ["number", "place"] (defScope s__law_mixed) := ⟨rfl, rfl, rfl, by decide +kernel, rfl, by decide +kernel, by decide +kernel⟩
theorem ok__law_mixed (T : Tf K mg) : HasFn P w K mg base ns "_law_mixed" 1 2 (F__law_mixed) :=
  HasFn.of T.at__law_mixed S__law_mixed (by decide) fun f cdv A outer s H E hr => ⟨[], by
    have S := S__law_mixed
    exact
     (lss_cons (ls_set 2 S.nd (le_of_ln (lx_bin (R := rN) op_modN op2_mod (lb_of_ln (lx_callTy (R := rN) call_int1 opn_int (by rfl) T.m_int boot_int (lab_cons (lb_of_ln (lx_bin (R := rN) op_addX op2_add (lb_of_ln (lx_bin (R := rN) op_addX op2_add (lb_of_ln (lx_bin (R := rN) op_mulA op2_mulX (lb_var 0) (lb_of_le le_int))) (lb_of_ln (lx_bin (R := rN) op_mulA op2_mulX (lb_var 1) (lb_of_le le_int))))) (lb_of_le le_int))) lab_nil))) (lb_of_le le_int)))) (lss_cons (ls_set 3 S.nd (le_of_ln (lx_bin (R := rN) op_modN op2_mod (lb_of_ln (lx_callTy (R := rN) call_int1 opn_int (by rfl) T.m_int boot_int (lab_cons (lb_of_ln (lx_bin (R := rN) op_addX op2_add (lb_of_ln (lx_bin (R := rN) op_addX op2_add (lb_of_ln (lx_bin (R := rN) op_mulA op2_mulX (lb_var 2) (lb_var 2))) (lb_of_ln (lx_bin (R := rN) op_mulA op2_mulX (lb_of_le le_int) (lb_var 2))))) (lb_var 1))) lab_nil))) (lb_of_le le_int)))) (lss_cons (ls_set 4 S.nd (le_of_ln (lx_bin (R := rN) op_modN op2_mod (lb_of_ln (lx_callTy (R := rN) call_int1 opn_int (by rfl) T.m_int boot_int (lab_cons (lb_of_ln (lx_bin (R := rN) op_addX op2_add (lb_of_ln (lx_bin (R := rN) op_mulA op2_mulX (lb_var 3) (lb_var 3))) (lb_var 2))) lab_nil))) (lb_of_le le_int)))) (lss_one (ls_ret (ms' := []) (le_of_ln (lx_bin (R := rN) op_addX op2_add (lb_of_ln (lx_bin (R := rN) op_mulA op2_mulX (lb_var 3) (lb_of_le le_int))) (lb_var 4))))))))⟩

/-! ### _law_rest -/
abbrev N__law_rest : List Str := ["script", "place", "fills", "number"]
theorem S__law_rest : FnScope N__law_rest ["script", "place", "fills"] (defScope s__law_rest) := ⟨rfl, rfl, rfl, by decide +kernel, rfl, by decide +kernel, by decide +kernel⟩
theorem ok__law_rest (T : Tf K mg) : HasFn P w K mg base ns "_law_rest" 2 3 (F__law_rest) :=
  HasFn.of T.at__law_rest S__law_rest (by decide) fun f cdv A outer s H E hr => ⟨[], by
    have S := S__law_rest
    exact
     (lss_cons (ls_set 3 S.nd le_int) (lss_cons (ls_if (lt_cmp op_gt op2_gt (lb_of_ln (lx_callB (R := rN) call_lenX opn_len (by rfl) T.m_len boot_len (lab_cons (lb_var 0) lab_nil))) (lb_of_le le_int))
      (lss_one (ls_set 3 S.nd (le_of_ln (lx_callTy (R := rN) call_int1 opn_int (by rfl) T.m_int boot_int (lab_cons (lb_of_le (le_ixA (hu64 hr) (lb_var 0) (lb_of_ln (lx_bin (R := rN) op_modN op2_mod (lb_of_ln (lx_callTy (R := rN) call_int1 opn_int (by rfl) T.m_int boot_int (lab_cons (lb_var 1) lab_nil))) (lb_of_ln (lx_callB (R := rN) call_lenX opn_len (by rfl) T.m_len boot_len (lab_cons (lb_var 0) lab_nil))))))) lab_nil)))))
      lss_nil) (lss_cons (ls_if (lt_cmp op_lt op2_lt (lb_var 3) (lb_of_le le_int))
      (lss_one (ls_set 3 S.nd (le_of_ln (lx_bin (R := rN) op_sub op2_sub (lb_of_le le_int) (lb_of_ln (lx_bin (R := rN) op_mulA op2_mulX (lb_of_le le_int) (lb_var 3)))))))
      lss_nil) (lss_cons (ls_if (lt_of_lw (lw_and (lt_cmp (op_eqD (hu64 hr)) op2_eq (lb_var 2) (lb_of_le le_int)) (lw_and (lt_cmp op_lt op2_lt (lb_var 1) (lb_of_ln (lx_callB (R := rN) call_lenX opn_len (by rfl) T.m_len boot_len (lab_cons (lb_var 0) lab_nil)))) (lw_and1 (lt_cmp op_ge op2_ge (lb_var 3) (lb_of_ln (lx_bin (R := rN) op_pow op2_pow (lb_of_le le_int) (lb_of_le le_int))))))))
      (lss_one (ls_ret (ms' := []) (le_of_ln (lx_bin (R := rN) op_sub op2_sub (lb_var 3) (lb_of_ln (lx_bin (R := rN) op_pow op2_pow (lb_of_le le_int) (lb_of_le le_int)))))))
      lss_nil) (lss_one (ls_ret (ms' := []) (le_callN (ok__law_mixed T) hr (by decide) (by rfl) (la_cons (le_of_ln (lx_bin (R := rN) op_addX op2_add (lb_var 3) (lb_of_ln (lx_bin (R := rN) op_mulA op2_mulX (lb_var 2) (lb_of_le le_int))))) (la_cons (le_var 1) la_nil)) (aCons_len (aCons_len aNil_len)))))))))⟩

/-! ### _law_pool -/
abbrev N__law_pool : List Str := ["script"]
theorem S__law_pool : FnScope N__law_pool ["script"] (defScope s__law_pool) := ⟨rfl, rfl, rfl, by decide +kernel, rfl, by decide +kernel, by decide +kernel⟩
theorem ok__law_pool (T : Tf K mg) : HasFn P w K mg base ns "_law_pool" 3 1 (F__law_pool ns) :=
  HasFn.of T.at__law_pool S__law_pool (by decide) fun f cdv A outer s H E hr => ⟨[], by
    have S := S__law_pool
    exact
     (lss_one (ls_retPool (ms := []) (la_cons (le_var 0) (la_cons le_int (la_cons (le_callN (ok__law_rest T) hr (by decide) (by rfl) (la_cons (le_var 0) (la_cons le_int (la_cons le_int la_nil))) (aCons_len (aCons_len (aCons_len aNil_len)))) (la_cons le_int la_nil))))))⟩

/-! ### _law_next -/
abbrev N__law_next : List Str := ["pool"]
theorem S__law_next : FnScope N__law_next ["pool"] (defScope s__law_next) := ⟨rfl, rfl, rfl, by decide +kernel, rfl, by decide +kernel, by decide +kernel⟩
theorem ok__law_next (T : Tf K mg) : HasFn P w K mg base ns "_law_next" 3 1 (F__law_next ns) :=
  HasFn.of T.at__law_next S__law_next (by decide) fun f cdv A outer s H E hr => ⟨[], by
    have S := S__law_next
    exact
     (lss_cons (ls_pool 0 1 (le_of_ln (lx_bin (R := rN) op_addX op2_add (lb_of_le (le_pool 0 1)) (lb_of_le le_int)))) (lss_cons (ls_pool 0 2 (le_callN (ok__law_rest T) hr (by decide) (by rfl) (la_cons (le_pool 0 0) (la_cons (le_pool 0 1) (la_cons le_int la_nil))) (aCons_len (aCons_len (aCons_len aNil_len))))) (lss_one (ls_pool 0 3 le_int))))⟩

/-! ### _law_draw -/
abbrev N__law_draw : List Str := ["pool", "limit", "value"]
theorem S__law_draw : FnScope N__law_draw ["pool", "limit"] (defScope s__law_draw) := ⟨rfl, rfl, rfl, by decide +kernel, rfl, by decide +kernel, by decide +kernel⟩
theorem ok__law_draw (T : Tf K mg) : HasFn P w K mg base ns "_law_draw" 3 2 (F__law_draw ns) :=
  HasFn.of T.at__law_draw S__law_draw (by decide) fun f cdv A outer s H E hr => ⟨[], by
    have S := S__law_draw
    exact
     (lss_cons (ls_if (lt_cmp op_le op2_le (lb_of_le (le_pool 0 2)) (lb_of_le le_int))
      (lss_cons (ls_pool 0 3 (le_of_ln (lx_bin (R := rN) op_addX op2_add (lb_of_le (le_pool 0 3)) (lb_of_le le_int)))) (lss_one (ls_pool 0 2 (le_callN (ok__law_rest T) hr (by decide) (by rfl) (la_cons (le_pool 0 0) (la_cons (le_pool 0 1) (la_cons (le_pool 0 3) la_nil))) (aCons_len (aCons_len (aCons_len aNil_len)))))))
      lss_nil) (lss_cons (ls_set 2 S.nd (le_of_ln (lx_bin (R := rN) op_modN op2_mod (lb_of_ln (lx_callTy (R := rN) call_int1 opn_int (by rfl) T.m_int boot_int (lab_cons (lb_of_le (le_pool 0 2)) lab_nil))) (lb_var 1)))) (lss_cons (ls_pool 0 2 (le_of_ln (lx_bin (R := rN) op_fdivX op2_fdiv (lb_of_ln (lx_callTy (R := rN) call_int1 opn_int (by rfl) T.m_int boot_int (lab_cons (lb_of_le (le_pool 0 2)) lab_nil))) (lb_var 1)))) (lss_one (ls_ret (ms' := []) (le_var 2))))))⟩

/-! ### _law_pick -/
abbrev N__law_pick : List Str := ["pool", "options"]
theorem S__law_pick : FnScope N__law_pick ["pool", "options"] (defScope s__law_pick) := ⟨rfl, rfl, rfl, by decide +kernel, rfl, by decide +kernel, by decide +kernel⟩
theorem ok__law_pick (T : Tf K mg) : HasFn P w K mg base ns "_law_pick" 4 2 (F__law_pick ns) :=
  HasFn.of T.at__law_pick S__law_pick (by decide) fun f cdv A outer s H E hr => ⟨[], by
    have S := S__law_pick
    exact
     (lss_one (ls_ret (ms' := []) (le_ixA (hu64 hr) (lb_var 1) (lb_of_le (le_callN (ok__law_draw T) hr (by decide) (by rfl) (la_cons (le_var 0) (la_cons (le_of_ln (lx_callB (R := rN) call_lenX opn_len (by rfl) T.m_len boot_len (lab_cons (lb_var 1) lab_nil))) la_nil)) (aCons_len (aCons_len aNil_len)))))))⟩

/-! ### _law_same -/
abbrev N__law_same : List Str := ["answer", "due", "key", "k"]
theorem S__law_same : FnScope N__law_same ["answer", "due"] (defScope s__law_same) := ⟨rfl, rfl, rfl, by decide +kernel, rfl, by decide +kernel, by decide +kernel⟩
theorem okr__law_same (T : Tf K mg) : ∀ n : Nat, HasFn P w K mg base ns "_law_same" (0 + n) 2 (F__law_same n)
  | 0 => HasFn.zero T.at__law_same
  | n + 1 => HasFn.of T.at__law_same S__law_same (by decide) fun f cdv A outer s H E hr => ⟨[], by
    have S := S__law_same
    have hrec := okr__law_same T n
    exact
     (lss_cons (ls_if (lt_tru (lb_of_ln (ln_isi (T := "dict") (by decide) (by rfl) T.m_isinstance (by rfl) T.m_dict boot_dict (lb_var 1))))
      lss_never
      lss_nil) (lss_cons (ls_if (lt_of_lw (lw_or (lt_tru (lb_of_ln (ln_isi (T := "list") (by decide) (by rfl) T.m_isinstance (by rfl) T.m_list boot_list (lb_var 1)))) (lw_or1 (lt_tru (lb_of_ln (ln_isi (T := "tuple") (by decide) (by rfl) T.m_isinstance (by rfl) T.m_tuple boot_tuple (lb_var 1)))))))
      (lss_cons (ls_if (lt_of_lw (lw_or (lt_cmp (op_neD (hu64 hr)) op2_ne (lb_of_ln (ln_isi (T := "list") (by decide) (by rfl) T.m_isinstance (by rfl) T.m_list boot_list (lb_var 1))) (lb_of_ln (ln_isi (T := "list") (by decide) (by rfl) T.m_isinstance (by rfl) T.m_list boot_list (lb_var 0)))) (lw_or1 (lt_cmp (op_neD (hu64 hr)) op2_ne (lb_of_ln (ln_isi (T := "tuple") (by decide) (by rfl) T.m_isinstance (by rfl) T.m_tuple boot_tuple (lb_var 1))) (lb_of_ln (ln_isi (T := "tuple") (by decide) (by rfl) T.m_isinstance (by rfl) T.m_tuple boot_tuple (lb_var 0)))))))
      (lss_one (ls_ret (ms' := []) le_bl))
      lss_nil) (lss_one (ls_ret (ms' := []) (le_and (le_of_ln (lx_cmp (R := rN) (op_eqD (hu64 hr)) op2_eq (lb_of_ln (lx_callB (R := rN) call_lenX opn_len (by rfl) T.m_len boot_len (lab_cons (lb_var 0) lab_nil))) (lb_of_ln (lx_callB (R := rN) call_lenX opn_len (by rfl) T.m_len boot_len (lab_cons (lb_var 1) lab_nil))))) (le_one (le_of_ln (lx_callB (R := rN) (cr_all rfl) opn_all (by rfl) T.m_all boot_all (lab_cons (lb_of_ln (ln_lc [("k", 3)] (m2 := []) rfl S.nd (li_range1 (by rfl) T.m_range (lab_cons (lb_of_ln (lx_callB (R := rN) call_lenX opn_len (by rfl) T.m_len boot_len (lab_cons (lb_var 1) lab_nil))) lab_nil)) (by rfl) (blkOk_by (by rfl)) (fun _ _ _ _ _ => (lg_name 3 S.nd)) (fun _ _ _ _ _ => lts_nil) (fun _ _ _ _ _ => (le_callN hrec hr (Nat.le_refl _) (by rfl) (la_cons (le_ixA (hu64 hr) (lb_var 0) (lb_var 3)) (la_cons (le_ixA (hu64 hr) (lb_var 1) (lb_var 3)) la_nil)) (aCons_len (aCons_len aNil_len)))))) lab_nil))))))))
      lss_nil) (lss_cons (ls_if (lt_tru (lb_of_ln (ln_isi (T := "str") (by decide) (by rfl) T.m_isinstance (by rfl) T.m_str boot_str (lb_var 1))))
      (lss_one (ls_ret (ms' := []) (le_and (le_of_ln (ln_isi (T := "str") (by decide) (by rfl) T.m_isinstance (by rfl) T.m_str boot_str (lb_var 0))) (le_one (le_of_ln (lx_cmp (R := rN) (op_eqD (hu64 hr)) op2_eq (lb_var 0) (lb_var 1)))))))
      lss_nil) (lss_cons (ls_if (lt_of_lw (lw_or (lt_cmp op_isN op2_isN (lb_var 1) (lb_of_le le_non)) (lw_or (lt_cmp op_isBA op2_isBA (lb_var 1) (lb_of_le le_bl)) (lw_or1 (lt_cmp op_isBA op2_isBA (lb_var 1) (lb_of_le le_bl))))))
      (lss_one (ls_ret (ms' := []) (le_or (le_and (le_of_ln (lx_cmp (R := rN) op_isN op2_isN (lb_var 1) (lb_of_le le_non))) (le_one (le_of_ln (lx_cmp (R := rN) op_isN op2_isN (lb_var 0) (lb_of_le le_non))))) (le_or (le_and (le_of_ln (lx_cmp (R := rN) op_isBA op2_isBA (lb_var 1) (lb_of_le le_bl))) (le_one (le_of_ln (lx_cmp (R := rN) op_isBA op2_isBA (lb_var 0) (lb_of_le le_bl))))) (le_one (le_and (le_of_ln (lx_cmp (R := rN) op_isBA op2_isBA (lb_var 1) (lb_of_le le_bl))) (le_one (le_of_ln (lx_cmp (R := rN) op_isBA op2_isBA (lb_var 0) (lb_of_le le_bl))))))))))
      lss_nil) (lss_one (ls_ret (ms' := []) (le_and (le_of_ln (ln_isi (T := "int") (by decide) (by rfl) T.m_isinstance (by rfl) T.m_int boot_int (lb_var 0))) (le_and (le_not (lb_of_ln (ln_isi (T := "bool") (by decide) (by rfl) T.m_isinstance (by rfl) T.m_bool boot_bool (lb_var 0)))) (le_one (le_of_ln (lx_cmp (R := rN) (op_eqD (hu64 hr)) op2_eq (lb_var 0) (lb_var 1))))))))))))⟩
theorem ok__law_same (T : Tf K mg) : HasFn P w K mg base ns "_law_same" 16 2 (F__law_same 16) := okr__law_same T 16

/-! ### _law_gcd -/
abbrev N__law_gcd : List Str := ["one", "other", "k"]
theorem S__law_gcd : FnScope N__law_gcd ["one", "other"] (defScope s__law_gcd) := ⟨rfl, rfl, rfl, by decide +kernel, rfl, by decide +kernel, by decide +kernel⟩
theorem ok__law_gcd (T : Tf K mg) : HasFn P w K mg base ns "_law_gcd" 1 2 (F__law_gcd) :=
  HasFn.of T.at__law_gcd S__law_gcd (by decide) fun f cdv A outer s H E hr => ⟨[], by
    have S := S__law_gcd
    exact
     (lss_cons (ls_for (ml := []) (vs := [2]) PassesOwn.never rfl (li_range1 (by rfl) T.m_range (lab_cons (lb_of_le le_int) lab_nil)) (by rfl) (lg_name 2 S.nd)
      (lss_cons (ls_if (lt_cmp (op_eqD (hu64 hr)) op2_eq (lb_var 1) (lb_of_le le_int))
      (lss_one (ls_break (ms' := [])))
      lss_nil) (lss_one (ls_par 0 1 rfl S.nd (le_var 1) (le_of_ln (lx_bin (R := rN) op_modN op2_mod (lb_of_ln (lx_callTy (R := rN) call_int1 opn_int (by rfl) T.m_int boot_int (lab_cons (lb_var 0) lab_nil))) (lb_var 1))))))) (lss_one (ls_ret (ms' := []) (le_var 0))))⟩

/-! ### _law_ratio -/
abbrev N__law_ratio : List Str := ["p", "q", "factor"]
theorem S__law_ratio : FnScope N__law_ratio ["p", "q"] (defScope s__law_ratio) := ⟨rfl, rfl, rfl, by decide +kernel, rfl, by decide +kernel, by decide +kernel⟩
theorem ok__law_ratio (T : Tf K mg) : HasFn P w K mg base ns "_law_ratio" 2 2 (F__law_ratio) :=
  HasFn.of T.at__law_ratio S__law_ratio (by decide) fun f cdv A outer s H E hr => ⟨[], by
    have S := S__law_ratio
    exact
     (lss_cons (ls_if (lt_cmp op_lt op2_lt (lb_var 1) (lb_of_le le_int))
      (lss_one (ls_par 0 1 rfl S.nd (le_of_ln (lx_un (R := rN) un_neg op1_neg (lb_var 0))) (le_of_ln (lx_un (R := rN) un_neg op1_neg (lb_var 1)))))
      lss_nil) (lss_cons (ls_set 2 S.nd (le_callN (ok__law_gcd T) hr (by decide) (by rfl) (la_cons (le_of_ln (lx_callB (R := rN) call_abs opn_abs (by rfl) T.m_abs boot_abs (lab_cons (lb_var 0) lab_nil))) (la_cons (le_var 1) la_nil)) (aCons_len (aCons_len aNil_len)))) (lss_one (ls_ret (ms' := []) (le_tup (la_cons (le_of_ln (lx_bin (R := rN) op_fdivX op2_fdiv (lb_var 0) (lb_var 2))) (la_cons (le_of_ln (lx_bin (R := rN) op_fdivX op2_fdiv (lb_var 1) (lb_var 2))) la_nil)))))))⟩

/-! ### _law_above_none -/
abbrev N__law_above_none : List Str := ["pool", "most"]
theorem S__law_above_none : FnScope N__law_above_none ["pool", "most"] (defScope s__law_above_none) := ⟨rfl, rfl, rfl, by decide +kernel, rfl, by decide +kernel, by decide +kernel⟩
theorem ok__law_above_none (T : Tf K mg) : HasFn P w K mg base ns "_law_above_none" 4 2 (F__law_above_none ns) :=
  HasFn.of T.at__law_above_none S__law_above_none (by decide) fun f cdv A outer s H E hr => ⟨[], by
    have S := S__law_above_none
    exact
     (lss_one (ls_ret (ms' := []) (le_callN (ok__law_ratio T) hr (by decide) (by rfl) (la_cons (le_of_ln (lx_bin (R := rN) op_addX op2_add (lb_of_le le_int) (lb_of_le (le_callN (ok__law_draw T) hr (by decide) (by rfl) (la_cons (le_var 0) (la_cons (le_var 1) la_nil)) (aCons_len (aCons_len aNil_len)))))) (la_cons (le_of_ln (lx_bin (R := rN) op_addX op2_add (lb_of_le le_int) (lb_of_le (le_callN (ok__law_draw T) hr (by decide) (by rfl) (la_cons (le_var 0) (la_cons (le_var 1) la_nil)) (aCons_len (aCons_len aNil_len)))))) la_nil)) (aCons_len (aCons_len aNil_len)))))⟩

/-! ### _law_less -/
abbrev N__law_less : List Str := ["one", "other"]
theorem S__law_less : FnScope N__law_less ["one", "other"] (defScope s__law_less) := ⟨rfl, rfl, rfl, by decide +kernel, rfl, by decide +kernel, by decide +kernel⟩
theorem ok__law_less (T : Tf K mg) : HasFn P w K mg base ns "_law_less" 1 2 (F__law_less) :=
  HasFn.of T.at__law_less S__law_less (by decide) fun f cdv A outer s H E hr => ⟨[], by
    have S := S__law_less
    exact
     (lss_one (ls_ret (ms' := []) (le_of_ln (lx_cmp (R := rN) op_lt op2_lt (lb_of_ln (lx_bin (R := rN) op_mulA op2_mulX (lb_of_le (le_ixA (hu64 hr) (lb_var 0) (lb_of_le le_int))) (lb_of_le (le_ixA (hu64 hr) (lb_var 1) (lb_of_le le_int))))) (lb_of_ln (lx_bin (R := rN) op_mulA op2_mulX (lb_of_le (le_ixA (hu64 hr) (lb_var 1) (lb_of_le le_int))) (lb_of_le (le_ixA (hu64 hr) (lb_var 0) (lb_of_le le_int)))))))))⟩

/-! ### _law_mul -/
abbrev N__law_mul : List Str := ["one", "other"]
theorem S__law_mul : FnScope N__law_mul ["one", "other"] (defScope s__law_mul) := ⟨rfl, rfl, rfl, by decide +kernel, rfl, by decide +kernel, by decide +kernel⟩
theorem ok__law_mul (T : Tf K mg) : HasFn P w K mg base ns "_law_mul" 3 2 (F__law_mul) :=
  HasFn.of T.at__law_mul S__law_mul (by decide) fun f cdv A outer s H E hr => ⟨[], by
    have S := S__law_mul
    exact
     (lss_one (ls_ret (ms' := []) (le_callN (ok__law_ratio T) hr (by decide) (by rfl) (la_cons (le_of_ln (lx_bin (R := rN) op_mulA op2_mulX (lb_of_le (le_ixA (hu64 hr) (lb_var 0) (lb_of_le le_int))) (lb_of_le (le_ixA (hu64 hr) (lb_var 1) (lb_of_le le_int))))) (la_cons (le_of_ln (lx_bin (R := rN) op_mulA op2_mulX (lb_of_le (le_ixA (hu64 hr) (lb_var 0) (lb_of_le le_int))) (lb_of_le (le_ixA (hu64 hr) (lb_var 1) (lb_of_le le_int))))) la_nil)) (aCons_len (aCons_len aNil_len)))))⟩

/-! ### _law_div -/
abbrev N__law_div : List Str := ["one", "other"]
theorem S__law_div : FnScope N__law_div ["one", "other"] (defScope s__law_div) := ⟨rfl, rfl, rfl, by decide +kernel, rfl, by decide +kernel, by decide +kernel⟩
theorem ok__law_div (T : Tf K mg) : HasFn P w K mg base ns "_law_div" 3 2 (F__law_div) :=
  HasFn.of T.at__law_div S__law_div (by decide) fun f cdv A outer s H E hr => ⟨[], by
    have S := S__law_div
    exact
     (lss_one (ls_ret (ms' := []) (le_callN (ok__law_ratio T) hr (by decide) (by rfl) (la_cons (le_of_ln (lx_bin (R := rN) op_mulA op2_mulX (lb_of_le (le_ixA (hu64 hr) (lb_var 0) (lb_of_le le_int))) (lb_of_le (le_ixA (hu64 hr) (lb_var 1) (lb_of_le le_int))))) (la_cons (le_of_ln (lx_bin (R := rN) op_mulA op2_mulX (lb_of_le (le_ixA (hu64 hr) (lb_var 0) (lb_of_le le_int))) (lb_of_le (le_ixA (hu64 hr) (lb_var 1) (lb_of_le le_int))))) la_nil)) (aCons_len (aCons_len aNil_len)))))⟩

/-! ### _law_add -/
abbrev N__law_add : List Str := ["one", "other"]
theorem S__law_add : FnScope N__law_add ["one", "other"] (defScope s__law_add) := ⟨rfl, rfl, rfl, by decide +kernel, rfl, by decide +kernel, by decide +kernel⟩
theorem ok__law_add (T : Tf K mg) : HasFn P w K mg base ns "_law_add" 3 2 (F__law_add) :=
  HasFn.of T.at__law_add S__law_add (by decide) fun f cdv A outer s H E hr => ⟨[], by
    have S := S__law_add
    exact
     (lss_one (ls_ret (ms' := []) (le_callN (ok__law_ratio T) hr (by decide) (by rfl) (la_cons (le_of_ln (lx_bin (R := rN) op_addX op2_add (lb_of_ln (lx_bin (R := rN) op_mulA op2_mulX (lb_of_le (le_ixA (hu64 hr) (lb_var 0) (lb_of_le le_int))) (lb_of_le (le_ixA (hu64 hr) (lb_var 1) (lb_of_le le_int))))) (lb_of_ln (lx_bin (R := rN) op_mulA op2_mulX (lb_of_le (le_ixA (hu64 hr) (lb_var 1) (lb_of_le le_int))) (lb_of_le (le_ixA (hu64 hr) (lb_var 0) (lb_of_le le_int))))))) (la_cons (le_of_ln (lx_bin (R := rN) op_mulA op2_mulX (lb_of_le (le_ixA (hu64 hr) (lb_var 0) (lb_of_le le_int))) (lb_of_le (le_ixA (hu64 hr) (lb_var 1) (lb_of_le le_int))))) la_nil)) (aCons_len (aCons_len aNil_len)))))⟩

/-! ### _law_within_bounds -/
abbrev N__law_within_bounds : List Str := ["slow", "fast", "rate"]
theorem S__law_within_bounds : FnScope N__law_within_bounds ["slow", "fast", "rate"] (defScope s__law_within_bounds) := ⟨rfl, rfl, rfl, by decide +kernel, rfl, by decide +kernel, by decide +kernel⟩
theorem ok__law_within_bounds (T : Tf K mg) : HasFn P w K mg base ns "_law_within_bounds" 2 3 (F__law_within_bounds) :=
  HasFn.of T.at__law_within_bounds S__law_within_bounds (by decide) fun f cdv A outer s H E hr => ⟨[], by
    have S := S__law_within_bounds
    exact
     (lss_one (ls_ret (ms' := []) (le_and (le_not (lb_of_le (le_callN (ok__law_less T) hr (by decide) (by rfl) (la_cons (le_var 2) (la_cons (le_var 0) la_nil)) (aCons_len (aCons_len aNil_len))))) (le_one (le_not (lb_of_le (le_callN (ok__law_less T) hr (by decide) (by rfl) (la_cons (le_var 1) (la_cons (le_var 2) la_nil)) (aCons_len (aCons_len aNil_len)))))))))⟩

/-! ### _law_story_right -/
abbrev N__law_story_right : List Str := ["slow", "fast", "length", "giver", "holders", "k", "one"]
theorem S__law_story_right : FnScope N__law_story_right ["slow", "fast", "length", "giver", "holders"] (defScope s__law_story_right) := ⟨rfl, rfl, rfl, by decide +kernel, rfl, by decide +kernel, by decide +kernel⟩
theorem ok__law_story_right (T : Tf K mg) : HasFn P w K mg base ns "_law_story_right" 4 5 (F__law_story_right) :=
  HasFn.of T.at__law_story_right S__law_story_right (by decide) fun f cdv A outer s H E hr => ⟨[], by
    have S := S__law_story_right
    exact
     (lss_cons (ls_if (lt_of_lw (lw_or (lt_not (lt_tru (lb_of_le (le_callN (ok__law_within_bounds T) hr (by decide) (by rfl) (la_cons (le_var 0) (la_cons (le_var 1) (la_cons (le_var 3) la_nil))) (aCons_len (aCons_len (aCons_len aNil_len))))))) (lw_or1 (lt_cmp op_gt op2_gt (lb_of_ln (lx_callB (R := rN) call_lenX opn_len (by rfl) T.m_len boot_len (lab_cons (lb_of_ln (ln_lc [("one", 6)] (m2 := []) rfl S.nd (li_list (le_var 4)) (by rfl) (blkOk_by (by rfl)) (fun _ _ _ _ _ => (lg_name 6 S.nd)) (fun _ _ _ _ _ => (lts_one (lt_of_lw (lw_or (lt_not (lt_tru (lb_of_le (le_callN (ok__law_within_bounds T) hr (by decide) (by rfl) (la_cons (le_var 0) (la_cons (le_var 1) (la_cons (le_ixA (hu64 hr) (lb_var 6) (lb_of_le le_int)) la_nil))) (aCons_len (aCons_len (aCons_len aNil_len))))))) (lw_or1 (lt_tru (lb_of_le (le_callN (ok__law_less T) hr (by decide) (by rfl) (la_cons (le_ixA (hu64 hr) (lb_var 6) (lb_of_le le_int)) (la_cons (le_ixA (hu64 hr) (lb_var 6) (lb_of_le le_int)) la_nil)) (aCons_len (aCons_len aNil_len)))))))))) (fun _ _ _ _ _ => (le_var 6)))) lab_nil))) (lb_of_le le_int)))))
      (lss_one (ls_ret (ms' := []) le_bl))
      lss_nil) (lss_cons (ls_for (ml := []) (vs := [5]) PassesOwn.never rfl (li_range2 (by rfl) T.m_range (lab_cons (lb_of_le le_int) (lab_cons (lb_of_ln (lx_callB (R := rN) call_lenX opn_len (by rfl) T.m_len boot_len (lab_cons (lb_var 4) lab_nil))) lab_nil))) (by rfl) (lg_name 5 S.nd)
      (lss_one (ls_if (lt_tru (lb_of_le (le_callN (ok__law_less T) hr (by decide) (by rfl) (la_cons (le_ixA (hu64 hr) (lb_of_le (le_ixA (hu64 hr) (lb_var 4) (lb_var 5))) (lb_of_le le_int)) (la_cons (le_callN (ok__law_add T) hr (by decide) (by rfl) (la_cons (le_ixA (hu64 hr) (lb_of_le (le_ixA (hu64 hr) (lb_var 4) (lb_of_ln (lx_bin (R := rN) op_sub op2_sub (lb_var 5) (lb_of_le le_int))))) (lb_of_le le_int)) (la_cons (le_callN (ok__law_div T) hr (by decide) (by rfl) (la_cons (le_var 2) (la_cons (le_var 3) la_nil)) (aCons_len (aCons_len aNil_len))) la_nil)) (aCons_len (aCons_len aNil_len))) la_nil)) (aCons_len (aCons_len aNil_len)))))
      (lss_one (ls_ret (ms' := []) le_bl))
      lss_nil))) (lss_one (ls_ret (ms' := []) le_bl))))⟩

/-! ### _law_belief_of -/
abbrev N__law_belief_of : List Str := ["limit", "holder", "end"]
theorem S__law_belief_of : FnScope N__law_belief_of ["limit", "holder"] (defScope s__law_belief_of) := ⟨rfl, rfl, rfl, by decide +kernel, rfl, by decide +kernel, by decide +kernel⟩
theorem ok__law_belief_of (T : Tf K mg) : HasFn P w K mg base ns "_law_belief_of" 4 2 (F__law_belief_of) :=
  HasFn.of T.at__law_belief_of S__law_belief_of (by decide) fun f cdv A outer s H E hr => ⟨[], by
    have S := S__law_belief_of
    exact
     (lss_cons (ls_set 2 S.nd (le_callN (ok__law_add T) hr (by decide) (by rfl) (la_cons (le_ixA (hu64 hr) (lb_var 1) (lb_of_le le_int)) (la_cons (le_callN (ok__law_div T) hr (by decide) (by rfl) (la_cons (le_var 0) (la_cons (le_ixA (hu64 hr) (lb_var 1) (lb_of_le le_int)) la_nil)) (aCons_len (aCons_len aNil_len))) la_nil)) (aCons_len (aCons_len aNil_len)))) (lss_one (ls_ret (ms' := []) (le_ifexp (lt_tru (lb_of_le (le_callN (ok__law_less T) hr (by decide) (by rfl) (la_cons (le_ixA (hu64 hr) (lb_var 1) (lb_of_le le_int)) (la_cons (le_var 2) la_nil)) (aCons_len (aCons_len aNil_len))))) (le_tup (la_cons (le_ixA (hu64 hr) (lb_var 1) (lb_of_le le_int)) (la_cons (le_var 2) la_nil))) le_non))))⟩

/-! ### _law_two_of -/
abbrev N__law_two_of : List Str := ["limit", "holders", "spans", "i", "j", "holder"]
theorem S__law_two_of : FnScope N__law_two_of ["limit", "holders"] (defScope s__law_two_of) := ⟨rfl, rfl, rfl, by decide +kernel, rfl, by decide +kernel, by decide +kernel⟩
theorem ok__law_two_of (T : Tf K mg) : HasFn P w K mg base ns "_law_two_of" 5 2 (F__law_two_of) :=
  HasFn.of T.at__law_two_of S__law_two_of (by decide) fun f cdv A outer s H E hr => ⟨[], by
    have S := S__law_two_of
    exact
     (lss_cons (ls_weak (m2 := [2]) (by rfl) (ls_setLc 2 [("holder", 5)] (m2 := []) rfl S.nd (li_list (le_var 1)) (by rfl) (blkOk_by (by rfl)) (fun _ _ _ _ _ => (lg_name 5 S.nd)) (fun _ _ _ _ _ => lts_nil) (fun _ _ _ _ _ => (le_callN (ok__law_belief_of T) hr (by decide) (by rfl) (la_cons (le_var 0) (la_cons (le_var 5) la_nil)) (aCons_len (aCons_len aNil_len)))))) (lss_cons (ls_for (ml := [2]) (vs := [3]) PassesOwn.never rfl (li_range1 (by rfl) T.m_range (lab_cons (lb_of_ln (lx_callB (R := rN) call_lenX opn_len (by rfl) T.m_len boot_len (lab_cons (lb_var 2) lab_nil))) lab_nil)) (by rfl) (lg_name 3 S.nd)
      (lss_one (ls_for (ml := [2]) (vs := [4]) PassesOwn.never rfl (li_range2 (by rfl) T.m_range (lab_cons (lb_of_ln (lx_bin (R := rN) op_addX op2_add (lb_var 3) (lb_of_le le_int))) (lab_cons (lb_of_ln (lx_callB (R := rN) call_lenX opn_len (by rfl) T.m_len boot_len (lab_cons (lb_var 2) lab_nil))) lab_nil))) (by rfl) (lg_name 4 S.nd)
      (lss_one (ls_if (lt_of_lw (lw_and (lt_cmp op_notN op2_notN (lb_of_le (le_ixA (hu64 hr) (lb_var 2) (lb_var 3))) (lb_of_le le_non)) (lw_and (lt_cmp op_notN op2_notN (lb_of_le (le_ixA (hu64 hr) (lb_var 2) (lb_var 4))) (lb_of_le le_non)) (lw_and (lt_tru (lb_of_le (le_callN (ok__law_less T) hr (by decide) (by rfl) (la_cons (le_ixA (hu64 hr) (lb_of_le (le_ixA (hu64 hr) (lb_var 2) (lb_var 3))) (lb_of_le le_int)) (la_cons (le_ixA (hu64 hr) (lb_of_le (le_ixA (hu64 hr) (lb_var 2) (lb_var 4))) (lb_of_le le_int)) la_nil)) (aCons_len (aCons_len aNil_len))))) (lw_and1 (lt_tru (lb_of_le (le_callN (ok__law_less T) hr (by decide) (by rfl) (la_cons (le_ixA (hu64 hr) (lb_of_le (le_ixA (hu64 hr) (lb_var 2) (lb_var 4))) (lb_of_le le_int)) (la_cons (le_ixA (hu64 hr) (lb_of_le (le_ixA (hu64 hr) (lb_var 2) (lb_var 3))) (lb_of_le le_int)) la_nil)) (aCons_len (aCons_len aNil_len))))))))))
      (lss_one (ls_ret (ms' := [2]) (le_tup (la_cons (le_var 3) (la_cons (le_var 4) la_nil)))))
      lss_nil))))) (lss_one (ls_ret (ms' := []) le_non))))⟩

/-! ### law -/
abbrev N_law : List Str := ["script", "pool", "turn", "safe", "greatest", "n", "told", "stories", "giver", "k", "one", "other", "slow", "fast", "length", "limit", "wide", "time", "holders", "asked", "given", "row", "holder", "rate"]
theorem S_law : FnScope N_law ["script"] (defScope s_law) := ⟨rfl, rfl, rfl, by decide +kernel, rfl, by decide +kernel, by decide +kernel⟩
theorem okL_law (T : Tf K mg) {fa : Addr} {fd : FuncData} (F : Fun K "law" "law" s_law fa fd) : FnOk P w K mg base CX0 18 fa fd ["script"] (spD K ns 1 (F_law ns)) :=
  fn_lift F S_law (by decide) fun cdv A outer s H E hr => ⟨[], by
    have S := S_law
    exact
     (lss_cons (ls_set 1 S.nd (le_callN (ok__law_pool T) hr (by decide) (by rfl) (la_cons (le_var 0) la_nil) (aCons_len aNil_len))) (lss_cons (ls_for (ml := []) (vs := [2]) PassesOwn.never rfl (li_range1 (by rfl) T.m_range (lab_cons (lb_of_le le_int) lab_nil)) (by rfl) (lg_name 2 S.nd)
      (lss_cons (ls_expr (le_callN (ok__law_next T) hr (by decide) (by rfl) (la_cons (le_var 1) la_nil) (aCons_len aNil_len))) (lss_cons (ls_par 10 11 rfl S.nd (le_callN (ok__law_above_none T) hr (by decide) (by rfl) (la_cons (le_var 1) (la_cons le_int la_nil)) (aCons_len (aCons_len aNil_len))) (le_callN (ok__law_above_none T) hr (by decide) (by rfl) (la_cons (le_var 1) (la_cons le_int la_nil)) (aCons_len (aCons_len aNil_len)))) (lss_cons (ls_asg (vs := [12, 13]) (le_ifexp (lt_tru (lb_of_le (le_callN (ok__law_less T) hr (by decide) (by rfl) (la_cons (le_var 10) (la_cons (le_var 11) la_nil)) (aCons_len (aCons_len aNil_len))))) (le_tup (la_cons (le_var 10) (la_cons (le_var 11) la_nil))) (le_tup (la_cons (le_var 11) (la_cons (le_var 10) la_nil)))) (lg_tup 2 rfl (lgs_cons (lg_name 12 S.nd) (lgs_cons (lg_name 13 S.nd) lgs_nil)) (gsCons_len (gsCons_len gs_len)))) (lss_cons (ls_par 14 15 rfl S.nd (le_callN (ok__law_above_none T) hr (by decide) (by rfl) (la_cons (le_var 1) (la_cons le_int la_nil)) (aCons_len (aCons_len aNil_len))) (le_callN (ok__law_above_none T) hr (by decide) (by rfl) (la_cons (le_var 1) (la_cons le_int la_nil)) (aCons_len (aCons_len aNil_len)))) (lss_cons (ls_set 3 S.nd (le_not (lb_of_le (le_callN (ok__law_less T) hr (by decide) (by rfl) (la_cons (le_callN (ok__law_mul T) hr (by decide) (by rfl) (la_cons (le_var 14) (la_cons (le_var 12) la_nil)) (aCons_len (aCons_len aNil_len))) (la_cons (le_callN (ok__law_mul T) hr (by decide) (by rfl) (la_cons (le_var 15) (la_cons (le_var 13) la_nil)) (aCons_len (aCons_len aNil_len))) la_nil)) (aCons_len (aCons_len aNil_len)))))) (lss_cons (ls_set 4 S.nd (le_callN (ok__law_div T) hr (by decide) (by rfl) (la_cons (le_callN (ok__law_mul T) hr (by decide) (by rfl) (la_cons (le_var 14) (la_cons (le_var 12) la_nil)) (aCons_len (aCons_len aNil_len))) (la_cons (le_var 13) la_nil)) (aCons_len (aCons_len aNil_len)))) (lss_cons (ls_if (lt_of_lw (lw_or (lt_not (lt_tru (lb_of_le (le_callN (ok__law_same T) hr (by decide) (by rfl) (la_cons (le_callN (ok_is_safe T) hr (by decide) (by rfl) (la_cons (le_var 12) (la_cons (le_var 13) (la_cons (le_var 14) (la_cons (le_var 15) la_nil)))) (aCons_len (aCons_len (aCons_len (aCons_len aNil_len))))) (la_cons (le_var 3) la_nil)) (aCons_len (aCons_len aNil_len)))))) (lw_or (lt_not (lt_tru (lb_of_le (le_callN (ok__law_same T) hr (by decide) (by rfl) (la_cons (le_callN (ok_greatest_limit T) hr (by decide) (by rfl) (la_cons (le_var 12) (la_cons (le_var 13) (la_cons (le_var 14) la_nil))) (aCons_len (aCons_len (aCons_len aNil_len)))) (la_cons (le_var 4) la_nil)) (aCons_len (aCons_len aNil_len)))))) (lw_or (lt_cmp op_notBA op2_notBA (lb_of_le (le_callN (ok_is_safe T) hr (by decide) (by rfl) (la_cons (le_var 12) (la_cons (le_var 13) (la_cons (le_var 14) (la_cons (le_var 4) la_nil)))) (aCons_len (aCons_len (aCons_len (aCons_len aNil_len)))))) (lb_of_le le_bl)) (lw_or1 (lt_cmp op_notBA op2_notBA (lb_of_le (le_callN (ok_is_safe T) hr (by decide) (by rfl) (la_cons (le_var 12) (la_cons (le_var 13) (la_cons (le_var 14) (la_cons (le_callN (ok__law_add T) hr (by decide) (by rfl) (la_cons (le_var 4) (la_cons (le_tup (la_cons le_int (la_cons le_int la_nil))) la_nil)) (aCons_len (aCons_len aNil_len))) la_nil)))) (aCons_len (aCons_len (aCons_len (aCons_len aNil_len)))))) (lb_of_le le_bl)))))))
      (lss_one (ls_ret (ms' := []) le_bl))
      lss_nil) (lss_cons (ls_set 5 S.nd (le_callN (ok__law_above_none T) hr (by decide) (by rfl) (la_cons (le_var 1) (la_cons le_int la_nil)) (aCons_len (aCons_len aNil_len)))) (lss_cons (ls_if (lt_of_lw (lw_or (lt_cmp (op_neD (hu64 hr)) op2_ne (lb_of_le (le_callN (ok_is_safe T) hr (by decide) (by rfl) (la_cons (le_var 12) (la_cons (le_var 13) (la_cons (le_callN (ok__law_mul T) hr (by decide) (by rfl) (la_cons (le_var 5) (la_cons (le_var 14) la_nil)) (aCons_len (aCons_len aNil_len))) (la_cons (le_callN (ok__law_mul T) hr (by decide) (by rfl) (la_cons (le_var 5) (la_cons (le_var 15) la_nil)) (aCons_len (aCons_len aNil_len))) la_nil)))) (aCons_len (aCons_len (aCons_len (aCons_len aNil_len)))))) (lb_var 3)) (lw_or1 (lt_cmp (op_neD (hu64 hr)) op2_ne (lb_of_le (le_callN (ok_is_safe T) hr (by decide) (by rfl) (la_cons (le_callN (ok__law_mul T) hr (by decide) (by rfl) (la_cons (le_var 5) (la_cons (le_var 12) la_nil)) (aCons_len (aCons_len aNil_len))) (la_cons (le_callN (ok__law_mul T) hr (by decide) (by rfl) (la_cons (le_var 5) (la_cons (le_var 13) la_nil)) (aCons_len (aCons_len aNil_len))) (la_cons (le_var 14) (la_cons (le_var 15) la_nil)))) (aCons_len (aCons_len (aCons_len (aCons_len aNil_len)))))) (lb_var 3)))))
      (lss_one (ls_ret (ms' := []) le_bl))
      lss_nil) (lss_cons (ls_set 6 S.nd (le_callN (ok_bad_story T) hr (by decide) (by rfl) (la_cons (le_var 12) (la_cons (le_var 13) (la_cons (le_var 14) (la_cons (le_var 15) la_nil)))) (aCons_len (aCons_len (aCons_len (aCons_len aNil_len)))))) (lss_cons (ls_if (lt_cmp (op_neD (hu64 hr)) op2_ne (lb_of_ln (lx_cmp (R := rN) op_isN op2_isN (lb_var 6) (lb_of_le le_non))) (lb_var 3))
      (lss_one (ls_ret (ms' := []) le_bl))
      lss_nil) (lss_cons (ls_weak (m2 := [7]) (by rfl) (ls_setO 7 S.nd (ln_lst la_nil))) (lss_cons (ls_if (lt_cmp op_notN op2_notN (lb_var 6) (lb_of_le le_non))
      (lss_cons (ls_asg (vs := [8, 18]) (le_var 6) (lg_tup 2 rfl (lgs_cons (lg_name 8 S.nd) (lgs_cons (lg_name 18 S.nd) lgs_nil)) (gsCons_len (gsCons_len gs_len)))) (lss_cons (ls_if (lt_of_lw (lw_or (lt_cmp (op_neD (hu64 hr)) op2_ne (lb_of_ln (lx_callB (R := rN) call_lenX opn_len (by rfl) T.m_len boot_len (lab_cons (lb_var 18) lab_nil))) (lb_of_le le_int)) (lw_or (lt_not (lt_tru (lb_of_le (le_callN (ok__law_story_right T) hr (by decide) (by rfl) (la_cons (le_var 12) (la_cons (le_var 13) (la_cons (le_var 14) (la_cons (le_var 8) (la_cons (le_var 18) la_nil))))) (aCons_len (aCons_len (aCons_len (aCons_len (aCons_len aNil_len))))))))) (lw_or (lt_cmp (op_neD (hu64 hr)) op2_ne (lb_of_le (le_callN (ok__law_two_of T) hr (by decide) (by rfl) (la_cons (le_var 15) (la_cons (le_var 18) la_nil)) (aCons_len (aCons_len aNil_len)))) (lb_of_le (le_tup (la_cons le_int (la_cons le_int la_nil))))) (lw_or1 (lt_cmp op_notBA op2_notBA (lb_of_le (le_callN (ok_judge_story T) hr (by decide) (by rfl) (la_cons (le_var 12) (la_cons (le_var 13) (la_cons (le_var 14) (la_cons (le_var 15) (la_cons (le_var 8) (la_cons (le_var 18) la_nil)))))) (aCons_len (aCons_len (aCons_len (aCons_len (aCons_len (aCons_len aNil_len)))))))) (lb_of_le le_bl)))))))
      (lss_one (ls_ret (ms' := [7]) le_bl))
      lss_nil) (lss_cons (ls_meth 7 PySem.F.slot_list_append PySem.F.type_list_append mt_append opm_append dAppend_l (la_cons (le_tup (la_cons (le_var 8) (la_cons (le_of_ln (lx_callTy (R := rN) call_list_of opn_list (by rfl) T.m_list boot_list (lab_cons (lb_var 18) lab_nil))) la_nil))) la_nil)) (lss_cons (ls_weak (m2 := [16, 7]) (by rfl) (ls_setLc 16 [("rate", 23), ("asked", 19), ("given", 20)] (m2 := [7]) rfl S.nd (li_list (le_var 18)) (by rfl) (blkOk_by (by rfl)) (fun _ _ _ _ _ => (lg_tup 3 rfl (lgs_cons (lg_name 23 S.nd) (lgs_cons (lg_name 19 S.nd) (lgs_cons (lg_name 20 S.nd) lgs_nil))) (gsCons_len (gsCons_len (gsCons_len gs_len))))) (fun _ _ _ _ _ => lts_nil) (fun _ _ _ _ _ => (le_tup (la_cons (le_var 23) (la_cons (le_callN (ok__law_mul T) hr (by decide) (by rfl) (la_cons (le_var 5) (la_cons (le_var 19) la_nil)) (aCons_len (aCons_len aNil_len))) (la_cons (le_callN (ok__law_mul T) hr (by decide) (by rfl) (la_cons (le_var 5) (la_cons (le_var 20) la_nil)) (aCons_len (aCons_len aNil_len))) la_nil))))))) (lss_one (ls_pre (m1 := [7]) (by rfl) (ls_if (lt_cmp op_notBA op2_notBA (lb_of_le (le_callN (ok_judge_story T) hr (by decide) (by rfl) (la_cons (le_var 12) (la_cons (le_var 13) (la_cons (le_callN (ok__law_mul T) hr (by decide) (by rfl) (la_cons (le_var 5) (la_cons (le_var 14) la_nil)) (aCons_len (aCons_len aNil_len))) (la_cons (le_callN (ok__law_mul T) hr (by decide) (by rfl) (la_cons (le_var 5) (la_cons (le_var 15) la_nil)) (aCons_len (aCons_len aNil_len))) (la_cons (le_var 8) (la_cons (le_var 16) la_nil)))))) (aCons_len (aCons_len (aCons_len (aCons_len (aCons_len (aCons_len aNil_len)))))))) (lb_of_le le_bl))
      (lss_one (ls_ret (ms' := [7]) le_bl))
      lss_nil)))))))
      lss_nil) (lss_cons (ls_expr (le_callN (ok__law_next T) hr (by decide) (by rfl) (la_cons (le_var 1) la_nil) (aCons_len aNil_len))) (lss_cons (ls_weak (m2 := [18, 7]) (by rfl) (ls_parEN 17 18 rfl S.nd (le_tup (la_cons le_int (la_cons le_int la_nil))) (ln_lst la_nil))) (lss_cons (ls_set 8 S.nd (le_callN (ok__law_pick T) hr (by decide) (by rfl) (la_cons (le_var 1) (la_cons (le_of_ln (ln_lst (la_cons (le_var 12) (la_cons (le_var 13) la_nil)))) la_nil)) (aCons_len (aCons_len aNil_len)))) (lss_cons (ls_for (ml := [18, 7]) (vs := [9]) PassesOwn.never rfl (li_range1 (by rfl) T.m_range (lab_cons (lb_of_ln (lx_bin (R := rN) op_addX op2_add (lb_of_le le_int) (lb_of_le (le_callN (ok__law_draw T) hr (by decide) (by rfl) (la_cons (le_var 1) (la_cons le_int la_nil)) (aCons_len (aCons_len aNil_len)))))) lab_nil)) (by rfl) (lg_name 9 S.nd)
      (lss_cons (ls_set 19 S.nd (le_callN (ok__law_add T) hr (by decide) (by rfl) (la_cons (le_var 17) (la_cons (le_callN (ok__law_pick T) hr (by decide) (by rfl) (la_cons (le_var 1) (la_cons (le_of_ln (ln_lst (la_cons (le_tup (la_cons le_int (la_cons le_int la_nil))) (la_cons (le_tup (la_cons le_int (la_cons le_int la_nil))) (la_cons (le_tup (la_cons le_int (la_cons le_int la_nil))) la_nil))))) la_nil)) (aCons_len (aCons_len aNil_len))) la_nil)) (aCons_len (aCons_len aNil_len)))) (lss_cons (ls_set 20 S.nd (le_callN (ok__law_add T) hr (by decide) (by rfl) (la_cons (le_var 19) (la_cons (le_callN (ok__law_pick T) hr (by decide) (by rfl) (la_cons (le_var 1) (la_cons (le_of_ln (ln_lst (la_cons (le_tup (la_cons le_int (la_cons le_int la_nil))) (la_cons (le_tup (la_cons le_int (la_cons le_int la_nil))) (la_cons (le_tup (la_cons le_int (la_cons le_int la_nil))) la_nil))))) la_nil)) (aCons_len (aCons_len aNil_len))) la_nil)) (aCons_len (aCons_len aNil_len)))) (lss_cons (ls_meth 18 PySem.F.slot_list_append PySem.F.type_list_append mt_append opm_append dAppend_l (la_cons (le_tup (la_cons (le_callN (ok__law_pick T) hr (by decide) (by rfl) (la_cons (le_var 1) (la_cons (le_of_ln (ln_lst (la_cons (le_var 12) (la_cons (le_var 13) la_nil)))) la_nil)) (aCons_len (aCons_len aNil_len))) (la_cons (le_var 19) (la_cons (le_var 20) la_nil)))) la_nil)) (lss_one (ls_set 17 S.nd (le_callN (ok__law_add T) hr (by decide) (by rfl) (la_cons (le_var 20) (la_cons (le_callN (ok__law_mul T) hr (by decide) (by rfl) (la_cons (le_callN (ok__law_pick T) hr (by decide) (by rfl) (la_cons (le_var 1) (la_cons (le_of_ln (ln_lst (la_cons (le_tup (la_cons le_int (la_cons le_int la_nil))) (la_cons (le_tup (la_cons le_int (la_cons le_int la_nil))) (la_cons (le_tup (la_cons le_int (la_cons le_int la_nil))) la_nil))))) la_nil)) (aCons_len (aCons_len aNil_len))) (la_cons (le_callN (ok__law_div T) hr (by decide) (by rfl) (la_cons (le_var 14) (la_cons (le_var 8) la_nil)) (aCons_len (aCons_len aNil_len))) la_nil)) (aCons_len (aCons_len aNil_len))) la_nil)) (aCons_len (aCons_len aNil_len))))))))) (lss_cons (ls_pre (m1 := [7]) (by rfl) (ls_meth 7 PySem.F.slot_list_append PySem.F.type_list_append mt_append opm_append dAppend_l (la_cons (le_tup (la_cons (le_var 8) (la_cons (le_var 18) la_nil))) la_nil))) (lss_one (ls_pre (m1 := []) (by rfl) (ls_for (ml := []) (vs := [8, 18]) PassesOwn.never rfl (li_list (le_var 7)) (by rfl) (lg_tup 2 rfl (lgs_cons (lg_name 8 S.nd) (lgs_cons (lg_name 18 S.nd) lgs_nil)) (gsCons_len (gsCons_len gs_len)))
      (lss_one (ls_for (ml := []) (vs := [21]) PassesOwn.never rfl (li_list (le_of_ln (ln_lst (la_cons (le_var 18) (la_cons (le_of_ln (ln_rev (lb_var 18))) (la_cons (le_of_ln (lx_bin (R := rN) op_addX op2_add (lb_of_ln (ln_slice (lb_var 18) lpo_none (lpo_some (lb_of_le le_int)))) (lb_var 18))) (la_cons (le_of_ln (ln_lc [("rate", 23), ("asked", 19), ("given", 20)] (m2 := []) rfl S.nd (li_list (le_var 18)) (by rfl) (blkOk_by (by rfl)) (fun _ _ _ _ _ => (lg_tup 3 rfl (lgs_cons (lg_name 23 S.nd) (lgs_cons (lg_name 19 S.nd) (lgs_cons (lg_name 20 S.nd) lgs_nil))) (gsCons_len (gsCons_len (gsCons_len gs_len))))) (fun _ _ _ _ _ => lts_nil) (fun _ _ _ _ _ => (le_tup (la_cons (le_var 23) (la_cons (le_var 20) (la_cons (le_var 19) la_nil))))))) (la_cons (le_of_ln (ln_lc [("rate", 23), ("asked", 19), ("given", 20)] (m2 := []) rfl S.nd (li_list (le_var 18)) (by rfl) (blkOk_by (by rfl)) (fun _ _ _ _ _ => (lg_tup 3 rfl (lgs_cons (lg_name 23 S.nd) (lgs_cons (lg_name 19 S.nd) (lgs_cons (lg_name 20 S.nd) lgs_nil))) (gsCons_len (gsCons_len (gsCons_len gs_len))))) (fun _ _ _ _ _ => lts_nil) (fun _ _ _ _ _ => (le_tup (la_cons (le_callN (ok__law_mul T) hr (by decide) (by rfl) (la_cons (le_tup (la_cons le_int (la_cons le_int la_nil))) (la_cons (le_var 23) la_nil)) (aCons_len (aCons_len aNil_len))) (la_cons (le_var 19) (la_cons (le_var 20) la_nil))))))) la_nil)))))))) (by rfl) (lg_name 21 S.nd)
      (lss_cons (ls_if (lt_not (lt_tru (lb_of_le (le_callN (ok__law_same T) hr (by decide) (by rfl) (la_cons (le_callN (ok_is_right T) hr (by decide) (by rfl) (la_cons (le_var 12) (la_cons (le_var 13) (la_cons (le_var 14) (la_cons (le_var 8) (la_cons (le_var 21) la_nil))))) (aCons_len (aCons_len (aCons_len (aCons_len (aCons_len aNil_len)))))) (la_cons (le_callN (ok__law_story_right T) hr (by decide) (by rfl) (la_cons (le_var 12) (la_cons (le_var 13) (la_cons (le_var 14) (la_cons (le_var 8) (la_cons (le_var 21) la_nil))))) (aCons_len (aCons_len (aCons_len (aCons_len (aCons_len aNil_len)))))) la_nil)) (aCons_len (aCons_len aNil_len))))))
      (lss_one (ls_ret (ms' := []) le_bl))
      lss_nil) (lss_one (ls_if (lt_cmp (op_eqD (hu64 hr)) op2_eq (lb_of_ln (lx_callB (R := rN) call_lenX opn_len (by rfl) T.m_len boot_len (lab_cons (lb_of_ln (ln_lc [("one", 10)] (m2 := []) rfl S.nd (li_list (le_var 21)) (by rfl) (blkOk_by (by rfl)) (fun _ _ _ _ _ => (lg_name 10 S.nd)) (fun _ _ _ _ _ => (lts_one (lt_tru (lb_of_le (le_callN (ok__law_less T) hr (by decide) (by rfl) (la_cons (le_ixA (hu64 hr) (lb_var 10) (lb_of_le le_int)) (la_cons (le_ixA (hu64 hr) (lb_var 10) (lb_of_le le_int)) la_nil)) (aCons_len (aCons_len aNil_len))))))) (fun _ _ _ _ _ => (le_var 10)))) lab_nil))) (lb_of_le le_int))
      (lss_cons (ls_for (ml := []) (vs := [22]) PassesOwn.never rfl (li_list (le_var 21)) (by rfl) (lg_name 22 S.nd)
      (lss_one (ls_if (lt_not (lt_tru (lb_of_le (le_callN (ok__law_same T) hr (by decide) (by rfl) (la_cons (le_callN (ok_belief T) hr (by decide) (by rfl) (la_cons (le_var 15) (la_cons (le_var 22) la_nil)) (aCons_len (aCons_len aNil_len))) (la_cons (le_callN (ok__law_belief_of T) hr (by decide) (by rfl) (la_cons (le_var 15) (la_cons (le_var 22) la_nil)) (aCons_len (aCons_len aNil_len))) la_nil)) (aCons_len (aCons_len aNil_len))))))
      (lss_one (ls_ret (ms' := []) le_bl))
      lss_nil))) (lss_cons (ls_if (lt_not (lt_tru (lb_of_le (le_callN (ok__law_same T) hr (by decide) (by rfl) (la_cons (le_callN (ok_two_believe T) hr (by decide) (by rfl) (la_cons (le_var 15) (la_cons (le_var 21) la_nil)) (aCons_len (aCons_len aNil_len))) (la_cons (le_callN (ok__law_two_of T) hr (by decide) (by rfl) (la_cons (le_var 15) (la_cons (le_var 21) la_nil)) (aCons_len (aCons_len aNil_len))) la_nil)) (aCons_len (aCons_len aNil_len))))))
      (lss_one (ls_ret (ms' := []) le_bl))
      lss_nil) (lss_cons (ls_if (lt_not (lt_tru (lb_of_le (le_callN (ok__law_same T) hr (by decide) (by rfl) (la_cons (le_callN (ok_judge_story T) hr (by decide) (by rfl) (la_cons (le_var 12) (la_cons (le_var 13) (la_cons (le_var 14) (la_cons (le_var 15) (la_cons (le_var 8) (la_cons (le_var 21) la_nil)))))) (aCons_len (aCons_len (aCons_len (aCons_len (aCons_len (aCons_len aNil_len))))))) (la_cons (le_and (le_callN (ok__law_story_right T) hr (by decide) (by rfl) (la_cons (le_var 12) (la_cons (le_var 13) (la_cons (le_var 14) (la_cons (le_var 8) (la_cons (le_var 21) la_nil))))) (aCons_len (aCons_len (aCons_len (aCons_len (aCons_len aNil_len)))))) (le_one (le_of_ln (lx_cmp (R := rN) op_notN op2_notN (lb_of_le (le_callN (ok__law_two_of T) hr (by decide) (by rfl) (la_cons (le_var 15) (la_cons (le_var 21) la_nil)) (aCons_len (aCons_len aNil_len)))) (lb_of_le le_non))))) la_nil)) (aCons_len (aCons_len aNil_len))))))
      (lss_one (ls_ret (ms' := []) le_bl))
      lss_nil) (lss_one (ls_if (lt_of_lw (lw_and (lt_tru (lb_var 3)) (lw_and1 (lt_cmp op_notBA op2_notBA (lb_of_le (le_callN (ok_judge_story T) hr (by decide) (by rfl) (la_cons (le_var 12) (la_cons (le_var 13) (la_cons (le_var 14) (la_cons (le_var 15) (la_cons (le_var 8) (la_cons (le_var 21) la_nil)))))) (aCons_len (aCons_len (aCons_len (aCons_len (aCons_len (aCons_len aNil_len)))))))) (lb_of_le le_bl)))))
      (lss_one (ls_ret (ms' := []) le_bl))
      lss_nil)))))
      lss_nil))))))))))))))))))))))))))) (lss_one (ls_ret (ms' := []) le_bl))))⟩
end
end G


namespace G
open PySem PySem.Spec PyProof.Rows L2 Lf Pre
theorem law_ok {P : Program} {w : World} {K : PySem.W.Frag} {mg : Str → Option Value} {base : Heap} (T : Tf K mg) {fa : Addr} {fd : FuncData} (F : Fun K "law" "law" s_law fa fd) : FnOk P w K mg base CX0 18 fa fd ["script"] (spLaw K) :=
  law_fn (F := F_law) (fun ns => okL_law T F) plain_law
theorem fin {w : World} {K : PySem.W.Frag} {h : Heap} {mg : Str → Option Value} {fa : Addr} (X : K.In h) (G : h.Ns mainGlobals mg) (hfa : mg "law" = some (.ref fa))
    (b0 : PySem.W.nsIn K mainGlobals "abs" = some none)
    (b1 : PySem.W.nsIn K mainGlobals "all" = some none)
    (b2 : PySem.W.nsIn K mainGlobals "bool" = some none)
    (b3 : PySem.W.nsIn K mainGlobals "dict" = some none)
    (b4 : PySem.W.nsIn K mainGlobals "int" = some none)
    (b5 : PySem.W.nsIn K mainGlobals "isinstance" = some none)
    (b6 : PySem.W.nsIn K mainGlobals "len" = some none)
    (b7 : PySem.W.nsIn K mainGlobals "list" = some none)
    (b8 : PySem.W.nsIn K mainGlobals "range" = some none)
    (b9 : PySem.W.nsIn K mainGlobals "str" = some none)
    (b10 : PySem.W.nsIn K mainGlobals "tuple" = some none)
    (i0 : PySem.W.nsIn K mainGlobals "gcd" = some (some (.builtin "math.gcd")))
    {ca0 : Addr} {co0 : Option Addr} {cs0 : Array (Option Value)} {cn0 : Nat} {tk0_0 tk0_1 : Tok} (c0 : PySem.W.nsIn K mainGlobals "NOUGHT" = some (some (.ref ca0))) (d0 : K.lookup ca0 = some ⟨.type "tuple", co0, .seq #[.int 0 tk0_0, .int 1 tk0_1] cn0, cs0⟩)
    {f0 : Addr} {oc0 kV0 dc0 pm0 cd0 ct0 : Value} {od0 an0 : Option Addr} {sl0 : Array (Option Value)} (a0 : PySem.W.nsIn K mainGlobals "frac" = some (some (.ref f0))) (l0 : K.lookup f0 = some ⟨oc0, od0, .func (PySem.W.fnOf "frac" "frac" (defArgs s_frac) (defBody s_frac) (defScope s_frac) .none kV0 dc0 pm0 an0 cd0 ct0), sl0⟩) (e0 : PySem.W.codeIn K cd0 "frac" = true) (k0 : PySem.W.keepIn K (.ref f0) = true)
    {f1 : Addr} {oc1 kV1 dc1 pm1 cd1 ct1 : Value} {od1 an1 : Option Addr} {sl1 : Array (Option Value)} (a1 : PySem.W.nsIn K mainGlobals "plus" = some (some (.ref f1))) (l1 : K.lookup f1 = some ⟨oc1, od1, .func (PySem.W.fnOf "plus" "plus" (defArgs s_plus) (defBody s_plus) (defScope s_plus) .none kV1 dc1 pm1 an1 cd1 ct1), sl1⟩) (e1 : PySem.W.codeIn K cd1 "plus" = true) (k1 : PySem.W.keepIn K (.ref f1) = true)
    {f2 : Addr} {oc2 kV2 dc2 pm2 cd2 ct2 : Value} {od2 an2 : Option Addr} {sl2 : Array (Option Value)} (a2 : PySem.W.nsIn K mainGlobals "times" = some (some (.ref f2))) (l2 : K.lookup f2 = some ⟨oc2, od2, .func (PySem.W.fnOf "times" "times" (defArgs s_times) (defBody s_times) (defScope s_times) .none kV2 dc2 pm2 an2 cd2 ct2), sl2⟩) (e2 : PySem.W.codeIn K cd2 "times" = true) (k2 : PySem.W.keepIn K (.ref f2) = true)
    {f3 : Addr} {oc3 kV3 dc3 pm3 cd3 ct3 : Value} {od3 an3 : Option Addr} {sl3 : Array (Option Value)} (a3 : PySem.W.nsIn K mainGlobals "over" = some (some (.ref f3))) (l3 : K.lookup f3 = some ⟨oc3, od3, .func (PySem.W.fnOf "over" "over" (defArgs s_over) (defBody s_over) (defScope s_over) .none kV3 dc3 pm3 an3 cd3 ct3), sl3⟩) (e3 : PySem.W.codeIn K cd3 "over" = true) (k3 : PySem.W.keepIn K (.ref f3) = true)
    {f4 : Addr} {oc4 kV4 dc4 pm4 cd4 ct4 : Value} {od4 an4 : Option Addr} {sl4 : Array (Option Value)} (a4 : PySem.W.nsIn K mainGlobals "less" = some (some (.ref f4))) (l4 : K.lookup f4 = some ⟨oc4, od4, .func (PySem.W.fnOf "less" "less" (defArgs s_less) (defBody s_less) (defScope s_less) .none kV4 dc4 pm4 an4 cd4 ct4), sl4⟩) (e4 : PySem.W.codeIn K cd4 "less" = true) (k4 : PySem.W.keepIn K (.ref f4) = true)
    {f5 : Addr} {oc5 kV5 dc5 pm5 cd5 ct5 : Value} {od5 an5 : Option Addr} {sl5 : Array (Option Value)} (a5 : PySem.W.nsIn K mainGlobals "is_safe" = some (some (.ref f5))) (l5 : K.lookup f5 = some ⟨oc5, od5, .func (PySem.W.fnOf "is_safe" "is_safe" (defArgs s_is_safe) (defBody s_is_safe) (defScope s_is_safe) .none kV5 dc5 pm5 an5 cd5 ct5), sl5⟩) (e5 : PySem.W.codeIn K cd5 "is_safe" = true) (k5 : PySem.W.keepIn K (.ref f5) = true)
    {f6 : Addr} {oc6 kV6 dc6 pm6 cd6 ct6 : Value} {od6 an6 : Option Addr} {sl6 : Array (Option Value)} (a6 : PySem.W.nsIn K mainGlobals "greatest_limit" = some (some (.ref f6))) (l6 : K.lookup f6 = some ⟨oc6, od6, .func (PySem.W.fnOf "greatest_limit" "greatest_limit" (defArgs s_greatest_limit) (defBody s_greatest_limit) (defScope s_greatest_limit) .none kV6 dc6 pm6 an6 cd6 ct6), sl6⟩) (e6 : PySem.W.codeIn K cd6 "greatest_limit" = true) (k6 : PySem.W.keepIn K (.ref f6) = true)
    {f7 : Addr} {oc7 kV7 dc7 pm7 cd7 ct7 : Value} {od7 an7 : Option Addr} {sl7 : Array (Option Value)} (a7 : PySem.W.nsIn K mainGlobals "is_within" = some (some (.ref f7))) (l7 : K.lookup f7 = some ⟨oc7, od7, .func (PySem.W.fnOf "is_within" "is_within" (defArgs s_is_within) (defBody s_is_within) (defScope s_is_within) .none kV7 dc7 pm7 an7 cd7 ct7), sl7⟩) (e7 : PySem.W.codeIn K cd7 "is_within" = true) (k7 : PySem.W.keepIn K (.ref f7) = true)
    {f8 : Addr} {oc8 kV8 dc8 pm8 cd8 ct8 : Value} {od8 an8 : Option Addr} {sl8 : Array (Option Value)} (a8 : PySem.W.nsIn K mainGlobals "is_right" = some (some (.ref f8))) (l8 : K.lookup f8 = some ⟨oc8, od8, .func (PySem.W.fnOf "is_right" "is_right" (defArgs s_is_right) (defBody s_is_right) (defScope s_is_right) .none kV8 dc8 pm8 an8 cd8 ct8), sl8⟩) (e8 : PySem.W.codeIn K cd8 "is_right" = true) (k8 : PySem.W.keepIn K (.ref f8) = true)
    {f9 : Addr} {oc9 kV9 dc9 pm9 cd9 ct9 : Value} {od9 an9 : Option Addr} {sl9 : Array (Option Value)} (a9 : PySem.W.nsIn K mainGlobals "belief" = some (some (.ref f9))) (l9 : K.lookup f9 = some ⟨oc9, od9, .func (PySem.W.fnOf "belief" "belief" (defArgs s_belief) (defBody s_belief) (defScope s_belief) .none kV9 dc9 pm9 an9 cd9 ct9), sl9⟩) (e9 : PySem.W.codeIn K cd9 "belief" = true) (k9 : PySem.W.keepIn K (.ref f9) = true)
    {f10 : Addr} {oc10 kV10 dc10 pm10 cd10 ct10 : Value} {od10 an10 : Option Addr} {sl10 : Array (Option Value)} (a10 : PySem.W.nsIn K mainGlobals "meet" = some (some (.ref f10))) (l10 : K.lookup f10 = some ⟨oc10, od10, .func (PySem.W.fnOf "meet" "meet" (defArgs s_meet) (defBody s_meet) (defScope s_meet) .none kV10 dc10 pm10 an10 cd10 ct10), sl10⟩) (e10 : PySem.W.codeIn K cd10 "meet" = true) (k10 : PySem.W.keepIn K (.ref f10) = true)
    {f11 : Addr} {oc11 kV11 dc11 pm11 cd11 ct11 : Value} {od11 an11 : Option Addr} {sl11 : Array (Option Value)} (a11 : PySem.W.nsIn K mainGlobals "two_believe" = some (some (.ref f11))) (l11 : K.lookup f11 = some ⟨oc11, od11, .func (PySem.W.fnOf "two_believe" "two_believe" (defArgs s_two_believe) (defBody s_two_believe) (defScope s_two_believe) .none kV11 dc11 pm11 an11 cd11 ct11), sl11⟩) (e11 : PySem.W.codeIn K cd11 "two_believe" = true) (k11 : PySem.W.keepIn K (.ref f11) = true)
    {f12 : Addr} {oc12 kV12 dc12 pm12 cd12 ct12 : Value} {od12 an12 : Option Addr} {sl12 : Array (Option Value)} (a12 : PySem.W.nsIn K mainGlobals "bad_story" = some (some (.ref f12))) (l12 : K.lookup f12 = some ⟨oc12, od12, .func (PySem.W.fnOf "bad_story" "bad_story" (defArgs s_bad_story) (defBody s_bad_story) (defScope s_bad_story) .none kV12 dc12 pm12 an12 cd12 ct12), sl12⟩) (e12 : PySem.W.codeIn K cd12 "bad_story" = true) (k12 : PySem.W.keepIn K (.ref f12) = true)
    {f13 : Addr} {oc13 kV13 dc13 pm13 cd13 ct13 : Value} {od13 an13 : Option Addr} {sl13 : Array (Option Value)} (a13 : PySem.W.nsIn K mainGlobals "judge_story" = some (some (.ref f13))) (l13 : K.lookup f13 = some ⟨oc13, od13, .func (PySem.W.fnOf "judge_story" "judge_story" (defArgs s_judge_story) (defBody s_judge_story) (defScope s_judge_story) .none kV13 dc13 pm13 an13 cd13 ct13), sl13⟩) (e13 : PySem.W.codeIn K cd13 "judge_story" = true) (k13 : PySem.W.keepIn K (.ref f13) = true)
    {f14 : Addr} {oc14 kV14 dc14 pm14 cd14 ct14 : Value} {od14 an14 : Option Addr} {sl14 : Array (Option Value)} (a14 : PySem.W.nsIn K mainGlobals "_law_mixed" = some (some (.ref f14))) (l14 : K.lookup f14 = some ⟨oc14, od14, .func (PySem.W.fnOf "_law_mixed" "_law_mixed" (defArgs s__law_mixed) (defBody s__law_mixed) (defScope s__law_mixed) .none kV14 dc14 pm14 an14 cd14 ct14), sl14⟩) (e14 : PySem.W.codeIn K cd14 "_law_mixed" = true) (k14 : PySem.W.keepIn K (.ref f14) = true)
    {f15 : Addr} {oc15 kV15 dc15 pm15 cd15 ct15 : Value} {od15 an15 : Option Addr} {sl15 : Array (Option Value)} (a15 : PySem.W.nsIn K mainGlobals "_law_rest" = some (some (.ref f15))) (l15 : K.lookup f15 = some ⟨oc15, od15, .func (PySem.W.fnOf "_law_rest" "_law_rest" (defArgs s__law_rest) (defBody s__law_rest) (defScope s__law_rest) .none kV15 dc15 pm15 an15 cd15 ct15), sl15⟩) (e15 : PySem.W.codeIn K cd15 "_law_rest" = true) (k15 : PySem.W.keepIn K (.ref f15) = true)
    {f16 : Addr} {oc16 kV16 dc16 pm16 cd16 ct16 : Value} {od16 an16 : Option Addr} {sl16 : Array (Option Value)} (a16 : PySem.W.nsIn K mainGlobals "_law_pool" = some (some (.ref f16))) (l16 : K.lookup f16 = some ⟨oc16, od16, .func (PySem.W.fnOf "_law_pool" "_law_pool" (defArgs s__law_pool) (defBody s__law_pool) (defScope s__law_pool) .none kV16 dc16 pm16 an16 cd16 ct16), sl16⟩) (e16 : PySem.W.codeIn K cd16 "_law_pool" = true) (k16 : PySem.W.keepIn K (.ref f16) = true)
    {f17 : Addr} {oc17 kV17 dc17 pm17 cd17 ct17 : Value} {od17 an17 : Option Addr} {sl17 : Array (Option Value)} (a17 : PySem.W.nsIn K mainGlobals "_law_next" = some (some (.ref f17))) (l17 : K.lookup f17 = some ⟨oc17, od17, .func (PySem.W.fnOf "_law_next" "_law_next" (defArgs s__law_next) (defBody s__law_next) (defScope s__law_next) .none kV17 dc17 pm17 an17 cd17 ct17), sl17⟩) (e17 : PySem.W.codeIn K cd17 "_law_next" = true) (k17 : PySem.W.keepIn K (.ref f17) = true)
    {f18 : Addr} {oc18 kV18 dc18 pm18 cd18 ct18 : Value} {od18 an18 : Option Addr} {sl18 : Array (Option Value)} (a18 : PySem.W.nsIn K mainGlobals "_law_draw" = some (some (.ref f18))) (l18 : K.lookup f18 = some ⟨oc18, od18, .func (PySem.W.fnOf "_law_draw" "_law_draw" (defArgs s__law_draw) (defBody s__law_draw) (defScope s__law_draw) .none kV18 dc18 pm18 an18 cd18 ct18), sl18⟩) (e18 : PySem.W.codeIn K cd18 "_law_draw" = true) (k18 : PySem.W.keepIn K (.ref f18) = true)
    {f19 : Addr} {oc19 kV19 dc19 pm19 cd19 ct19 : Value} {od19 an19 : Option Addr} {sl19 : Array (Option Value)} (a19 : PySem.W.nsIn K mainGlobals "_law_pick" = some (some (.ref f19))) (l19 : K.lookup f19 = some ⟨oc19, od19, .func (PySem.W.fnOf "_law_pick" "_law_pick" (defArgs s__law_pick) (defBody s__law_pick) (defScope s__law_pick) .none kV19 dc19 pm19 an19 cd19 ct19), sl19⟩) (e19 : PySem.W.codeIn K cd19 "_law_pick" = true) (k19 : PySem.W.keepIn K (.ref f19) = true)
    {f20 : Addr} {oc20 kV20 dc20 pm20 cd20 ct20 : Value} {od20 an20 : Option Addr} {sl20 : Array (Option Value)} (a20 : PySem.W.nsIn K mainGlobals "_law_same" = some (some (.ref f20))) (l20 : K.lookup f20 = some ⟨oc20, od20, .func (PySem.W.fnOf "_law_same" "_law_same" (defArgs s__law_same) (defBody s__law_same) (defScope s__law_same) .none kV20 dc20 pm20 an20 cd20 ct20), sl20⟩) (e20 : PySem.W.codeIn K cd20 "_law_same" = true) (k20 : PySem.W.keepIn K (.ref f20) = true)
    {f21 : Addr} {oc21 kV21 dc21 pm21 cd21 ct21 : Value} {od21 an21 : Option Addr} {sl21 : Array (Option Value)} (a21 : PySem.W.nsIn K mainGlobals "_law_gcd" = some (some (.ref f21))) (l21 : K.lookup f21 = some ⟨oc21, od21, .func (PySem.W.fnOf "_law_gcd" "_law_gcd" (defArgs s__law_gcd) (defBody s__law_gcd) (defScope s__law_gcd) .none kV21 dc21 pm21 an21 cd21 ct21), sl21⟩) (e21 : PySem.W.codeIn K cd21 "_law_gcd" = true) (k21 : PySem.W.keepIn K (.ref f21) = true)
    {f22 : Addr} {oc22 kV22 dc22 pm22 cd22 ct22 : Value} {od22 an22 : Option Addr} {sl22 : Array (Option Value)} (a22 : PySem.W.nsIn K mainGlobals "_law_ratio" = some (some (.ref f22))) (l22 : K.lookup f22 = some ⟨oc22, od22, .func (PySem.W.fnOf "_law_ratio" "_law_ratio" (defArgs s__law_ratio) (defBody s__law_ratio) (defScope s__law_ratio) .none kV22 dc22 pm22 an22 cd22 ct22), sl22⟩) (e22 : PySem.W.codeIn K cd22 "_law_ratio" = true) (k22 : PySem.W.keepIn K (.ref f22) = true)
    {f23 : Addr} {oc23 kV23 dc23 pm23 cd23 ct23 : Value} {od23 an23 : Option Addr} {sl23 : Array (Option Value)} (a23 : PySem.W.nsIn K mainGlobals "_law_above_none" = some (some (.ref f23))) (l23 : K.lookup f23 = some ⟨oc23, od23, .func (PySem.W.fnOf "_law_above_none" "_law_above_none" (defArgs s__law_above_none) (defBody s__law_above_none) (defScope s__law_above_none) .none kV23 dc23 pm23 an23 cd23 ct23), sl23⟩) (e23 : PySem.W.codeIn K cd23 "_law_above_none" = true) (k23 : PySem.W.keepIn K (.ref f23) = true)
    {f24 : Addr} {oc24 kV24 dc24 pm24 cd24 ct24 : Value} {od24 an24 : Option Addr} {sl24 : Array (Option Value)} (a24 : PySem.W.nsIn K mainGlobals "_law_less" = some (some (.ref f24))) (l24 : K.lookup f24 = some ⟨oc24, od24, .func (PySem.W.fnOf "_law_less" "_law_less" (defArgs s__law_less) (defBody s__law_less) (defScope s__law_less) .none kV24 dc24 pm24 an24 cd24 ct24), sl24⟩) (e24 : PySem.W.codeIn K cd24 "_law_less" = true) (k24 : PySem.W.keepIn K (.ref f24) = true)
    {f25 : Addr} {oc25 kV25 dc25 pm25 cd25 ct25 : Value} {od25 an25 : Option Addr} {sl25 : Array (Option Value)} (a25 : PySem.W.nsIn K mainGlobals "_law_mul" = some (some (.ref f25))) (l25 : K.lookup f25 = some ⟨oc25, od25, .func (PySem.W.fnOf "_law_mul" "_law_mul" (defArgs s__law_mul) (defBody s__law_mul) (defScope s__law_mul) .none kV25 dc25 pm25 an25 cd25 ct25), sl25⟩) (e25 : PySem.W.codeIn K cd25 "_law_mul" = true) (k25 : PySem.W.keepIn K (.ref f25) = true)
    {f26 : Addr} {oc26 kV26 dc26 pm26 cd26 ct26 : Value} {od26 an26 : Option Addr} {sl26 : Array (Option Value)} (a26 : PySem.W.nsIn K mainGlobals "_law_div" = some (some (.ref f26))) (l26 : K.lookup f26 = some ⟨oc26, od26, .func (PySem.W.fnOf "_law_div" "_law_div" (defArgs s__law_div) (defBody s__law_div) (defScope s__law_div) .none kV26 dc26 pm26 an26 cd26 ct26), sl26⟩) (e26 : PySem.W.codeIn K cd26 "_law_div" = true) (k26 : PySem.W.keepIn K (.ref f26) = true)
    {f27 : Addr} {oc27 kV27 dc27 pm27 cd27 ct27 : Value} {od27 an27 : Option Addr} {sl27 : Array (Option Value)} (a27 : PySem.W.nsIn K mainGlobals "_law_add" = some (some (.ref f27))) (l27 : K.lookup f27 = some ⟨oc27, od27, .func (PySem.W.fnOf "_law_add" "_law_add" (defArgs s__law_add) (defBody s__law_add) (defScope s__law_add) .none kV27 dc27 pm27 an27 cd27 ct27), sl27⟩) (e27 : PySem.W.codeIn K cd27 "_law_add" = true) (k27 : PySem.W.keepIn K (.ref f27) = true)
    {f28 : Addr} {oc28 kV28 dc28 pm28 cd28 ct28 : Value} {od28 an28 : Option Addr} {sl28 : Array (Option Value)} (a28 : PySem.W.nsIn K mainGlobals "_law_within_bounds" = some (some (.ref f28))) (l28 : K.lookup f28 = some ⟨oc28, od28, .func (PySem.W.fnOf "_law_within_bounds" "_law_within_bounds" (defArgs s__law_within_bounds) (defBody s__law_within_bounds) (defScope s__law_within_bounds) .none kV28 dc28 pm28 an28 cd28 ct28), sl28⟩) (e28 : PySem.W.codeIn K cd28 "_law_within_bounds" = true) (k28 : PySem.W.keepIn K (.ref f28) = true)
    {f29 : Addr} {oc29 kV29 dc29 pm29 cd29 ct29 : Value} {od29 an29 : Option Addr} {sl29 : Array (Option Value)} (a29 : PySem.W.nsIn K mainGlobals "_law_story_right" = some (some (.ref f29))) (l29 : K.lookup f29 = some ⟨oc29, od29, .func (PySem.W.fnOf "_law_story_right" "_law_story_right" (defArgs s__law_story_right) (defBody s__law_story_right) (defScope s__law_story_right) .none kV29 dc29 pm29 an29 cd29 ct29), sl29⟩) (e29 : PySem.W.codeIn K cd29 "_law_story_right" = true) (k29 : PySem.W.keepIn K (.ref f29) = true)
    {f30 : Addr} {oc30 kV30 dc30 pm30 cd30 ct30 : Value} {od30 an30 : Option Addr} {sl30 : Array (Option Value)} (a30 : PySem.W.nsIn K mainGlobals "_law_belief_of" = some (some (.ref f30))) (l30 : K.lookup f30 = some ⟨oc30, od30, .func (PySem.W.fnOf "_law_belief_of" "_law_belief_of" (defArgs s__law_belief_of) (defBody s__law_belief_of) (defScope s__law_belief_of) .none kV30 dc30 pm30 an30 cd30 ct30), sl30⟩) (e30 : PySem.W.codeIn K cd30 "_law_belief_of" = true) (k30 : PySem.W.keepIn K (.ref f30) = true)
    {f31 : Addr} {oc31 kV31 dc31 pm31 cd31 ct31 : Value} {od31 an31 : Option Addr} {sl31 : Array (Option Value)} (a31 : PySem.W.nsIn K mainGlobals "_law_two_of" = some (some (.ref f31))) (l31 : K.lookup f31 = some ⟨oc31, od31, .func (PySem.W.fnOf "_law_two_of" "_law_two_of" (defArgs s__law_two_of) (defBody s__law_two_of) (defScope s__law_two_of) .none kV31 dc31 pm31 an31 cd31 ct31), sl31⟩) (e31 : PySem.W.codeIn K cd31 "_law_two_of" = true) (k31 : PySem.W.keepIn K (.ref f31) = true)
    {f32 : Addr} {oc32 kV32 dc32 pm32 cd32 ct32 : Value} {od32 an32 : Option Addr} {sl32 : Array (Option Value)} (a32 : PySem.W.nsIn K mainGlobals "law" = some (some (.ref f32))) (l32 : K.lookup f32 = some ⟨oc32, od32, .func (PySem.W.fnOf "law" "law" (defArgs s_law) (defBody s_law) (defScope s_law) .none kV32 dc32 pm32 an32 cd32 ct32), sl32⟩) (e32 : PySem.W.codeIn K cd32 "law" = true) (k32 : PySem.W.keepIn K (.ref f32) = true)
    : ∃ fd : FuncData, (∀ (s : Shared) (v : Value), BindsTo s fd ⟨[v], []⟩ [("script", v)]) ∧ ∀ base : Heap, K.In base → base.Ns mainGlobals mg → FnOk PySem.Challenge.rw_everbeat_k20_whole_leases_scaled_and_tol.prog w K mg base CX0 18 fa fd ["script"] (spLaw K) := by
  have T : Tf K mg := ⟨PySem.W.mg_none_of X G b0,
    PySem.W.mg_none_of X G b1,
    PySem.W.mg_none_of X G b2,
    PySem.W.mg_none_of X G b3,
    PySem.W.mg_none_of X G b4,
    PySem.W.mg_none_of X G b5,
    PySem.W.mg_none_of X G b6,
    PySem.W.mg_none_of X G b7,
    PySem.W.mg_none_of X G b8,
    PySem.W.mg_none_of X G b9,
    PySem.W.mg_none_of X G b10,
    PySem.W.mg_of X G i0,
    ⟨_, PySem.W.mg_of X G c0, Lf.krep_tup (xs := [V.int 0, V.int 1]) d0 (by decide : 2 ≤ 1000) (.cons ⟨_, rfl⟩ (.cons ⟨_, rfl⟩ .nil)) (fun _ => (.cons (.int _) (.cons (.int _) .nil)))⟩,
    Lf.funAt_mk X G (fun _ _ _ _ _ _ us hl => match us, hl with | [_, _], _ => rfl) a0 l0 e0 k0,
    Lf.funAt_mk X G (fun _ _ _ _ _ _ us hl => match us, hl with | [_, _], _ => rfl) a1 l1 e1 k1,
    Lf.funAt_mk X G (fun _ _ _ _ _ _ us hl => match us, hl with | [_, _], _ => rfl) a2 l2 e2 k2,
    Lf.funAt_mk X G (fun _ _ _ _ _ _ us hl => match us, hl with | [_, _], _ => rfl) a3 l3 e3 k3,
    Lf.funAt_mk X G (fun _ _ _ _ _ _ us hl => match us, hl with | [_, _], _ => rfl) a4 l4 e4 k4,
    Lf.funAt_mk X G (fun _ _ _ _ _ _ us hl => match us, hl with | [_, _, _, _], _ => rfl) a5 l5 e5 k5,
    Lf.funAt_mk X G (fun _ _ _ _ _ _ us hl => match us, hl with | [_, _, _], _ => rfl) a6 l6 e6 k6,
    Lf.funAt_mk X G (fun _ _ _ _ _ _ us hl => match us, hl with | [_, _, _], _ => rfl) a7 l7 e7 k7,
    Lf.funAt_mk X G (fun _ _ _ _ _ _ us hl => match us, hl with | [_, _, _, _, _], _ => rfl) a8 l8 e8 k8,
    Lf.funAt_mk X G (fun _ _ _ _ _ _ us hl => match us, hl with | [_, _], _ => rfl) a9 l9 e9 k9,
    Lf.funAt_mk X G (fun _ _ _ _ _ _ us hl => match us, hl with | [_, _], _ => rfl) a10 l10 e10 k10,
    Lf.funAt_mk X G (fun _ _ _ _ _ _ us hl => match us, hl with | [_, _], _ => rfl) a11 l11 e11 k11,
    Lf.funAt_mk X G (fun _ _ _ _ _ _ us hl => match us, hl with | [_, _, _, _], _ => rfl) a12 l12 e12 k12,
    Lf.funAt_mk X G (fun _ _ _ _ _ _ us hl => match us, hl with | [_, _, _, _, _, _], _ => rfl) a13 l13 e13 k13,
    Lf.funAt_mk X G (fun _ _ _ _ _ _ us hl => match us, hl with | [_, _], _ => rfl) a14 l14 e14 k14,
    Lf.funAt_mk X G (fun _ _ _ _ _ _ us hl => match us, hl with | [_, _, _], _ => rfl) a15 l15 e15 k15,
    Lf.funAt_mk X G (fun _ _ _ _ _ _ us hl => match us, hl with | [_], _ => rfl) a16 l16 e16 k16,
    Lf.funAt_mk X G (fun _ _ _ _ _ _ us hl => match us, hl with | [_], _ => rfl) a17 l17 e17 k17,
    Lf.funAt_mk X G (fun _ _ _ _ _ _ us hl => match us, hl with | [_, _], _ => rfl) a18 l18 e18 k18,
    Lf.funAt_mk X G (fun _ _ _ _ _ _ us hl => match us, hl with | [_, _], _ => rfl) a19 l19 e19 k19,
    Lf.funAt_mk X G (fun _ _ _ _ _ _ us hl => match us, hl with | [_, _], _ => rfl) a20 l20 e20 k20,
    Lf.funAt_mk X G (fun _ _ _ _ _ _ us hl => match us, hl with | [_, _], _ => rfl) a21 l21 e21 k21,
    Lf.funAt_mk X G (fun _ _ _ _ _ _ us hl => match us, hl with | [_, _], _ => rfl) a22 l22 e22 k22,
    Lf.funAt_mk X G (fun _ _ _ _ _ _ us hl => match us, hl with | [_, _], _ => rfl) a23 l23 e23 k23,
    Lf.funAt_mk X G (fun _ _ _ _ _ _ us hl => match us, hl with | [_, _], _ => rfl) a24 l24 e24 k24,
    Lf.funAt_mk X G (fun _ _ _ _ _ _ us hl => match us, hl with | [_, _], _ => rfl) a25 l25 e25 k25,
    Lf.funAt_mk X G (fun _ _ _ _ _ _ us hl => match us, hl with | [_, _], _ => rfl) a26 l26 e26 k26,
    Lf.funAt_mk X G (fun _ _ _ _ _ _ us hl => match us, hl with | [_, _], _ => rfl) a27 l27 e27 k27,
    Lf.funAt_mk X G (fun _ _ _ _ _ _ us hl => match us, hl with | [_, _, _], _ => rfl) a28 l28 e28 k28,
    Lf.funAt_mk X G (fun _ _ _ _ _ _ us hl => match us, hl with | [_, _, _, _, _], _ => rfl) a29 l29 e29 k29,
    Lf.funAt_mk X G (fun _ _ _ _ _ _ us hl => match us, hl with | [_, _], _ => rfl) a30 l30 e30 k30,
    Lf.funAt_mk X G (fun _ _ _ _ _ _ us hl => match us, hl with | [_, _], _ => rfl) a31 l31 e31 k31,
    Lf.funAt_mk X G (fun _ _ _ _ _ _ us hl => match us, hl with | [_], _ => rfl) a32 l32 e32 k32⟩
  obtain ⟨fa2, fd2, F2, hm2, hb2⟩ := T.at_law
  have e := hfa.symm.trans hm2
  cases e
  obtain ⟨oc, od, kV, doc, pm, an, cdv, ct, osl, rfl, lk, hcd⟩ := F2.ex
  exact ⟨_, fun s v => .of_eq rfl, fun base _ _ => law_ok T ⟨⟨oc, od, kV, doc, pm, an, cdv, ct, osl, rfl, lk, hcd⟩, F2.kp⟩⟩
end G
open PySem PySem.W PyProof.Rows
set_option maxRecDepth 100000 in
set_option maxHeartbeats 0 in
theorem PySem.Challenge.cw_everbeat_k20_whole_leases_scaled_and_tol_holds : PySem.Challenge.rw_everbeat_k20_whole_leases_scaled_and_tol.Holds := by
  w_on; o_law; k_head; (case hw => w_witness2)
  k_fill
  refine L2.walk_ofB (l := PySem.Challenge.rw_everbeat_k20_whole_leases_scaled_and_tol) (n := 63) (k := 18) (x := "script") (CX := fun _ => L2.CX0) (sp := fun w => Lf.spLaw _) rfl (by decide) rfl ⟨rfl, by decide, by decide⟩ (fun w h Y => PySem.W.kIn_of Y) ?F (fun _ _ a ns hl hb _ hS => ⟨a, ns, rfl, hl, hb, hS, fun _ => rfl⟩) (fun _ _ _ _ _ h => h)
  case F =>
    intro w mg fa h KX GG hmg
    refine' G.fin KX GG hmg ?b0 ?b1 ?b2 ?b3 ?b4 ?b5 ?b6 ?b7 ?b8 ?b9 ?b10 ?i0 ?c0 ?d0 ?a0 ?l0 ?e0 ?k0 ?a1 ?l1 ?e1 ?k1 ?a2 ?l2 ?e2 ?k2 ?a3 ?l3 ?e3 ?k3 ?a4 ?l4 ?e4 ?k4 ?a5 ?l5 ?e5 ?k5 ?a6 ?l6 ?e6 ?k6 ?a7 ?l7 ?e7 ?k7 ?a8 ?l8 ?e8 ?k8 ?a9 ?l9 ?e9 ?k9 ?a10 ?l10 ?e10 ?k10 ?a11 ?l11 ?e11 ?k11 ?a12 ?l12 ?e12 ?k12 ?a13 ?l13 ?e13 ?k13 ?a14 ?l14 ?e14 ?k14 ?a15 ?l15 ?e15 ?k15 ?a16 ?l16 ?e16 ?k16 ?a17 ?l17 ?e17 ?k17 ?a18 ?l18 ?e18 ?k18 ?a19 ?l19 ?e19 ?k19 ?a20 ?l20 ?e20 ?k20 ?a21 ?l21 ?e21 ?k21 ?a22 ?l22 ?e22 ?k22 ?a23 ?l23 ?e23 ?k23 ?a24 ?l24 ?e24 ?k24 ?a25 ?l25 ?e25 ?k25 ?a26 ?l26 ?e26 ?k26 ?a27 ?l27 ?e27 ?k27 ?a28 ?l28 ?e28 ?k28 ?a29 ?l29 ?e29 ?k29 ?a30 ?l30 ?e30 ?k30 ?a31 ?l31 ?e31 ?k31 ?a32 ?l32 ?e32 ?k32
    (case b0 => k_is)
    (case b1 => k_is)
    (case b2 => k_is)
    (case b3 => k_is)
    (case b4 => k_is)
    (case b5 => k_is)
    (case b6 => k_is)
    (case b7 => k_is)
    (case b8 => k_is)
    (case b9 => k_is)
    (case b10 => k_is)
    (case i0 => k_is)
    (case c0 => k_is)
    (case d0 => k_is)
    (case a0 => k_is)
    (case l0 => k_is)
    (case e0 => k_is)
    (case k0 => k_is)
    (case a1 => k_is)
    (case l1 => k_is)
    (case e1 => k_is)
    (case k1 => k_is)
    (case a2 => k_is)
    (case l2 => k_is)
    (case e2 => k_is)
    (case k2 => k_is)
    (case a3 => k_is)
    (case l3 => k_is)
    (case e3 => k_is)
    (case k3 => k_is)
    (case a4 => k_is)
    (case l4 => k_is)
    (case e4 => k_is)
    (case k4 => k_is)
    (case a5 => k_is)
    (case l5 => k_is)
    (case e5 => k_is)
    (case k5 => k_is)
    (case a6 => k_is)
    (case l6 => k_is)
    (case e6 => k_is)
    (case k6 => k_is)
    (case a7 => k_is)
    (case l7 => k_is)
    (case e7 => k_is)
    (case k7 => k_is)
    (case a8 => k_is)
    (case l8 => k_is)
    (case e8 => k_is)
    (case k8 => k_is)
    (case a9 => k_is)
    (case l9 => k_is)
    (case e9 => k_is)
    (case k9 => k_is)
    (case a10 => k_is)
    (case l10 => k_is)
    (case e10 => k_is)
    (case k10 => k_is)
    (case a11 => k_is)
    (case l11 => k_is)
    (case e11 => k_is)
    (case k11 => k_is)
    (case a12 => k_is)
    (case l12 => k_is)
    (case e12 => k_is)
    (case k12 => k_is)
    (case a13 => k_is)
    (case l13 => k_is)
    (case e13 => k_is)
    (case k13 => k_is)
    (case a14 => k_is)
    (case l14 => k_is)
    (case e14 => k_is)
    (case k14 => k_is)
    (case a15 => k_is)
    (case l15 => k_is)
    (case e15 => k_is)
    (case k15 => k_is)
    (case a16 => k_is)
    (case l16 => k_is)
    (case e16 => k_is)
    (case k16 => k_is)
    (case a17 => k_is)
    (case l17 => k_is)
    (case e17 => k_is)
    (case k17 => k_is)
    (case a18 => k_is)
    (case l18 => k_is)
    (case e18 => k_is)
    (case k18 => k_is)
    (case a19 => k_is)
    (case l19 => k_is)
    (case e19 => k_is)
    (case k19 => k_is)
    (case a20 => k_is)
    (case l20 => k_is)
    (case e20 => k_is)
    (case k20 => k_is)
    (case a21 => k_is)
    (case l21 => k_is)
    (case e21 => k_is)
    (case k21 => k_is)
    (case a22 => k_is)
    (case l22 => k_is)
    (case e22 => k_is)
    (case k22 => k_is)
    (case a23 => k_is)
    (case l23 => k_is)
    (case e23 => k_is)
    (case k23 => k_is)
    (case a24 => k_is)
    (case l24 => k_is)
    (case e24 => k_is)
    (case k24 => k_is)
    (case a25 => k_is)
    (case l25 => k_is)
    (case e25 => k_is)
    (case k25 => k_is)
    (case a26 => k_is)
    (case l26 => k_is)
    (case e26 => k_is)
    (case k26 => k_is)
    (case a27 => k_is)
    (case l27 => k_is)
    (case e27 => k_is)
    (case k27 => k_is)
    (case a28 => k_is)
    (case l28 => k_is)
    (case e28 => k_is)
    (case k28 => k_is)
    (case a29 => k_is)
    (case l29 => k_is)
    (case e29 => k_is)
    (case k29 => k_is)
    (case a30 => k_is)
    (case l30 => k_is)
    (case e30 => k_is)
    (case k30 => k_is)
    (case a31 => k_is)
    (case l31 => k_is)
    (case e31 => k_is)
    (case k31 => k_is)
    (case a32 => k_is)
    (case l32 => k_is)
    (case e32 => k_is)
    (case k32 => k_is)

