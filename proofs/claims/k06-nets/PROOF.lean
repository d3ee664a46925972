import PyProof.Rows.All
import Wide.All
import OpenK.AllK
import Wide.FinOn
import HandS.ForMost
import HandS.ForExc
import HandS.TupAny
import HandS.Style
import HandS.Deep
import HandS.Flow
import HandS.SortInts
import HandS.CallSlots
import HandS.ExcOwn
import HandS.ExcInit
import HandS.ExcField
import HandS.TryMany
import HandS.IsInst
import KE.KOpsOwn
import HandS.ExcIs
import HandS.Conv
import HandS.Strs
import HandS.NoneIn
import HandS.OwnEq
import HandS.RaiseMore
import PyProof.StrOps2
import PyProof.InstNe
import HandS.More
import HandS.Defaults
import KE.KDictPairs
import PyProof.Rows.StrMeet
import HandS.IterVal
import HandS.DictComp
import PyProof.FactsAll.dict_keyiterator_1
import HandS.DictEq
import KE.DataMinMax
import PyProof.ListMulRight
import PySem.Challenge.RW_fullseats_k06_nets
set_option Elab.async false
set_option linter.all false
set_option maxRecDepth 100000
set_option maxHeartbeats 4000000
/-! DL0: plain data over the hand layer's abstract heap; readings as functions. -/
namespace DL
open PySem L2

/-- plain data; oid k: the k-th thing of the store (a thing that may change) -/
inductive D where
  | non | bl (b : Bool) | int (i : Int) | str (x : Str)
  | tup (xs : List D) | lst (xs : List D)
  | dic (kvs : List (Key × D))
  | obj (c : Str) (fs : List (Str × D))
  | oid (k : Nat)
  | scr (ns : List Int)
/-- a thing of the store -/
inductive Cell where
  | dead
  | lst (xs : List D) | dic (kvs : List (Key × D)) | obj (c : Str) (fs : List (Str × D))
  | ldc (kvs : List (Key × D))
/-- an exception: class, fields -/
structure Exc where
  c : Str
  fs : List (Str × D)

structure G where
  K : PySem.W.Frag
  mg : Str → Option Value

abbrev Ad := List (Option Addr)
def Liv (A : Ad) (a : Addr) : Prop := some a ∈ A
theorem Liv.ix {A : Ad} {a : Addr} (h : Liv A a) : ∃ k : Nat, A[k]? = some (some a) := by
  obtain ⟨k, hk, e⟩ := List.getElem_of_mem h
  exact ⟨k, by rw [List.getElem?_eq_getElem hk, e]⟩
theorem Liv.of {A : Ad} {a : Addr} {k : Nat} (h : A[k]? = some (some a)) : Liv A a := List.mem_of_getElem? h

/-- a tuple of the written part -/
def KT (K : PySem.W.Frag) (a : Addr) (xs : List V) : Prop :=
  ∃ (o : Obj) (its : Array Value) (n : Nat), K.lookup a = some o ∧ o.cls = .type "tuple" ∧ o.data = .seq its n ∧ its.size ≤ sizeLine ∧ Vals xs its.toList

/-- a list of the written part -/
def KL (K : PySem.W.Frag) (a : Addr) (xs : List V) : Prop :=
  ∃ (o : Obj) (its : Array Value) (n : Nat), K.lookup a = some o ∧ o.cls = .type "list" ∧ o.dict = none ∧ o.data = .seq its n ∧ its.size ≤ sizeLine ∧ Vals xs its.toList

mutual
/-- v is the datum d; what stands is none of B -/
inductive Dp (g : G) (A : Ad) (B : Addr → Prop) (H : Hp) : V → D → Prop
  | non : Dp g A B H .non .non
  | bl (b : Bool) : Dp g A B H (.bl b) (.bl b)
  | int (i : Int) : Dp g A B H (.int i) (.int i)
  | str (x : Str) : Dp g A B H (.str x) (.str x)
  | tup {a : Addr} {vs : List V} {ds : List D} : ¬ B a → H a = some (.tup vs) → DpL g A B H vs ds → Dp g A B H (.ref a) (.tup ds)
  | tupK {a : Addr} {vs : List V} {ds : List D} : KT g.K a vs → DpL g A B H vs ds → Dp g A B H (.ref a) (.tup ds)
  | lst {a : Addr} {vs : List V} {ds : List D} : ¬ B a → H a = some (.lst vs) → DpL g A B H vs ds → Dp g A B H (.ref a) (.lst ds)
  | dic {a : Addr} {vs : List (Key × V)} {ds : List (Key × D)} : ¬ B a → Rd H a (.dK vs) → DpK g A B H vs ds → Dp g A B H (.ref a) (.dic ds)
  | obj {a C dx : Addr} {c : Str} {vs : List (Str × V)} {fs : List (Str × D)} : ¬ B a → H a = some (.ins C dx vs) → g.mg c = some (.ref C) → DpF g A B H vs fs → Dp g A B H (.ref a) (.obj c fs)
  | oid {a : Addr} {k : Nat} : A[k]? = some (some a) → Dp g A B H (.ref a) (.oid k)
  | ded {v : V} {k : Nat} : A[k]? = some none → Dp g A B H v (.oid k)
  | scr {a : Addr} {ns : List Int} : ¬ B a → Rd H a (.lst (ns.map V.int)) → Dp g A B H (.ref a) (.scr ns)
  | scrK {a : Addr} {ns : List Int} : KL g.K a (ns.map V.int) → Dp g A B H (.ref a) (.scr ns)
inductive DpL (g : G) (A : Ad) (B : Addr → Prop) (H : Hp) : List V → List D → Prop
  | nil : DpL g A B H [] []
  | cons {v : V} {vs : List V} {d : D} {ds : List D} : Dp g A B H v d → DpL g A B H vs ds → DpL g A B H (v :: vs) (d :: ds)
inductive DpK (g : G) (A : Ad) (B : Addr → Prop) (H : Hp) : List (Key × V) → List (Key × D) → Prop
  | nil : DpK g A B H [] []
  | cons {k : Key} {v : V} {vs : List (Key × V)} {d : D} {ds : List (Key × D)} : Dp g A B H v d → DpK g A B H vs ds → DpK g A B H ((k, v) :: vs) ((k, d) :: ds)
inductive DpF (g : G) (A : Ad) (B : Addr → Prop) (H : Hp) : List (Str × V) → List (Str × D) → Prop
  | nil : DpF g A B H [] []
  | cons {k : Str} {v : V} {vs : List (Str × V)} {d : D} {ds : List (Str × D)} : Dp g A B H v d → DpF g A B H vs ds → DpF g A B H ((k, v) :: vs) ((k, d) :: ds)
end

/-- from one state to a later one: what is not in the store stands; nothing that stood comes into B or leaves it -/
structure Stp (A : Ad) (B : Addr → Prop) (H : Hp) (A' : Ad) (B' : Addr → Prop) (H' : Hp) : Prop where
  keep : ∀ a o, H a = some o → ¬ Liv A a → H' a = some o
  old : ∀ a o, H a = some o → ¬ Liv A a → (B' a ↔ B a)
  new : ∀ a, Liv A' a → Liv A a ∨ H a = none
  ids : ∀ (k : Nat) (x : Option Addr), A[k]? = some x → A'[k]? = some x ∨ A'[k]? = some none
  trk : ∀ a o, H a = some o → ∃ o', H' a = some o'
  frz : ∀ a o u, H a = some (.frz o u) → H' a = some (.frz o u)

theorem Stp.refl (A : Ad) (B : Addr → Prop) (H : Hp) : Stp A B H A B H := ⟨fun _ _ h _ => h, fun _ _ _ _ => Iff.rfl, fun _ h => .inl h, fun _ _ h => .inl h, fun _ o h => ⟨o, h⟩, fun _ _ _ h => h⟩
theorem frz_upd {H : Hp} {p : Addr} {x : HO} (hp : ∀ o u, H p ≠ some (.frz o u)) (a : Addr) (o : Obj) (u : HO) (h : H a = some (.frz o u)) : upd H p x a = some (.frz o u) := by
  rw [upd_ne (fun z => hp o u (by rw [← z]; exact h))]; exact h
theorem frz_none {H : Hp} {p : Addr} (hp : H p = none) : ∀ o u, H p ≠ some (.frz o u) := fun o u e => by rw [hp] at e; cases e
theorem frz_not {H : Hp} {a : Addr} {w : HO} (h : H a = some w) (nf : ∀ o u, w ≠ .frz o u := by intro _ _ z; cases z) : ∀ o u, H a ≠ some (.frz o u) := fun o u e => nf o u (by rw [h] at e; exact Option.some.inj e)
theorem Stp.trans {A A1 A2 : Ad} {B B1 B2 : Addr → Prop} {H H1 H2 : Hp} (s : Stp A B H A1 B1 H1) (t : Stp A1 B1 H1 A2 B2 H2) : Stp A B H A2 B2 H2 := by
  have nl : ∀ a o, H a = some o → ¬ Liv A a → ¬ Liv A1 a := fun a o h n z => by
    rcases s.new a z with z | z
    · exact n z
    · rw [z] at h; cases h
  refine ⟨fun a o h n => t.keep a o (s.keep a o h n) (nl a o h n), fun a o h n => (t.old a o (s.keep a o h n) (nl a o h n)).trans (s.old a o h n), fun a z => ?_, fun k x h => ?_, fun a o h => ?_, fun a o u h => t.frz a o u (s.frz a o u h)⟩
  · rcases t.new a z with z | z
    · exact s.new a z
    · cases q : H a with
      | none => exact .inr rfl
      | some o =>
        by_cases n : Liv A a
        · exact .inl n
        · have := s.keep a o q n
          rw [z] at this; cases this
  · rcases s.ids k x h with e | e
    · exact t.ids k x e
    · rcases t.ids k none e with e | e
      · exact .inr e
      · exact .inr e
  · obtain ⟨o', e⟩ := s.trk a o h
    exact t.trk a o' e

theorem Rd.up {H H' : Hp} {a : Addr} {u : HO} (h : Rd H a u) (k : ∀ o, H a = some o → H' a = some o) : Rd H' a u := by
  rcases h with h | ⟨o, h⟩
  · exact .inl (k _ h)
  · exact .inr ⟨o, k _ h⟩
theorem Rd.some {H : Hp} {a : Addr} {u : HO} (h : Rd H a u) : ∃ o, H a = some o := by
  rcases h with h | ⟨o, h⟩
  · exact ⟨_, h⟩
  · exact ⟨_, h⟩

section
variable {g : G} {A A' : Ad} {B B' : Addr → Prop} {H H' : Hp}
/-- moving data along: what is asked -/
structure Mv (A : Ad) (B : Addr → Prop) (H : Hp) (A' : Ad) (B' : Addr → Prop) (H' : Hp) : Prop where
  cell : ∀ a o, ¬ B a → H a = some o → H' a = some o ∧ ¬ B' a
  ids : ∀ (k : Nat) (x : Option Addr), A[k]? = some x → A'[k]? = some x ∨ A'[k]? = some none
  frz : ∀ a o u, H a = some (.frz o u) → H' a = some (.frz o u)
/-- the same without locks -/
structure Mv0 (A : Ad) (B : Addr → Prop) (H : Hp) (A' : Ad) (B' : Addr → Prop) (H' : Hp) : Prop where
  cell : ∀ a o, ¬ B a → H a = some o → H' a = some o ∧ ¬ B' a
  ids : ∀ (k : Nat) (x : Option Addr), A[k]? = some x → A'[k]? = some x ∨ A'[k]? = some none
mutual
theorem Dp.mv0 (m : Mv0 A B H A' B' H') : ∀ (d : D) (v : V), Dp g A B H v d → Dp g A' B' H' v d
  | .non, _, h => by cases h; exact .non
  | .bl b, _, h => by cases h; exact .bl b
  | .int i, _, h => by cases h; exact .int i
  | .str x, _, h => by cases h; exact .str x
  | .tup ds, _, h => by
    cases h with
    | tup n r l => exact .tup (m.cell _ _ n r).2 (m.cell _ _ n r).1 (DpL.mv0 m ds _ l)
    | tupK k l => exact .tupK k (DpL.mv0 m ds _ l)
  | .lst ds, _, h => by
    cases h with
    | lst n r l => exact .lst (m.cell _ _ n r).2 (m.cell _ _ n r).1 (DpL.mv0 m ds _ l)
  | .scr ns, _, h => by
    cases h with
    | scr n r =>
      obtain ⟨o, e⟩ := Rd.some r
      exact .scr (m.cell _ o n e).2 (Rd.up r fun o e => (m.cell _ o n e).1)
    | scrK k => exact .scrK k
  | .dic ds, _, h => by
    cases h with
    | dic n r l =>
      obtain ⟨o, e⟩ := Rd.some r
      exact .dic (m.cell _ o n e).2 (Rd.up r fun o e => (m.cell _ o n e).1) (DpK.mv0 m ds _ l)
  | .obj c fs, _, h => by
    cases h with
    | obj n r q l => exact .obj (m.cell _ _ n r).2 (m.cell _ _ n r).1 q (DpF.mv0 m fs _ l)
  | .oid k, _, h => by
    cases h with
    | oid e =>
      rcases m.ids k _ e with e | e
      · exact .oid e
      · exact .ded e
    | ded e =>
      rcases m.ids k _ e with e | e
      · exact .ded e
      · exact .ded e
theorem DpL.mv0 (m : Mv0 A B H A' B' H') : ∀ (ds : List D) (vs : List V), DpL g A B H vs ds → DpL g A' B' H' vs ds
  | [], _, h => by cases h; exact .nil
  | d :: ds, _, h => by
    cases h with
    | cons h1 h2 => exact .cons (Dp.mv0 m d _ h1) (DpL.mv0 m ds _ h2)
theorem DpK.mv0 (m : Mv0 A B H A' B' H') : ∀ (ds : List (Key × D)) (vs : List (Key × V)), DpK g A B H vs ds → DpK g A' B' H' vs ds
  | [], _, h => by cases h; exact .nil
  | (k, d) :: ds, _, h => by
    cases h with
    | cons h1 h2 => exact .cons (Dp.mv0 m d _ h1) (DpK.mv0 m ds _ h2)
theorem DpF.mv0 (m : Mv0 A B H A' B' H') : ∀ (ds : List (Str × D)) (vs : List (Str × V)), DpF g A B H vs ds → DpF g A' B' H' vs ds
  | [], _, h => by cases h; exact .nil
  | (k, d) :: ds, _, h => by
    cases h with
    | cons h1 h2 => exact .cons (Dp.mv0 m d _ h1) (DpF.mv0 m ds _ h2)
end
theorem Mv.m0 (m : Mv A B H A' B' H') : Mv0 A B H A' B' H' := ⟨m.cell, m.ids⟩
theorem Dp.mv (m : Mv A B H A' B' H') (d : D) (v : V) (h : Dp g A B H v d) : Dp g A' B' H' v d := Dp.mv0 m.m0 d v h
theorem DpL.mv (m : Mv A B H A' B' H') (d : List D) (v : List V) (h : DpL g A B H v d) : DpL g A' B' H' v d := DpL.mv0 m.m0 d v h
theorem DpK.mv (m : Mv A B H A' B' H') (d : List (Key × D)) (v : List (Key × V)) (h : DpK g A B H v d) : DpK g A' B' H' v d := DpK.mv0 m.m0 d v h
theorem DpF.mv (m : Mv A B H A' B' H') (d : List (Str × D)) (v : List (Str × V)) (h : DpF g A B H v d) : DpF g A' B' H' v d := DpF.mv0 m.m0 d v h
end

/-- the thing at a is the store's c -/
def CellOk (g : G) (A : Ad) (B : Addr → Prop) (H : Hp) (a : Addr) : Cell → Prop
  | .dead => False
  | .lst ds => ∃ vs, H a = some (.lst vs) ∧ DpL g A B H vs ds
  | .dic ds => ∃ vs, H a = some (.dK vs) ∧ DpK g A B H vs ds
  | .obj c fs => ∃ C dx vs, H a = some (.ins C dx vs) ∧ g.mg c = some (.ref C) ∧ DpF g A B H vs fs
  | .ldc ds => ∃ o vs, H a = some (.frz o (.dK vs)) ∧ DpK g A B H vs ds

/-- the store stands -/
structure Wo (g : G) (A : Ad) (B : Addr → Prop) (H : Hp) (ω : List Cell) : Prop where
  len : A.length = ω.length
  inj : ∀ (i j : Nat) (a : Addr), A[i]? = some (some a) → A[j]? = some (some a) → i = j
  liv : ∀ a, Liv A a → B a
  bnd : ∀ a, B a → ∃ o, H a = some o
  cell : ∀ (k : Nat) (c : Cell), ω[k]? = some c → (c = .dead ∧ A[k]? = some none) ∨ ∃ a, A[k]? = some (some a) ∧ CellOk g A B H a c

/-- an exception as it lies: its class, its own dict -/
abbrev XP := Addr × Value × Option Addr
def XOk (g : G) (A : Ad) (B : Addr → Prop) (H : Hp) (cls : Value) (dd : Option Addr) (x : Exc) : Prop :=
  g.mg x.c = some cls ∧ ((∃ d vs, dd = some d ∧ ¬ B d ∧ H d = some (.xd vs) ∧ DpF g A B H vs x.fs) ∨ (dd = none ∧ x.fs = []))
theorem XOk.mv0 {g : G} {A A' : Ad} {B B' : Addr → Prop} {H H' : Hp} {cls : Value} {dd : Option Addr} {x : Exc} (m : Mv0 A B H A' B' H') (h : XOk g A B H cls dd x) : XOk g A' B' H' cls dd x := by
  obtain ⟨h1, ⟨d, vs, h2, h3, h4, h5⟩ | h⟩ := h
  · exact ⟨h1, .inl ⟨d, vs, h2, (m.cell d _ h3 h4).2, (m.cell d _ h3 h4).1, DpF.mv0 m _ _ h5⟩⟩
  · exact ⟨h1, .inr h⟩
theorem XOk.mv {g : G} {A A' : Ad} {B B' : Addr → Prop} {H H' : Hp} {cls : Value} {dd : Option Addr} {x : Exc} (m : Mv A B H A' B' H') (h : XOk g A B H cls dd x) : XOk g A' B' H' cls dd x := h.mv0 m.m0

/-- a slot: nothing known, a datum, a list of this frame's own that may change -/
inductive Sl where
  | no | fz (d : D) | ow (ds : List D) | ex (p : XP) (x : Exc)
abbrev Rho := List Sl

section
variable {g : G} {A A' : Ad} {B B' : Addr → Prop} {H H' H0 : Hp} {ω : List Cell} {σ : St} {ρ : Rho}
theorem Wo.nb (w : Wo g A B H ω) {p : Addr} (h : H p = none) : ¬ B p := fun z => by
  obtain ⟨o, e⟩ := w.bnd p z
  rw [h] at e; cases e
theorem Wo.nl (w : Wo g A B H ω) {p : Addr} (h : ¬ B p) : ¬ Liv A p := fun z => h (w.liv p z)
theorem Stp.mv (s : Stp A B H A' B' H') (hl : ∀ a, Liv A a → B a) : Mv A B H A' B' H' :=
  ⟨fun a o n e => ⟨s.keep a o e fun z => n (hl a z), fun z => n ((s.old a o e fun z => n (hl a z)).mp z)⟩, s.ids, s.frz⟩
theorem Wo.mv (w : Wo g A B H ω) (s : Stp A B H A' B' H') : Mv A B H A' B' H' := s.mv w.liv

def SlOk (g : G) (H0 : Hp) (A : Ad) (B : Addr → Prop) (H : Hp) (x : Option (Option V)) : Sl → Prop
  | .no => True
  | .fz d => ∃ v, x = some (some v) ∧ Dp g A B H v d
  | .ex p y => x = some (some (.ref p.1)) ∧ XOk g A B H p.2.1 p.2.2 y
  | .ow ds => ∃ p vs, x = some (some (.ref p)) ∧ H p = some (.lst vs) ∧ DpL g A B H vs ds ∧ B p ∧ ¬ Liv A p ∧ H0 p = none
structure Slots (g : G) (H0 : Hp) (A : Ad) (B : Addr → Prop) (H : Hp) (σ : St) (ρ : Rho) : Prop where
  len : ρ.length = σ.length
  val : ∀ (i : Nat) (s : Sl), ρ[i]? = some s → SlOk g H0 A B H σ[i]? s
  own : ∀ (i j : Nat) (ds es : List D) (p : Addr), ρ[i]? = some (.ow ds) → ρ[j]? = some (.ow es) → σ[i]? = some (some (.ref p)) → σ[j]? = some (some (.ref p)) → i = j
theorem SlOk.up {x : Option (Option V)} {s : Sl} (w : Wo g A B H ω) (t : Stp A B H A' B' H') (h : SlOk g H0 A B H x s) : SlOk g H0 A' B' H' x s := by
  cases s with
  | no => trivial
  | ex p y => exact ⟨h.1, h.2.mv (w.mv t)⟩
  | fz d =>
    obtain ⟨v, e, h⟩ := h
    exact ⟨v, e, Dp.mv (w.mv t) d v h⟩
  | ow ds =>
    obtain ⟨p, vs, e, hp, l, b, nl, h0⟩ := h
    refine ⟨p, vs, e, t.keep p _ hp nl, DpL.mv (w.mv t) ds vs l, (t.old p _ hp nl).mpr b, fun z => ?_, h0⟩
    rcases t.new p z with z | z
    · exact nl z
    · rw [z] at hp; cases hp
theorem Slots.up (h : Slots g H0 A B H σ ρ) (w : Wo g A B H ω) (t : Stp A B H A' B' H') : Slots g H0 A' B' H' σ ρ :=
  ⟨h.len, fun i s e => (h.val i s e).up w t, h.own⟩
end

/-! ### readings -/
inductive R (α : Type) where
  | val (a : α) (ω : List Cell)
  | exc (x : Exc) (ω : List Cell)
abbrev M (α : Type) := Rho → List Cell → Option (R α)
def M.pure {α : Type} (a : α) : M α := fun _ ω => some (.val a ω)
def M.bind {α β : Type} (f : M α) (k : α → M β) : M β := fun ρ ω =>
  match f ρ ω with
  | none => none
  | some (.exc x ω') => some (.exc x ω')
  | some (.val a ω') => k a ρ ω'
def M.opt {α : Type} (o : Option α) : M α := fun _ ω => match o with | none => none | some a => some (.val a ω)

/-- how a value of the layer bears a datum -/
abbrev Rl (β α : Type) := G → Ad → (Addr → Prop) → Hp → β → α → Prop
abbrev rD : Rl V D := Dp
abbrev rL : Rl (List V) (List D) := DpL
abbrev rB : Rl Bool Bool := fun _ _ _ _ b c => b = c
def ResOk {β α : Type} (g : G) (rel : Rl β α) (W : WX) (σ : St) (A : Ad) (B : Addr → Prop) (H : Hp) (Q : β → Hp → Prop) : R α → Prop
  | .val a ω' => ∀ v A' B' H', Stp A B H A' B' H' → Wo g A' B' H' ω' → rel g A' B' H' v a → Q v H'
  | .exc x ω' => ∀ cls dd A' B' H', Stp A B H A' B' H' → Wo g A' B' H' ω' → XOk g A' B' H' cls dd x → W cls dd σ H'
theorem ResOk.up {β α : Type} {g : G} {rel : Rl β α} {W : WX} {σ : St} {A A1 : Ad} {B B1 : Addr → Prop} {H H1 : Hp} {Q : β → Hp → Prop} {r : R α} (h : ResOk g rel W σ A B H Q r) (s : Stp A B H A1 B1 H1) : ResOk g rel W σ A1 B1 H1 Q r := by
  cases r with
  | val a ω' => exact fun v A' B' H' t => h v A' B' H' (s.trans t)
  | exc x ω' => exact fun cls dd A' B' H' t => h cls dd A' B' H' (s.trans t)

/-- the state of a frame: its store and slots -/
structure Fm (g : G) (H0 : Hp) (A : Ad) (B : Addr → Prop) (H : Hp) (ω : List Cell) (σ : St) (ρ : Rho) : Prop where
  wo : Wo g A B H ω
  sl : Slots g H0 A B H σ ρ

def tM {β α : Type} (g : G) (rel : Rl β α) (W : WX) (f : M α) : St → Hp → (β → Hp → Prop) → Prop := fun σ H Q =>
  ∃ H0 A B ρ ω r, Fm g H0 A B H ω σ ρ ∧ f ρ ω = some r ∧ ResOk g rel W σ A B H Q r

section
variable {α β γ δ : Type} {g : G} {W : WX} {A A' : Ad} {B B' : Addr → Prop} {H H' H0 : Hp} {ω ω' : List Cell} {σ : St} {ρ : Rho}
theorem Fm.up (h : Fm g H0 A B H ω σ ρ) (t : Stp A B H A' B' H') (w : Wo g A' B' H' ω') : Fm g H0 A' B' H' ω' σ ρ := ⟨w, h.sl.up h.wo t⟩
/-- the first part of a sequence -/
theorem tM_bind {rel : Rl β α} {rel2 : Rl δ γ} {f : M α} {k : α → M γ} {Q : δ → Hp → Prop} {r : R γ} (h : Fm g H0 A B H ω σ ρ) (e : (f.bind k) ρ ω = some r) (res : ResOk g rel2 W σ A B H Q r) :
    tM g rel W f σ H (fun v H1 => ∃ A1 B1 ω1 a, Stp A B H A1 B1 H1 ∧ Fm g H0 A1 B1 H1 ω1 σ ρ ∧ rel g A1 B1 H1 v a ∧ k a ρ ω1 = some r ∧ ResOk g rel2 W σ A1 B1 H1 Q r) := by
  unfold M.bind at e
  cases q : f ρ ω with
  | none => rw [q] at e; cases e
  | some z =>
    rw [q] at e
    cases z with
    | exc x ω' =>
      have e' : some (R.exc x ω') = some r := e
      cases e'
      exact ⟨H0, A, B, ρ, ω, _, h, q, res⟩
    | val a ω' =>
      have e' : k a ρ ω' = some r := e
      refine ⟨H0, A, B, ρ, ω, _, h, q, fun v A1 B1 H1 t w rl => ⟨A1, B1, ω', a, t, h.up t w, rl, e', res.up t⟩⟩
theorem tM_mono {rel : Rl β α} {f : M α} {Q Q' : β → Hp → Prop} (h : tM g rel W f σ H Q) (i : ∀ v H', Q v H' → Q' v H') : tM g rel W f σ H Q' := by
  obtain ⟨H0, A, B, ρ, ω, r, fm, e, res⟩ := h
  refine ⟨H0, A, B, ρ, ω, r, fm, e, ?_⟩
  cases r with
  | val a ω' => exact fun v A' B' H' t w rl => i v H' (res v A' B' H' t w rl)
  | exc x ω' => exact res
end

theorem _root_.L2.PE.dl {X : Cx} {e : Expr} {t t' : TE} (h : PE X e t) (i : ∀ σ H Q, t' σ H Q → t σ H Q) : PE X e t' := ⟨fun pins s σ H Q I q => h.run pins s σ H Q I (i σ H Q q)⟩
theorem _root_.L2.PT.dl {X : Cx} {e : Expr} {t t' : TT} (h : PT X e t) (i : ∀ σ H Q, t' σ H Q → t σ H Q) : PT X e t' := ⟨fun pins s σ H Q I q => h.run pins s σ H Q I (i σ H Q q)⟩
theorem _root_.L2.PW.dl {X : Cx} {e : Expr} {t t' : TT} (h : PW X e t) (i : ∀ σ H Q, t' σ H Q → t σ H Q) : PW X e t' := ⟨fun wh pins s σ H Q I q => h.run wh pins s σ H Q I (i σ H Q q)⟩
theorem _root_.L2.PA.dl {X : Cx} {es : List Expr} {t t' : TA} (h : PA X es t) (i : ∀ σ H Q, t' σ H Q → t σ H Q) : PA X es t' := ⟨fun pos pins s σ H Q I q => h.run pos pins s σ H Q I (i σ H Q q)⟩
theorem _root_.L2.PS.dl {X : Cx} {st : Stmt} {t t' : TS} (h : PS X st t) (i : ∀ D σ H, t' D σ H → t D σ H) : PS X st t' := ⟨fun pins s σ H D I q => h.run pins s σ H D I (i D σ H q)⟩
theorem _root_.L2.PSs.dl {X : Cx} {st : List Stmt} {t t' : TS} (h : PSs X st t) (i : ∀ D σ H, t' D σ H → t D σ H) : PSs X st t' := ⟨fun pins s σ H D I q => h.run pins s σ H D I (i D σ H q)⟩

end DL
/-! DL1: expressions as functions of plain data. -/
namespace DL
open PySem L2

/-- a borrowed value: data, or a list of a frame's own -/
def rW : Rl V D := fun g A B H v d => Dp g A B H v d ∨ ∃ p vs ds, v = .ref p ∧ d = .lst ds ∧ H p = some (.lst vs) ∧ DpL g A B H vs ds ∧ ¬ Liv A p

/-- what is seen of a value -/
def Vw (g : G) (A : Ad) (B : Addr → Prop) (H : Hp) (v : V) : D → Prop
  | .non => v = .non
  | .bl b => v = .bl b
  | .int i => v = .int i
  | .str x => v = .str x
  | .tup ds => Dp g A B H v (.tup ds)
  | .lst ds => ∃ a vs, v = .ref a ∧ H a = some (.lst vs) ∧ DpL g A B H vs ds
  | .dic ds => ∃ a vs, v = .ref a ∧ Rd H a (.dK vs) ∧ DpK g A B H vs ds
  | .obj c fs => ∃ a C dx vs, v = .ref a ∧ H a = some (.ins C dx vs) ∧ g.mg c = some (.ref C) ∧ DpF g A B H vs fs
  | .oid _ => False
  | .scr ns => ∃ a, v = .ref a ∧ SqL g.K H a (ns.map V.int)

theorem Dp.seq {g : G} {A : Ad} {B : Addr → Prop} {H : Hp} {v : V} {ds : List D} (h : Dp g A B H v (.tup ds)) : ∃ a vs, v = .ref a ∧ SqT g.K H a vs ∧ DpL g A B H vs ds := by
  cases h with
  | tup n r l => exact ⟨_, _, rfl, SqT.of r, l⟩
  | tupK k l => exact ⟨_, _, rfl, .inr k, l⟩
def view (ω : List Cell) : D → Option D
  | .oid k => match ω[k]? with
    | some (.lst ds) => some (.lst ds)
    | some (.dic ds) => some (.dic ds)
    | some (.obj c fs) => some (.obj c fs)
    | some (.ldc ds) => some (.dic ds)
    | _ => none
  | d => some d

section
variable {g : G} {A A' : Ad} {B B' : Addr → Prop} {H H' : Hp} {ω : List Cell} {v : V} {d d' : D}
theorem rW.up (w : Wo g A B H ω) (t : Stp A B H A' B' H') (h : rW g A B H v d) : rW g A' B' H' v d := by
  rcases h with h | ⟨p, vs, ds, e1, e2, hp, l, nl⟩
  · exact .inl (Dp.mv (w.mv t) d v h)
  · refine .inr ⟨p, vs, ds, e1, e2, t.keep p _ hp nl, DpL.mv (w.mv t) ds vs l, fun z => ?_⟩
    rcases t.new p z with z | z
    · exact nl z
    · rw [z] at hp; cases hp
theorem Vw.of (h : Dp g A B H v d) (w : Wo g A B H ω) (e : view ω d = some d') : Vw g A B H v d' := by
  cases h with
  | non => cases e; rfl
  | bl b => cases e; rfl
  | int b => cases e; rfl
  | str b => cases e; rfl
  | tup n r l => cases e; exact .tup n r l
  | tupK k l => cases e; exact .tupK k l
  | lst n r l => cases e; exact ⟨_, _, rfl, r, l⟩
  | dic n r l => cases e; exact ⟨_, _, rfl, r, l⟩
  | obj n r q l => cases e; exact ⟨_, _, _, _, rfl, r, q, l⟩
  | scr n r => cases e; exact ⟨_, rfl, .inl r⟩
  | scrK k => cases e; exact ⟨_, rfl, .inr k⟩
  | @oid a k ha =>
    unfold view at e
    cases q : ω[k]? with
    | none => simp only [q] at e; cases e
    | some c =>
      simp only [q] at e
      rcases w.cell k c q with ⟨rfl, z⟩ | ⟨b, hb, ok⟩
      · cases e
      · rw [ha] at hb; cases hb
        cases c with
        | dead => cases e
        | lst ds =>
          cases e
          obtain ⟨vs, h1, h2⟩ := ok
          exact ⟨_, vs, rfl, h1, h2⟩
        | dic ds =>
          cases e
          obtain ⟨vs, h1, h2⟩ := ok
          exact ⟨_, vs, rfl, .inl h1, h2⟩
        | obj c fs =>
          cases e
          obtain ⟨C, dx, vs, h1, h2, h3⟩ := ok
          exact ⟨_, C, dx, vs, rfl, h1, h2, h3⟩
        | ldc ds =>
          cases e
          obtain ⟨o, vs, h1, h2⟩ := ok
          exact ⟨_, vs, rfl, .inr ⟨o, h1⟩, h2⟩
  | @ded v k ha =>
    unfold view at e
    cases q : ω[k]? with
    | none => simp only [q] at e; cases e
    | some c =>
      simp only [q] at e
      rcases w.cell k c q with ⟨rfl, z⟩ | ⟨b, hb, ok⟩
      · cases e
      · rw [ha] at hb; cases hb
theorem view_ok (w : Wo g A B H ω) (h : rW g A B H v d) (e : view ω d = some d') : Vw g A B H v d' := by
  rcases h with h | ⟨p, vs, ds, rfl, rfl, hp, l, nl⟩
  · exact Vw.of h w e
  · cases e
    exact ⟨_, vs, rfl, hp, l⟩

/-! ### the heap grows -/
theorem Stp.grow {p : Addr} {o : HO} (hp : H p = none) : Stp A B H A B (upd H p o) :=
  ⟨fun a u h _ => by rw [upd_ne (ne_of_none h hp)]; exact h, fun _ _ _ _ => Iff.rfl, fun _ h => .inl h, fun _ _ h => .inl h, fun a u h => ⟨u, by rw [upd_ne (ne_of_none h hp)]; exact h⟩, frz_upd (frz_none hp)⟩
theorem CellOk.mv0 {a : Addr} {c : Cell} (m : Mv0 A B H A' B' H') (k : ∀ o, H a = some o → H' a = some o) (h : CellOk g A B H a c) : CellOk g A' B' H' a c := by
  cases c with
  | dead => exact h
  | lst ds =>
    obtain ⟨vs, h1, h2⟩ := h
    exact ⟨vs, k _ h1, DpL.mv0 m _ _ h2⟩
  | dic ds =>
    obtain ⟨vs, h1, h2⟩ := h
    exact ⟨vs, k _ h1, DpK.mv0 m _ _ h2⟩
  | obj c fs =>
    obtain ⟨C, dx, vs, h1, h2, h3⟩ := h
    exact ⟨C, dx, vs, k _ h1, h2, DpF.mv0 m _ _ h3⟩
  | ldc ds =>
    obtain ⟨o, vs, h1, h2⟩ := h
    exact ⟨o, vs, k _ h1, DpK.mv0 m _ _ h2⟩
theorem CellOk.mv {a : Addr} {c : Cell} (m : Mv A B H A' B' H') (k : ∀ o, H a = some o → H' a = some o) (h : CellOk g A B H a c) : CellOk g A' B' H' a c := h.mv0 m.m0 k
theorem Mv.grow {p : Addr} {o : HO} (hp : H p = none) : Mv A B H A B (upd H p o) :=
  ⟨fun a u n e => ⟨by rw [upd_ne (ne_of_none e hp)]; exact e, n⟩, fun _ _ h => .inl h, frz_upd (frz_none hp)⟩
theorem Wo.grow {p : Addr} {o : HO} (w : Wo g A B H ω) (hp : H p = none) : Wo g A B (upd H p o) ω :=
  ⟨w.len, w.inj, w.liv, fun a h => by
    obtain ⟨u, e⟩ := w.bnd a h
    exact ⟨u, by rw [upd_ne (ne_of_none e hp)]; exact e⟩, fun k c e => by
    rcases w.cell k c e with z | ⟨a, h1, h2⟩
    · exact .inl z
    · exact .inr ⟨a, h1, h2.mv (Mv.grow hp) fun u q => by rw [upd_ne (ne_of_none q hp)]; exact q⟩⟩
end

/-- what comes behind a value -/
abbrev Aft (g : G) (A : Ad) (B : Addr → Prop) (H : Hp) (ω : List Cell) (d : D) (Q : VK) : Prop :=
  ∀ v A' B' H', Stp A B H A' B' H' → Wo g A' B' H' ω → Dp g A' B' H' v d → Q v H'
section
variable {g : G} {A : Ad} {B : Addr → Prop} {H : Hp} {ω : List Cell} {Q : VK}
theorem Aft.now {d : D} {v : V} (h : Aft g A B H ω d Q) (w : Wo g A B H ω) (r : Dp g A B H v d) : Q v H := h v A B H (.refl _ _ _) w r
theorem Aft.tup {vs : List V} {ds : List D} (h : Aft g A B H ω (.tup ds) Q) (w : Wo g A B H ω) (l : DpL g A B H vs ds) : ∀ p, H p = none → Q (.ref p) (upd H p (.tup vs)) := fun p hp =>
  h _ A B _ (Stp.grow hp) (w.grow hp) (.tup (w.nb hp) upd_same (DpL.mv (Mv.grow hp) _ _ l))
theorem Aft.lst {vs : List V} {ds : List D} (h : Aft g A B H ω (.lst ds) Q) (w : Wo g A B H ω) (l : DpL g A B H vs ds) : ∀ p, H p = none → Q (.ref p) (upd H p (.lst vs)) := fun p hp =>
  h _ A B _ (Stp.grow hp) (w.grow hp) (.lst (w.nb hp) upd_same (DpL.mv (Mv.grow hp) _ _ l))
end

/-! ### lists of data -/
section
variable {g : G} {A : Ad} {B : Addr → Prop} {H : Hp}
theorem DpL.length : ∀ {ds : List D} {vs : List V}, DpL g A B H vs ds → vs.length = ds.length
  | [], _, h => by cases h; rfl
  | d :: ds, _, h => by cases h with | cons h1 h2 => simp [DpL.length h2]
theorem DpL.append : ∀ {ds es : List D} {vs ws : List V}, DpL g A B H vs ds → DpL g A B H ws es → DpL g A B H (vs ++ ws) (ds ++ es)
  | [], es, _, ws, h, k => by cases h; exact k
  | d :: ds, es, _, ws, h, k => by cases h with | cons h1 h2 => exact .cons h1 (DpL.append h2 k)
theorem DpL.get : ∀ {ds : List D} {vs : List V} {i : Nat} {d : D}, DpL g A B H vs ds → ds[i]? = some d → ∃ v, vs[i]? = some v ∧ Dp g A B H v d
  | [], _, _, _, _, e => by simp at e
  | d :: ds, _, 0, _, h, e => by
    cases h with
    | cons h1 h2 =>
      simp at e; subst e
      exact ⟨_, rfl, h1⟩
  | d :: ds, _, i + 1, e', h, e => by
    cases h with
    | cons h1 h2 =>
      obtain ⟨v, q1, q2⟩ := DpL.get (i := i) (d := e') h2 (by simpa using e)
      exact ⟨v, by simpa using q1, q2⟩
theorem DpL.getV : ∀ {ds : List D} {vs : List V} {i : Nat} {v : V}, DpL g A B H vs ds → vs[i]? = some v → ∃ d, ds[i]? = some d ∧ Dp g A B H v d
  | [], _, _, _, h, e => by cases h; simp at e
  | d :: ds, _, 0, _, h, e => by
    cases h with
    | cons h1 h2 =>
      simp at e; subst e
      exact ⟨_, rfl, h1⟩
  | d :: ds, _, i + 1, e', h, e => by
    cases h with
    | cons h1 h2 =>
      obtain ⟨v, q1, q2⟩ := DpL.getV (i := i) (v := e') h2 (by simpa using e)
      exact ⟨v, by simpa using q1, q2⟩
theorem DpL.take : ∀ {ds : List D} {vs : List V} (n : Nat), DpL g A B H vs ds → DpL g A B H (vs.take n) (ds.take n)
  | _, _, 0, _ => .nil
  | [], _, n + 1, h => by cases h; exact .nil
  | d :: ds, _, n + 1, h => by cases h with | cons h1 h2 => exact .cons h1 (DpL.take n h2)
theorem DpL.drop : ∀ {ds : List D} {vs : List V} (n : Nat), DpL g A B H vs ds → DpL g A B H (vs.drop n) (ds.drop n)
  | _, _, 0, h => h
  | [], _, n + 1, h => by cases h; exact .nil
  | d :: ds, _, n + 1, h => by cases h with | cons h1 h2 => exact DpL.drop n h2
theorem DpL.reverse : ∀ {ds : List D} {vs : List V}, DpL g A B H vs ds → DpL g A B H vs.reverse ds.reverse
  | [], _, h => by cases h; exact .nil
  | d :: ds, _, h => by
    cases h with
    | cons h1 h2 =>
      rw [List.reverse_cons, List.reverse_cons]
      exact (DpL.reverse h2).append (.cons h1 .nil)
theorem DpL.set : ∀ {ds : List D} {vs : List V} (i : Nat) {v : V} {d : D}, DpL g A B H vs ds → Dp g A B H v d → DpL g A B H (vs.set i v) (ds.set i d)
  | [], _, _, _, _, h, _ => by cases h; exact .nil
  | d :: ds, _, 0, _, _, h, k => by cases h with | cons h1 h2 => exact .cons k h2
  | d :: ds, _, i + 1, _, _, h, k => by cases h with | cons h1 h2 => exact .cons h1 (DpL.set i h2 k)
theorem DpL.dropLast {ds : List D} {vs : List V} (h : DpL g A B H vs ds) : DpL g A B H vs.dropLast ds.dropLast := by
  rw [List.dropLast_eq_take, List.dropLast_eq_take, h.length]
  exact h.take _
theorem DpL.eraseIdx : ∀ {ds : List D} {vs : List V} (i : Nat), DpL g A B H vs ds → DpL g A B H (vs.eraseIdx i) (ds.eraseIdx i)
  | [], _, _, h => by cases h; exact .nil
  | d :: ds, _, 0, h => by cases h with | cons h1 h2 => exact h2
  | d :: ds, _, i + 1, h => by cases h with | cons h1 h2 => exact .cons h1 (DpL.eraseIdx i h2)
end

/-! ### names and constants -/
/-- a datum's name -/
def vF (i : Nat) : M D := fun ρ ω => match ρ[i]? with
  | some (.fz d) => some (.val d ω)
  | _ => none
/-- a name that is looked at only -/
def vW (i : Nat) : M D := fun ρ ω => match ρ[i]? with
  | some (.fz d) => some (.val d ω)
  | some (.ow ds) => some (.val (.lst ds) ω)
  | _ => none
section
variable {X : Cx} {g : G} {W : WX}
theorem tM_var {i : Nat} : ∀ σ H Q, tM g rD W (vF i) σ H Q → tVar i σ H Q := by
  rintro σ H Q ⟨H0, A, B, ρ, ω, r, fm, e, res⟩
  unfold vF at e
  cases q : ρ[i]? with
  | none => simp only [q] at e; cases e
  | some s =>
    simp only [q] at e
    cases s with
    | no => cases e
    | ex p x => cases e
    | ow ds => cases e
    | fz d =>
      cases e
      obtain ⟨v, hv, h⟩ := fm.sl.val i _ q
      exact ⟨v, hv, res v A B H (.refl _ _ _) fm.wo h⟩
theorem tM_varW {i : Nat} : ∀ σ H Q, tM g rW W (vW i) σ H Q → tVar i σ H Q := by
  rintro σ H Q ⟨H0, A, B, ρ, ω, r, fm, e, res⟩
  unfold vW at e
  cases q : ρ[i]? with
  | none => simp only [q] at e; cases e
  | some s =>
    simp only [q] at e
    cases s with
    | no => cases e
    | ex p x => cases e
    | ow ds =>
      cases e
      obtain ⟨p, vs, hv, hp, l, b, nl, h0⟩ := fm.sl.val i _ q
      exact ⟨_, hv, res _ A B H (.refl _ _ _) fm.wo (.inr ⟨p, vs, ds, rfl, rfl, hp, l, nl⟩)⟩
    | fz d =>
      cases e
      obtain ⟨v, hv, h⟩ := fm.sl.val i _ q
      exact ⟨v, hv, res v A B H (.refl _ _ _) fm.wo (.inl h)⟩
theorem de_v (i : Nat) {x : Str} {pos : Pos} (hN : X.N[i]? = some x := by rfl) (hv : Vis X.env.scope x := by first | exact Or.inl rfl | exact Or.inr (Or.inl rfl) | exact Or.inr (Or.inr rfl)) (hd : (x == ("__debug__" : Str)) = false := by decide)
    (hcd : (x == ("__classdict__" : Str)) = false := by decide) : PE X (.Name x pos) (tM g rD W (vF i)) := (pe_var hN hv hd hcd).dl tM_var
theorem dw_v (i : Nat) {x : Str} {pos : Pos} (hN : X.N[i]? = some x := by rfl) (hv : Vis X.env.scope x := by first | exact Or.inl rfl | exact Or.inr (Or.inl rfl) | exact Or.inr (Or.inr rfl)) (hd : (x == ("__debug__" : Str)) = false := by decide)
    (hcd : (x == ("__classdict__" : Str)) = false := by decide) : PE X (.Name x pos) (tM g rW W (vW i)) := (pe_var hN hv hd hcd).dl tM_varW
/-- data are looked at -/
theorem dw {e : Expr} {f : M D} (h : PE X e (tM g rD W f)) : PE X e (tM g rW W f) := h.dl fun σ H Q ⟨H0, A, B, ρ, ω, r, fm, e, res⟩ => ⟨H0, A, B, ρ, ω, r, fm, e, by
  cases r with
  | val a ω' => exact fun v A' B' H' t w rl => res v A' B' H' t w (.inl rl)
  | exc x ω' => exact res⟩
/-- a constant -/
theorem tM_c {v : V} {d : D} (hd : ∀ g A B H, Dp g A B H v d) : ∀ σ H Q, tM g rD W (M.pure d) σ H Q → Q v H := by
  rintro σ H Q ⟨H0, A, B, ρ, ω, r, fm, e, res⟩
  cases e
  exact res v A B H (.refl _ _ _) fm.wo (hd _ _ _ _)
theorem de_int {i : Int} {j pos} : PE X (.Constant (.int i) j pos) (tM g rD W (M.pure (.int i))) := pe_int.dl (tM_c fun _ _ _ _ => .int i)
theorem de_bl {b : Bool} {j pos} : PE X (.Constant (.bool b) j pos) (tM g rD W (M.pure (.bl b))) := pe_bl.dl (tM_c fun _ _ _ _ => .bl b)
theorem de_non {j pos} : PE X (.Constant .none j pos) (tM g rD W (M.pure .non)) := pe_non.dl (tM_c fun _ _ _ _ => .non)
theorem de_str {x : Str} {j pos} : PE X (.Constant (.str x) j pos) (tM g rD W (M.pure (.str x))) := pe_str.dl (tM_c fun _ _ _ _ => .str x)
/-- a module's int or text -/
theorem de_glob {x : Str} {d : D} {v : V} {u : Value} {pos : Pos} (hg : Gl X x) (hm : X.mg x = some u) (r : RelV v u) (hd : ∀ g A B H, Dp g A B H v d) (hdb : (x == ("__debug__" : Str)) = false := by decide) : PE X (.Name x pos) (tM g rD W (M.pure d)) :=
  (pe_glob hg hm r hdb).dl (tM_c hd)
end

/-! ### operators by values -/
/-- an operator of two, over what is seen -/
def op2 (f : D → D → Option D) (x y : D) : M D := fun _ ω => match view ω x, view ω y with
  | some x', some y' => match f x' y' with
    | some z => some (.val z ω)
    | none => none
  | _, _ => none
/-- two values, an operator -/
def bo (f : D → D → Option D) (fa fb : M D) : M D := fa.bind fun x => fb.bind fun y => op2 f x y
theorem op2_some {f : D → D → Option D} {x y : D} {ρ : Rho} {ω : List Cell} {r : R D} (h : op2 f x y ρ ω = some r) : ∃ x' y' z, view ω x = some x' ∧ view ω y = some y' ∧ f x' y' = some z ∧ r = .val z ω := by
  unfold op2 at h
  cases q1 : view ω x with
  | none => simp only [q1] at h; cases h
  | some x' =>
    cases q2 : view ω y with
    | none => simp only [q1, q2] at h; cases h
    | some y' =>
      simp only [q1, q2] at h
      cases q3 : f x' y' with
      | none => simp only [q3] at h; cases h
      | some z =>
        simp only [q3] at h
        cases h
        exact ⟨x', y', z, rfl, rfl, q3, rfl⟩
def V2 (g : G) (r : R2) (f : D → D → Option D) : Prop := ∀ (A : Ad) (B : Addr → Prop) (H : Hp) (ω : List Cell) (x y : V) (a b c : D) (Q : VK), Wo g A B H ω → Vw g A B H x a → Vw g A B H y b → f a b = some c → Aft g A B H ω c Q → r x y H Q
def op1 (f : D → Option D) (x : D) : M D := fun _ ω => match view ω x with
  | some x' => match f x' with
    | some z => some (.val z ω)
    | none => none
  | _ => none
def uo (f : D → Option D) (fa : M D) : M D := fa.bind fun x => op1 f x
theorem op1_some {f : D → Option D} {x : D} {ρ : Rho} {ω : List Cell} {r : R D} (h : op1 f x ρ ω = some r) : ∃ x' z, view ω x = some x' ∧ f x' = some z ∧ r = .val z ω := by
  unfold op1 at h
  cases q1 : view ω x with
  | none => simp only [q1] at h; cases h
  | some x' =>
    simp only [q1] at h
    cases q3 : f x' with
    | none => simp only [q3] at h; cases h
    | some z =>
      simp only [q3] at h
      cases h
      exact ⟨x', z, rfl, q3, rfl⟩
def V1 (g : G) (r : V → Hp → VK → Prop) (f : D → Option D) : Prop := ∀ (A : Ad) (B : Addr → Prop) (H : Hp) (ω : List Cell) (x : V) (a c : D) (Q : VK), Wo g A B H ω → Vw g A B H x a → f a = some c → Aft g A B H ω c Q → r x H Q
section
variable {X : Cx} {g : G} {W : WX} {a b c : Expr} {fa fb fc : M D} {f : D → D → Option D} {pos : Pos}
theorem tM_op2 {r : R2} (hv : V2 g r f) : ∀ σ H Q, tM g rD W (bo f fa fb) σ H Q → tOp r (tM g rW W fa) (tM g rW W fb) σ H Q := by
  rintro σ H Q ⟨H0, A, B, ρ, ω, r, fm, e, res⟩
  refine tM_mono (tM_bind fm e res) fun x H1 ⟨A1, B1, ω1, d1, t1, fm1, r1, e1, res1⟩ => ?_
  refine tM_mono (tM_bind fm1 e1 res1) fun y H2 ⟨A2, B2, ω2, d2, t2, fm2, r2, e2, res2⟩ => ?_
  obtain ⟨x', y', z, h1, h2, h3, rfl⟩ := op2_some e2
  exact hv A2 B2 H2 ω2 x y x' y' z Q fm2.wo (view_ok fm2.wo (r1.up fm1.wo t2) h1) (view_ok fm2.wo r2 h2) h3 res2
theorem de_op {op : Operator} {r : R2} (ho : OpR X (binaryOp op) r) (hv : V2 g r f) (ha : PE X a (tM g rW W fa)) (hb : PE X b (tM g rW W fb)) : PE X (.BinOp a op b pos) (tM g rD W (bo f fa fb)) :=
  (pe_op ho ha hb).dl (tM_op2 hv)
theorem de_cmp {op : CmpOp} {r : R2} (ho : OpR X (compareOp op) r) (hv : V2 g r f) (ha : PE X a (tM g rW W fa)) (hb : PE X b (tM g rW W fb)) (hm : behindInMarks op b = false) : PE X (.Compare a [op] [b] pos) (tM g rD W (bo f fa fb)) :=
  (pe_cmpR ho ha hb hm).dl (tM_op2 hv)
theorem de_ix {r : R2} (ho : IxR X r) (hv : V2 g r f) (ha : PE X a (tM g rW W fa)) (hb : PE X b (tM g rW W fb)) (hs : PlainIx b) : PE X (.Subscript a b pos) (tM g rD W (bo f fa fb)) :=
  (pe_ix ho ha hb hs).dl (tM_op2 hv)
theorem tM_op1 {f : D → Option D} {r : V → Hp → VK → Prop} (hv : V1 g r f) : ∀ σ H Q, tM g rD W (uo f fa) σ H Q → tM g rW W fa σ H fun x H1 => r x H1 Q := by
  rintro σ H Q ⟨H0, A, B, ρ, ω, r, fm, e, res⟩
  refine tM_mono (tM_bind fm e res) fun x H1 ⟨A1, B1, ω1, d1, t1, fm1, r1, e1, res1⟩ => ?_
  obtain ⟨x', z, h1, h3, rfl⟩ := op1_some e1
  exact hv A1 B1 H1 ω1 x x' z Q fm1.wo (view_ok fm1.wo r1 h1) h3 res1
theorem de_un {op : UnaryOp} {f : D → Option D} {r : V → Hp → VK → Prop} (ho : UnR X (unaryOp op) r) (hv : V1 g r f) (ha : PE X a (tM g rW W fa)) : PE X (.UnaryOp op a pos) (tM g rD W (uo f fa)) :=
  (pe_un ho ha).dl (tM_op1 hv)

/-! ### tests -/
/-- a test of a comparison -/
def asB : D → M Bool := fun d _ ω => match d with
  | .bl b => some (.val b ω)
  | _ => none
theorem dt_cmp {op : CmpOp} {r : R2} (ho : OpR X (compareOp op) r) (hv : V2 g r f) (ha : PE X a (tM g rW W fa)) (hb : PE X b (tM g rW W fb)) (hm : behindInMarks op b = false) :
    PT X (.Compare a [op] [b] pos) (tM g rB W ((bo f fa fb).bind asB)) :=
  (pt_cmpR ho ha hb hm).dl fun σ H Q ⟨H0, A, B, ρ, ω, r, fm, e, res⟩ => by
    refine tM_op2 hv σ H _ (tM_mono (tM_bind fm e res) fun x H1 ⟨A1, B1, ω1, d1, t1, fm1, r1, e1, res1⟩ => ?_)
    unfold asB at e1
    cases d1 with
    | bl k =>
      cases e1
      cases r1
      exact ⟨k, rfl, res1 k A1 B1 H1 (.refl _ _ _) fm1.wo rfl⟩
    | _ => cases e1
/-- truth -/
def truD : D → Option Bool
  | .non => some false
  | .bl b => some b
  | .int i => some (i != 0)
  | .str x => if x.length ≤ sizeLine then some ((x.length : Int) != 0) else none
  | .tup ds => some !ds.isEmpty
  | .lst ds => some !ds.isEmpty
  | _ => none
def tru (d : D) : M Bool := fun _ ω => match view ω d with
  | some d' => match truD d' with
    | some b => some (.val b ω)
    | none => none
  | none => none
theorem isEmpty_len {α β : Type} {xs : List α} {ys : List β} (h : xs.length = ys.length) : xs.isEmpty = ys.isEmpty := by
  cases xs <;> cases ys <;> first | rfl | simp at h
theorem truV_of {A : Ad} {B : Addr → Prop} {H : Hp} {x : V} {d : D} {k : Bool} (h : Vw g A B H x d) (e : truD d = some k) : TruV g.K x H k := by
  cases d with
  | non => cases h; cases e; rfl
  | bl b => cases h; cases e; rfl
  | int b => cases h; cases e; rfl
  | str b =>
    cases h
    simp only [truD] at e
    split at e
    · cases e; exact ⟨by assumption, rfl⟩
    · cases e
  | tup ds =>
    obtain ⟨a, vs, rfl, hs, l⟩ := Dp.seq h
    cases e
    exact .inr (.inl ⟨vs, hs, by rw [isEmpty_len l.length]⟩)
  | lst ds =>
    obtain ⟨a, vs, rfl, hs, l⟩ := h
    cases e
    exact .inl ⟨vs, SqL.of hs, by rw [isEmpty_len l.length]⟩
  | _ => cases e
theorem dt_tru (hK : X.K = g.K) (ha : PE X a (tM g rW W fa)) (he : ∀ whole, isTrue a X.env whole = (do let v ← whole; standAt a.pos; holding [v] (truthy v)) := by intro _; rfl) : PT X a (tM g rB W (fa.bind tru)) :=
  (pt_truth ha he).dl fun σ H Q ⟨H0, A, B, ρ, ω, r, fm, e, res⟩ => by
    refine tM_mono (tM_bind fm e res) fun x H1 ⟨A1, B1, ω1, d1, t1, fm1, r1, e1, res1⟩ => ?_
    unfold tru at e1
    cases q : view ω1 d1 with
    | none => simp only [q] at e1; cases e1
    | some d' =>
      simp only [q] at e1
      cases q2 : truD d' with
      | none => simp only [q2] at e1; cases e1
      | some k =>
        simp only [q2] at e1
        cases e1
        exact ⟨k, by rw [hK]; exact truV_of (view_ok fm1.wo r1 q) q2, res1 k A1 B1 H1 (.refl _ _ _) fm1.wo rfl⟩
variable {ta tb : M Bool} {rest : List Expr}
def andM (ta tb : M Bool) : M Bool := ta.bind fun b => if b = true then tb else M.pure false
def orM (ta tb : M Bool) : M Bool := ta.bind fun b => if b = true then M.pure true else tb
def notM (ta : M Bool) : M Bool := ta.bind fun b => M.pure (!b)
theorem tM_step {α β : Type} {rel : Rl β α} {f : M α} {A : Ad} {B : Addr → Prop} {H H0 : Hp} {ω : List Cell} {σ : St} {ρ : Rho} {r : R α} {Q : β → Hp → Prop} (fm : Fm g H0 A B H ω σ ρ) (e : f ρ ω = some r) (res : ResOk g rel W σ A B H Q r) : tM g rel W f σ H Q := ⟨H0, A, B, ρ, ω, r, fm, e, res⟩
theorem tM_pureB {A : Ad} {B : Addr → Prop} {H : Hp} {ω : List Cell} {σ : St} {ρ : Rho} {H0 : Hp} {b : Bool} {r : R Bool} {Q : Bool → Hp → Prop} (fm : Fm g H0 A B H ω σ ρ) (e : M.pure b ρ ω = some r) (res : ResOk g rB W σ A B H Q r) : Q b H := by
  cases e
  exact res b A B H (.refl _ _ _) fm.wo rfl
theorem dt_not (ha : PT X a (tM g rB W ta)) : PT X (.UnaryOp .Not a pos) (tM g rB W (notM ta)) :=
  (pt_not ha).dl fun σ H Q ⟨H0, A, B, ρ, ω, r, fm, e, res⟩ =>
    tM_mono (tM_bind fm e res) fun x H1 ⟨A1, B1, ω1, d1, t1, fm1, r1, e1, res1⟩ => by
      cases r1
      exact tM_pureB fm1 e1 res1
theorem dw_and1 (ha : PT X a (tM g rB W ta)) : PW X (.BoolOp .And [a] pos) (tM g rB W ta) := pw_and1 ha
theorem dw_or1 (ha : PT X a (tM g rB W ta)) : PW X (.BoolOp .Or [a] pos) (tM g rB W ta) := pw_or1 ha
theorem dw_and (ha : PT X a (tM g rB W ta)) (hb : PW X (.BoolOp .And (b :: rest) pos) (tM g rB W tb)) : PW X (.BoolOp .And (a :: b :: rest) pos) (tM g rB W (andM ta tb)) :=
  (pw_and ha hb).dl fun σ H Q ⟨H0, A, B, ρ, ω, r, fm, e, res⟩ =>
    tM_mono (tM_bind fm e res) fun x H1 ⟨A1, B1, ω1, d1, t1, fm1, r1, e1, res1⟩ => by
      cases r1
      cases x with
      | true =>
        rw [if_pos rfl] at e1 ⊢
        exact tM_step fm1 e1 res1
      | false =>
        rw [if_neg Bool.false_ne_true] at e1 ⊢
        exact tM_pureB fm1 e1 res1
theorem dw_or (ha : PT X a (tM g rB W ta)) (hb : PW X (.BoolOp .Or (b :: rest) pos) (tM g rB W tb)) : PW X (.BoolOp .Or (a :: b :: rest) pos) (tM g rB W (orM ta tb)) :=
  (pw_or ha hb).dl fun σ H Q ⟨H0, A, B, ρ, ω, r, fm, e, res⟩ =>
    tM_mono (tM_bind fm e res) fun x H1 ⟨A1, B1, ω1, d1, t1, fm1, r1, e1, res1⟩ => by
      cases r1
      cases x with
      | true =>
        rw [if_pos rfl] at e1 ⊢
        exact tM_pureB fm1 e1 res1
      | false =>
        rw [if_neg Bool.false_ne_true] at e1 ⊢
        exact tM_step fm1 e1 res1
theorem dt_w (h : PW X a (tM g rB W ta)) : PT X a (tM g rB W ta) := h.pt
/-- a if t else b -/
def ifM {α : Type} (t : M Bool) (x y : M α) : M α := t.bind fun b => if b = true then x else y
theorem de_ifExp (hc : PT X c (tM g rB W ta)) (ha : PE X a (tM g rD W fa)) (hb : PE X b (tM g rD W fb)) : PE X (.IfExp c a b pos) (tM g rD W (ifM ta fa fb)) :=
  (pe_ifExp hc ha hb).dl fun σ H Q ⟨H0, A, B, ρ, ω, r, fm, e, res⟩ =>
    tM_mono (tM_bind fm e res) fun x H1 ⟨A1, B1, ω1, d1, t1, fm1, r1, e1, res1⟩ => by
      cases r1
      cases x with
      | true =>
        rw [if_pos rfl] at e1 ⊢
        exact tM_step fm1 e1 res1
      | false =>
        rw [if_neg Bool.false_ne_true] at e1 ⊢
        exact tM_step fm1 e1 res1
end

/-! ### and, or, not as values (bools) -/
section
variable {X : Cx} {g : G} {W : WX} {a b : Expr} {fa fb : M D} {rest : List Expr} {pos : Pos}
def andV (fa fb : M D) : M D := (fa.bind asB).bind fun b => if b = true then fb else M.pure (.bl false)
def orV (fa fb : M D) : M D := (fa.bind asB).bind fun b => if b = true then M.pure (.bl true) else fb
def notV (fa : M D) : M D := (fa.bind asB).bind fun b => M.pure (.bl !b)
theorem bind_assoc {α β γ : Type} (f : M α) (k : α → M β) (h : β → M γ) : (f.bind k).bind h = f.bind fun a => (k a).bind h := by
  funext ρ ω
  unfold M.bind
  cases f ρ ω with
  | none => rfl
  | some r => cases r <;> rfl
theorem asB_some {d : D} {ρ : Rho} {ω : List Cell} {β : Type} {k : Bool → M β} {r : R β} (e : ((asB d).bind k) ρ ω = some r) : ∃ b, d = .bl b ∧ k b ρ ω = some r := by
  unfold M.bind asB at e
  cases d with
  | bl b => exact ⟨b, rfl, e⟩
  | _ => cases e
theorem de_one {op} (h : PE X a (tM g rD W fa)) : PE X (.BoolOp op [a] pos) (tM g rD W fa) := pe_one h
theorem de_and (ha : PE X a (tM g rD W fa)) (hb : PE X (.BoolOp .And (b :: rest) pos) (tM g rD W fb)) : PE X (.BoolOp .And (a :: b :: rest) pos) (tM g rD W (andV fa fb)) :=
  (pe_and ha hb).dl fun σ H Q ⟨H0, A, B, ρ, ω, r, fm, e, res⟩ => by
    unfold andV at e
    rw [bind_assoc] at e
    refine tM_mono (tM_bind fm e res) fun x H1 ⟨A1, B1, ω1, d1, t1, fm1, r1, e1, res1⟩ => ?_
    obtain ⟨k, rfl, e2⟩ := asB_some e1
    cases r1
    refine ⟨k, rfl, ?_⟩
    cases k with
    | true =>
      rw [if_pos rfl] at e2 ⊢
      exact tM_step fm1 e2 res1
    | false =>
      rw [if_neg Bool.false_ne_true] at e2 ⊢
      exact tM_c (fun _ _ _ _ => .bl false) σ H1 Q (tM_step fm1 e2 res1)
theorem de_or (ha : PE X a (tM g rD W fa)) (hb : PE X (.BoolOp .Or (b :: rest) pos) (tM g rD W fb)) : PE X (.BoolOp .Or (a :: b :: rest) pos) (tM g rD W (orV fa fb)) :=
  (pe_or ha hb).dl fun σ H Q ⟨H0, A, B, ρ, ω, r, fm, e, res⟩ => by
    unfold orV at e
    rw [bind_assoc] at e
    refine tM_mono (tM_bind fm e res) fun x H1 ⟨A1, B1, ω1, d1, t1, fm1, r1, e1, res1⟩ => ?_
    obtain ⟨k, rfl, e2⟩ := asB_some e1
    cases r1
    refine ⟨k, rfl, ?_⟩
    cases k with
    | true =>
      rw [if_pos rfl] at e2 ⊢
      exact tM_c (fun _ _ _ _ => .bl true) σ H1 Q (tM_step fm1 e2 res1)
    | false =>
      rw [if_neg Bool.false_ne_true] at e2 ⊢
      exact tM_step fm1 e2 res1
theorem de_not (ha : PE X a (tM g rD W fa)) : PE X (.UnaryOp .Not a pos) (tM g rD W (notV fa)) :=
  (pe_not ha).dl fun σ H Q ⟨H0, A, B, ρ, ω, r, fm, e, res⟩ => by
    unfold notV at e
    rw [bind_assoc] at e
    refine tM_mono (tM_bind fm e res) fun x H1 ⟨A1, B1, ω1, d1, t1, fm1, r1, e1, res1⟩ => ?_
    obtain ⟨k, rfl, e2⟩ := asB_some e1
    cases r1
    exact ⟨k, rfl, tM_c (fun _ _ _ _ => .bl _) σ H1 Q (tM_step fm1 e2 res1)⟩
end

/-! ### arguments, displays -/
def consM (f : M D) (fs : M (List D)) : M (List D) := f.bind fun d => fs.bind fun ds => M.pure (d :: ds)
section
variable {X : Cx} {g : G} {W : WX} {e : Expr} {es : List Expr} {f : M D} {fs : M (List D)} {pos : Pos}
theorem da_nil : PA X [] (tM g rL W (M.pure [])) := pa_nil.dl fun σ H Q ⟨H0, A, B, ρ, ω, r, fm, e, res⟩ => by
  cases e
  exact res [] A B H (.refl _ _ _) fm.wo .nil
theorem da_cons (h : PE X e (tM g rD W f)) (hs : PA X es (tM g rL W fs)) (hst : starEach (e :: es) X.env = (false, eval e X.env) :: starEach es X.env := by rfl) : PA X (e :: es) (tM g rL W (consM f fs)) :=
  (pa_cons h hs hst).dl fun σ H Q ⟨H0, A, B, ρ, ω, r, fm, e, res⟩ => by
    refine tM_mono (tM_bind fm e res) fun x H1 ⟨A1, B1, ω1, d1, t1, fm1, r1, e1, res1⟩ => ?_
    refine tM_mono (tM_bind fm1 e1 res1) fun y H2 ⟨A2, B2, ω2, d2, t2, fm2, r2, e2, res2⟩ => ?_
    cases e2
    exact res2 _ A2 B2 H2 (.refl _ _ _) fm2.wo (.cons (Dp.mv (fm1.wo.mv t2) _ _ r1) r2)
def mkTup (ds : List D) : M D := fun _ ω => if ds.length ≤ sizeLine then some (.val (.tup ds) ω) else none
def mkLst (ds : List D) : M D := fun _ ω => if ds.length ≤ sizeLine then some (.val (.lst ds) ω) else none
theorem de_tup {x1} (h : PA X es (tM g rL W fs)) : PE X (.Tuple es x1 pos) (tM g rD W (fs.bind mkTup)) :=
  (pe_tup h).dl fun σ H Q ⟨H0, A, B, ρ, ω, r, fm, e, res⟩ => by
    refine tM_mono (tM_bind fm e res) fun x H1 ⟨A1, B1, ω1, d1, t1, fm1, r1, e1, res1⟩ => ?_
    unfold mkTup at e1
    split at e1
    · cases e1
      refine ⟨by rw [DpL.length r1]; assumption, Aft.tup (fun v A' B' H' t w r => res1 v A' B' H' t w r) fm1.wo r1⟩
    · cases e1
theorem de_lst (h : PA X es (tM g rL W fs)) : PE X (.List es pos) (tM g rD W (fs.bind mkLst)) :=
  (pe_lst h).dl fun σ H Q ⟨H0, A, B, ρ, ω, r, fm, e, res⟩ => by
    refine tM_mono (tM_bind fm e res) fun x H1 ⟨A1, B1, ω1, d1, t1, fm1, r1, e1, res1⟩ => ?_
    unfold mkLst at e1
    split at e1
    · cases e1
      refine ⟨by rw [DpL.length r1]; assumption, Aft.lst (fun v A' B' H' t w r => res1 v A' B' H' t w r) fm1.wo r1⟩
    · cases e1
end
end DL
/-! DL2: operators and built-ins over plain data. -/
namespace DL
open PySem L2

/-! ### arithmetic -/
def rAddA (K : PySem.W.Frag) : R2 := fun x y H Q => (∃ i j, x = .int i ∧ y = .int j ∧ Q (.int (i + j)) H) ∨ (∃ i j, x = .str i ∧ y = .str j ∧ i.length + j.length ≤ sizeLine ∧ Q (.str (i ++ j)) H) ∨ rCat x y H Q ∨ rCatA K x y H Q
theorem op_addA {X : Cx} : OpR X (binaryOp .Add) (rAddA X.K) := op_add.or (op_add_str.or (op_cat.or op_catA))
def addD : D → D → Option D
  | .int i, .int j => some (.int (i + j))
  | .str x, .str y => if x.length + y.length ≤ sizeLine then some (.str (x ++ y)) else none
  | .lst xs, .lst ys => if xs.length + ys.length ≤ sizeLine then some (.lst (xs ++ ys)) else none
  | .tup xs, .tup ys => if xs.length + ys.length ≤ sizeLine then some (.tup (xs ++ ys)) else none
  | _, _ => none
theorem DpL.nil_iff {g : G} {A : Ad} {B : Addr → Prop} {H : Hp} {vs : List V} {ds : List D} (h : DpL g A B H vs ds) : vs = [] ↔ ds = [] := by
  cases h <;> simp
theorem v_add (g : G) : V2 g (rAddA g.K) addD := by
  intro A B H ω x y a b c Q w ha hb e q
  cases a with
  | int i =>
    cases b with
    | int j =>
      cases ha; cases hb; cases e
      exact .inl ⟨i, j, rfl, rfl, q.now w (.int _)⟩
    | _ => cases e
  | str i =>
    cases b with
    | str j =>
      cases ha; cases hb
      simp only [addD] at e
      split at e
      · cases e
        exact .inr (.inl ⟨i, j, rfl, rfl, by assumption, q.now w (.str _)⟩)
      · cases e
    | _ => cases e
  | lst i =>
    cases b with
    | lst j =>
      obtain ⟨p, vs, rfl, hp, l⟩ := ha
      obtain ⟨p', ws, rfl, hp', l'⟩ := hb
      simp only [addD] at e
      split at e
      · cases e
        exact .inr (.inr (.inl ⟨p, p', vs, ws, rfl, rfl, hp, hp', by rw [l.length, l'.length]; assumption, q.lst w (l.append l')⟩))
      · cases e
    | _ => cases e
  | tup i =>
    cases b with
    | tup j =>
      obtain ⟨p, vs, rfl, hp, l⟩ := Dp.seq ha
      obtain ⟨p', ws, rfl, hp', l'⟩ := Dp.seq hb
      simp only [addD] at e
      split at e
      · cases e
        refine .inr (.inr (.inr ⟨p, p', vs, ws, rfl, rfl, hp, hp', by rw [l.length, l'.length]; assumption, fun z => ?_, fun _ z => ?_, fun _ _ => q.tup w (l.append l')⟩))
        · rw [l.nil_iff] at z; subst z
          exact q.now w hb
        · rw [l'.nil_iff] at z; subst z
          rw [List.append_nil] at q
          exact q.now w ha
      · cases e
    | _ => cases e
  | _ => cases e

/-- an operator of two ints -/
def intsD (C : Int → Int → Bool) (f : Int → Int → Int) : D → D → Option D
  | .int i, .int j => if C i j = true then some (.int (f i j)) else none
  | _, _ => none
theorem v_ints {g : G} {C : Int → Int → Prop} {Cb : Int → Int → Bool} {f : Int → Int → Int} (hC : ∀ i j, Cb i j = true → C i j) : V2 g (rI C fun i j => .int (f i j)) (intsD Cb f) := by
  intro A B H ω x y a b c Q w ha hb e q
  cases a with
  | int i =>
    cases b with
    | int j =>
      cases ha; cases hb
      simp only [intsD] at e
      split at e
      · cases e
        exact ⟨i, j, rfl, rfl, hC _ _ (by assumption), q.now w (.int _)⟩
      · cases e
    | _ => cases e
  | _ => cases e
def ints0D (f : Int → Int → Int) : D → D → Option D
  | .int i, .int j => some (.int (f i j))
  | _, _ => none
theorem v_ints0 {g : G} {f : Int → Int → Int} : V2 g (rI0 fun i j => .int (f i j)) (ints0D f) := by
  intro A B H ω x y a b c Q w ha hb e q
  cases a with
  | int i =>
    cases b with
    | int j =>
      cases ha; cases hb; cases e
      exact ⟨i, j, rfl, rfl, q.now w (.int _)⟩
    | _ => cases e
  | _ => cases e
instance (i j : Int) : Decidable (CMul i j) := by unfold CMul; infer_instance
instance (i j : Int) : Decidable (CDiv i j) := by unfold CDiv; infer_instance
instance (i j : Int) : Decidable (CPow i j) := by unfold CPow; infer_instance
def subD : D → D → Option D := ints0D fun i j => i - j
def mulD : D → D → Option D := intsD (fun i j => decide (CMul i j)) fun i j => i * j
def modD : D → D → Option D := intsD (fun _ j => decide (0 < j)) fun i j => i % j
def fdivD : D → D → Option D := intsD (fun i j => decide (CDiv i j)) fun i j => i / j
def powD : D → D → Option D := intsD (fun i j => decide (CPow i j)) fun i j => i ^ j.toNat
theorem subD_int (i j : Int) : subD (.int i) (.int j) = some (.int (i - j)) := rfl
theorem mulD_int {i j : Int} (h : CMul i j) : mulD (.int i) (.int j) = some (.int (i * j)) := if_pos (decide_eq_true h)
theorem modD_int {i j : Int} (h : 0 < j) : modD (.int i) (.int j) = some (.int (i % j)) := if_pos (decide_eq_true h)
theorem fdivD_int {i j : Int} (h : CDiv i j) : fdivD (.int i) (.int j) = some (.int (i / j)) := if_pos (decide_eq_true h)
theorem powD_int {i j : Int} (h : CPow i j) : powD (.int i) (.int j) = some (.int (i ^ j.toNat)) := if_pos (decide_eq_true h)
section
variable {X : Cx} {g : G} {W : WX} {a b c : Expr} {fa fb : M D} {pos : Pos}
theorem de_add (hK : X.K = g.K) (ha : PE X a (tM g rW W fa)) (hb : PE X b (tM g rW W fb)) : PE X (.BinOp a .Add b pos) (tM g rD W (bo addD fa fb)) :=
  de_op op_addA (by rw [hK]; exact v_add g) ha hb
theorem de_sub (ha : PE X a (tM g rW W fa)) (hb : PE X b (tM g rW W fb)) : PE X (.BinOp a .Sub b pos) (tM g rD W (bo subD fa fb)) := de_op op_sub v_ints0 ha hb
theorem de_mul (ha : PE X a (tM g rW W fa)) (hb : PE X b (tM g rW W fb)) : PE X (.BinOp a .Mult b pos) (tM g rD W (bo mulD fa fb)) := de_op op_mul (v_ints fun _ _ h => of_decide_eq_true h) ha hb
theorem de_mod (ha : PE X a (tM g rW W fa)) (hb : PE X b (tM g rW W fb)) : PE X (.BinOp a .Mod b pos) (tM g rD W (bo modD fa fb)) := de_op op_mod (v_ints fun _ _ h => of_decide_eq_true h) ha hb
theorem de_fdiv (ha : PE X a (tM g rW W fa)) (hb : PE X b (tM g rW W fb)) : PE X (.BinOp a .FloorDiv b pos) (tM g rD W (bo fdivD fa fb)) := de_op op_fdiv (v_ints fun _ _ h => of_decide_eq_true h) ha hb
theorem de_pow (ha : PE X a (tM g rW W fa)) (hb : PE X b (tM g rW W fb)) : PE X (.BinOp a .Pow b pos) (tM g rD W (bo powD fa fb)) := de_op op_pow (v_ints fun _ _ h => of_decide_eq_true h) ha hb
def negD : D → Option D
  | .int i => some (.int (-i))
  | _ => none
theorem v_neg : V1 g (rU fun i => .int (-i)) negD := by
  intro A B H ω x a c Q w ha e q
  cases a with
  | int i =>
    cases ha; cases e
    exact ⟨i, rfl, q.now w (.int _)⟩
  | _ => cases e
theorem de_neg (ha : PE X a (tM g rW W fa)) : PE X (.UnaryOp .USub a pos) (tM g rD W (uo negD fa)) := de_un un_neg v_neg ha
end

/-! ### comparisons of ints -/
def cmpI (p : Int → Int → Bool) : D → D → Option D
  | .int i, .int j => some (.bl (p i j))
  | _, _ => none
theorem v_cmpI {g : G} {p : Int → Int → Bool} : V2 g (rI0 fun i j => .bl (p i j)) (cmpI p) := by
  intro A B H ω x y a b c Q w ha hb e q
  cases a with
  | int i =>
    cases b with
    | int j =>
      cases ha; cases hb; cases e
      exact ⟨i, j, rfl, rfl, q.now w (.bl _)⟩
    | _ => cases e
  | _ => cases e
def ltD : D → D → Option D := cmpI fun i j => decide (i < j)
def leD : D → D → Option D := cmpI fun i j => decide (i ≤ j)
def gtD : D → D → Option D := cmpI fun i j => decide (j < i)
def geD : D → D → Option D := cmpI fun i j => decide (j ≤ i)
theorem v_lt {g : G} : V2 g (rI0 fun i j => .bl (decide (i < j))) ltD := v_cmpI
theorem v_le {g : G} : V2 g (rI0 fun i j => .bl (decide (i ≤ j))) leD := v_cmpI
theorem v_gt {g : G} : V2 g (rI0 fun i j => .bl (decide (j < i))) gtD := v_cmpI
theorem v_ge {g : G} : V2 g (rI0 fun i j => .bl (decide (j ≤ i))) geD := v_cmpI

/-! ### is None -/
def isN : D → D → Option D
  | .oid _, _ => none
  | x, .non => some (.bl (match x with | .non => true | _ => false))
  | _, _ => none
def notN : D → D → Option D
  | .oid _, _ => none
  | x, .non => some (.bl (match x with | .non => false | _ => true))
  | _, _ => none
theorem Vw.none_iff {g : G} {A : Ad} {B : Addr → Prop} {H : Hp} {x : V} {a : D} (h : Vw g A B H x a) : decide (x = .non) = (match a with | .non => true | _ => false) := by
  cases a with
  | non => cases h; rfl
  | bl _ => cases h; rfl
  | int _ => cases h; rfl
  | str _ => cases h; rfl
  | tup ds => obtain ⟨a, vs, rfl, _⟩ := Dp.seq h; rfl
  | lst ds => obtain ⟨a, vs, rfl, _⟩ := h; rfl
  | dic ds => obtain ⟨a, vs, rfl, _⟩ := h; rfl
  | obj c fs => obtain ⟨a, C, dx, vs, rfl, _⟩ := h; rfl
  | oid k => exact h.elim
  | scr ns => obtain ⟨a, rfl, _⟩ := h; rfl
theorem v_isN {g : G} : V2 g (fun x y H Q => y = .non ∧ Q (.bl (decide (x = .non))) H) isN := by
  intro A B H ω x y a b c Q w ha hb e q
  cases b with
  | non =>
    cases hb
    refine ⟨rfl, ?_⟩
    rw [ha.none_iff]
    cases a with
    | oid k => exact (show False from ha).elim
    | _ => cases e; exact q.now w (.bl _)
  | _ => cases a <;> cases e
theorem v_notN {g : G} : V2 g (fun x y H Q => y = .non ∧ Q (.bl (!decide (x = .non))) H) notN := by
  intro A B H ω x y a b c Q w ha hb e q
  cases b with
  | non =>
    cases hb
    refine ⟨rfl, ?_⟩
    rw [ha.none_iff]
    cases a with
    | oid k => exact (show False from ha).elim
    | _ => cases e; exact q.now w (.bl _)
  | _ => cases a <;> cases e

/-! ### equality of plain data -/
mutual
def toPy : D → PyData
  | .non => .none
  | .bl b => .bool b
  | .int i => .int i
  | .str x => .str x
  | .tup ds => .tuple (toPyL ds)
  | .lst ds => .list (toPyL ds)
  | .dic _ => .none
  | .obj _ _ => .none
  | .oid _ => .none
  | .scr _ => .none
def toPyL : List D → List PyData
  | [] => []
  | d :: ds => toPy d :: toPyL ds
end
mutual
/-- no objects; texts of signs -/
def plain : D → Bool
  | .non => true
  | .bl _ => true
  | .int _ => true
  | .str x => PySem.PyData.strOk x
  | .tup ds => plainL ds
  | .lst ds => plainL ds
  | .dic _ => false
  | .obj _ _ => false
  | .oid _ => false
  | .scr _ => false
def plainL : List D → Bool
  | [] => true
  | d :: ds => plain d && plainL ds
end
mutual
def dep : D → Nat
  | .tup ds => depL ds + 1
  | .lst ds => depL ds + 1
  | .non => 0
  | .bl _ => 0
  | .int _ => 0
  | .str _ => 0
  | .dic _ => 0
  | .obj _ _ => 0
  | .oid _ => 0
  | .scr _ => 0
def depL : List D → Nat
  | [] => 0
  | d :: ds => max (dep d) (depL ds)
end
mutual
/-- Python's == of plain data -/
def eqb : D → D → Bool
  | .non, .non => true
  | .bl a, .bl b => a == b
  | .bl a, .int j => (if a then 1 else 0) == j
  | .int i, .bl b => i == (if b then 1 else 0)
  | .int i, .int j => i == j
  | .str x, .str y => x == y
  | .lst xs, .lst ys => eqbL xs ys
  | .tup xs, .tup ys => eqbL xs ys
  | _, _ => false
def eqbL : List D → List D → Bool
  | [], [] => true
  | x :: xs, y :: ys => eqb x y && eqbL xs ys
  | _, _ => false
end
mutual
theorem eqv_toPy : ∀ (a b : D), plain a = true → plain b = true → PyData.eqv (toPy a) (toPy b) = eqb a b
  | .non, b, _, hb => by cases b <;> first | rfl | (simp [plain] at hb)
  | .bl x, b, _, hb => by cases b <;> first | rfl | (simp [plain] at hb)
  | .int x, b, _, hb => by cases b <;> first | rfl | (simp [plain] at hb)
  | .str x, b, _, hb => by cases b <;> first | rfl | (simp [plain] at hb)
  | .tup xs, b, ha, hb => by
    cases b with
    | tup ys => exact eqvL_toPy xs ys (by simpa [plain] using ha) (by simpa [plain] using hb)
    | _ => first | rfl | (simp [plain] at hb)
  | .lst xs, b, ha, hb => by
    cases b with
    | lst ys => exact eqvL_toPy xs ys (by simpa [plain] using ha) (by simpa [plain] using hb)
    | _ => first | rfl | (simp [plain] at hb)
  | .dic _, _, ha, _ => by simp [plain] at ha
  | .obj _ _, _, ha, _ => by simp [plain] at ha
  | .oid _, _, ha, _ => by simp [plain] at ha
  | .scr _, _, ha, _ => by simp [plain] at ha
theorem eqvL_toPy : ∀ (a b : List D), plainL a = true → plainL b = true → PyData.eqvAll (toPyL a) (toPyL b) = eqbL a b
  | [], [], _, _ => rfl
  | [], _ :: _, _, _ => rfl
  | _ :: _, [], _, _ => rfl
  | x :: xs, y :: ys, ha, hb => by
    simp only [plainL, Bool.and_eq_true] at ha hb
    simp only [toPyL, PyData.eqvAll, eqbL, eqv_toPy x y ha.1 hb.1, eqvL_toPy xs ys ha.2 hb.2]
end
mutual
theorem lay_toPy : ∀ (a : D), plain a = true → PyData.canLay0 (toPy a) = true ∧ PyData.depth (toPy a) = dep a
  | .non, _ => ⟨rfl, rfl⟩
  | .bl _, _ => ⟨rfl, rfl⟩
  | .int _, _ => ⟨rfl, rfl⟩
  | .str x, h => ⟨by simpa [plain, toPy, PyData.canLay0] using h, rfl⟩
  | .tup xs, h => by
    have := layL_toPy xs (by simpa [plain] using h)
    exact ⟨by simpa [toPy, PyData.canLay0] using this.1, by simp [toPy, PyData.depth, dep, this.2]⟩
  | .lst xs, h => by
    have := layL_toPy xs (by simpa [plain] using h)
    exact ⟨by simpa [toPy, PyData.canLay0] using this.1, by simp [toPy, PyData.depth, dep, this.2]⟩
  | .dic _, h => by simp [plain] at h
  | .obj _ _, h => by simp [plain] at h
  | .oid _, h => by simp [plain] at h
  | .scr _, h => by simp [plain] at h
theorem layL_toPy : ∀ (a : List D), plainL a = true → PyData.canLayAll0 (toPyL a) = true ∧ PyData.depthAll (toPyL a) = depL a
  | [], _ => ⟨rfl, rfl⟩
  | x :: xs, h => by
    simp only [plainL, Bool.and_eq_true] at h
    have h1 := lay_toPy x h.1
    have h2 := layL_toPy xs h.2
    exact ⟨by simp [toPyL, PyData.canLayAll0, h1.1, h2.1], by simp [toPyL, PyData.depthAll, depL, h1.2, h2.2]⟩
end
theorem shaped_toPy {a : D} (h : plain a = true) (hd : dep a ≤ 64) : SeqAt.shaped (toPy a) = true := by
  have := lay_toPy a h
  unfold SeqAt.shaped
  rw [this.1, this.2]
  simpa using hd
mutual
theorem dp_toPy {g : G} {A : Ad} {B : Addr → Prop} {H : Hp} : ∀ (d : D) (v : V), plain d = true → Dp g A B H v d → L2.Dp g.K H v (toPy d)
  | .non, _, _, h => by cases h; exact .non
  | .bl b, _, _, h => by cases h; exact .bl b
  | .int b, _, _, h => by cases h; exact .int b
  | .str b, _, _, h => by cases h; exact .str b
  | .tup ds, _, p, h => by
    obtain ⟨a, vs, rfl, hs, l⟩ := Dp.seq h
    exact .tup hs (dpL_toPy ds vs (by simpa [plain] using p) l)
  | .lst ds, _, p, h => by
    cases h with
    | lst n r l => exact .lst (SqL.of r) (dpL_toPy ds _ (by simpa [plain] using p) l)
  | .dic _, _, h, _ => by simp [plain] at h
  | .obj _ _, _, h, _ => by simp [plain] at h
  | .oid _, _, h, _ => by simp [plain] at h
  | .scr _, _, h, _ => by simp [plain] at h
theorem dpL_toPy {g : G} {A : Ad} {B : Addr → Prop} {H : Hp} : ∀ (ds : List D) (vs : List V), plainL ds = true → DpL g A B H vs ds → L2.DpAll g.K H vs (toPyL ds)
  | [], _, _, h => by cases h; exact .nil
  | d :: ds, _, p, h => by
    simp only [plainL, Bool.and_eq_true] at p
    cases h with
    | cons h1 h2 => exact .cons (dp_toPy d _ p.1 h1) (dpL_toPy ds _ p.2 h2)
end
theorem vw_toPy {g : G} {A : Ad} {B : Addr → Prop} {H : Hp} {d : D} {v : V} (p : plain d = true) (h : Vw g A B H v d) : L2.Dp g.K H v (toPy d) := by
  cases d with
  | non => cases h; exact .non
  | bl b => cases h; exact .bl b
  | int b => cases h; exact .int b
  | str b => cases h; exact .str b
  | tup ds => exact dp_toPy _ _ p h
  | lst ds =>
    obtain ⟨a, vs, rfl, hp, l⟩ := h
    exact .lst (SqL.of hp) (dpL_toPy ds vs (by simpa [plain] using p) l)
  | _ => simp [plain] at p
/-- plain and not too deep -/
def fine (d : D) : Bool := plain d && decide (dep d ≤ 64)
theorem fine_iff {d : D} : fine d = true ↔ plain d = true ∧ dep d ≤ 64 := by simp [fine]
def eqD (x y : D) : Option D := if (fine x && fine y) = true then some (.bl (eqb x y)) else none
def neD (x y : D) : Option D := if (fine x && fine y) = true then some (.bl !(eqb x y)) else none
theorem eqD_fine {x y : D} (hx : fine x = true) (hy : fine y = true) : eqD x y = some (.bl (eqb x y)) := if_pos (by rw [hx, hy]; rfl)
theorem neD_fine {x y : D} (hx : fine x = true) (hy : fine y = true) : neD x y = some (.bl !(eqb x y)) := if_pos (by rw [hx, hy]; rfl)
theorem v_eq (g : G) : V2 g (rEqD g.K) eqD := by
  intro A B H ω x y a b c Q w ha hb e q
  unfold eqD at e
  split at e
  · rename_i hf
    simp only [Bool.and_eq_true, fine_iff] at hf
    cases e
    refine ⟨toPy a, toPy b, vw_toPy hf.1.1 ha, vw_toPy hf.2.1 hb, shaped_toPy hf.1.1 hf.1.2, shaped_toPy hf.2.1 hf.2.2, ?_⟩
    rw [eqv_toPy a b hf.1.1 hf.2.1]
    exact q.now w (.bl _)
  · cases e
theorem v_ne (g : G) : V2 g (rNeD g.K) neD := by
  intro A B H ω x y a b c Q w ha hb e q
  unfold neD at e
  split at e
  · rename_i hf
    simp only [Bool.and_eq_true, fine_iff] at hf
    cases e
    refine ⟨toPy a, toPy b, vw_toPy hf.1.1 ha, vw_toPy hf.2.1 hb, shaped_toPy hf.1.1 hf.1.2, shaped_toPy hf.2.1 hf.2.2, ?_⟩
    rw [eqv_toPy a b hf.1.1 hf.2.1]
    exact q.now w (.bl _)
  · cases e
end DL
/-! DL3: in, items, slices, built-in calls over plain data. -/
namespace DL
open PySem L2

/-! ### in -/
def flat : D → Bool
  | .non => true
  | .bl _ => true
  | .int _ => true
  | .str _ => true
  | _ => false
theorem flat_dp {g : G} {A : Ad} {B : Addr → Prop} {H : Hp} {d : D} {v : V} (f : flat d = true) (h : Vw g A B H v d) : flatV v = true := by
  cases d with
  | non => cases h; rfl
  | bl b => cases h; rfl
  | int b => cases h; rfl
  | str b => cases h; rfl
  | _ => cases f
theorem Dp.flatw {g : G} {A : Ad} {B : Addr → Prop} {H : Hp} {d : D} {v : V} (f : flat d = true) (h : Dp g A B H v d) : Vw g A B H v d := by
  cases h with
  | non => rfl
  | bl b => rfl
  | int b => rfl
  | str b => rfl
  | _ => cases f
theorem eqV_flat {g : G} {A : Ad} {B : Addr → Prop} {H : Hp} {d e : D} {v u : V} (f : flat d = true) (f' : flat e = true) (h : Vw g A B H v d) (h' : Vw g A B H u e) : eqV v u = eqb d e := by
  cases d with
  | non =>
    cases h
    cases e with
    | non => cases h'; rfl
    | bl b => cases h'; rfl
    | int b => cases h'; rfl
    | str b => cases h'; rfl
    | _ => cases f'
  | bl b =>
    cases h
    cases e with
    | non => cases h'; rfl
    | bl b => cases h'; rfl
    | int b => cases h'; rfl
    | str b => cases h'; rfl
    | _ => cases f'
  | int b =>
    cases h
    cases e with
    | non => cases h'; rfl
    | bl b => cases h'; rfl
    | int b => cases h'; rfl
    | str b => cases h'; rfl
    | _ => cases f'
  | str b =>
    cases h
    cases e with
    | non => cases h'; rfl
    | bl b => cases h'; rfl
    | int b => cases h'; rfl
    | str b => cases h'; rfl
    | _ => cases f'
  | _ => cases f
theorem flats_dp {g : G} {A : Ad} {B : Addr → Prop} {H : Hp} {d : D} {v : V} (f : flat d = true) (h : Vw g A B H v d) : ∀ {es : List D} {vs : List V}, es.all flat = true → DpL g A B H vs es → vs.all flatV = true ∧ inV v vs = es.any fun z => eqb z d
  | [], _, _, l => by cases l; exact ⟨rfl, rfl⟩
  | e :: es, _, fl, l => by
    cases l with
    | cons h1 h2 =>
      simp only [List.all_cons, Bool.and_eq_true] at fl
      obtain ⟨q1, q2⟩ := flats_dp f h fl.2 h2
      refine ⟨by simp [flat_dp fl.1 (Dp.flatw fl.1 h1), q1], ?_⟩
      unfold inV at q2 ⊢
      simp only [List.any_cons, q2, eqV_flat fl.1 f (Dp.flatw fl.1 h1) h]
def rInA (K : PySem.W.Frag) : R2 := fun x y H Q => rIn K false x y H Q ∨ rInD K x y H Q ∨ ∃ i j, x = .str i ∧ y = .str j ∧ Q (.bl (!(Builtin.Str.occurrences j i 0 j.length 1).isEmpty)) H
def rNotInA (K : PySem.W.Frag) : R2 := fun x y H Q => rIn K true x y H Q ∨ rNotInD K x y H Q ∨ ∃ i j, x = .str i ∧ y = .str j ∧ Q (.bl (!(!(Builtin.Str.occurrences j i 0 j.length 1).isEmpty))) H
theorem op_inA {X : Cx} (hu : X.A.units + 65 < cLine) : OpR X (compareOp .In) (rInA X.K) := op_in_seq.or ((op_inD hu).or op_in_str)
theorem op_notInA {X : Cx} (hu : X.A.units + 65 < cLine) : OpR X (compareOp .NotIn) (rNotInA X.K) := op_notIn_seq.or ((op_notInD hu).or op_notIn_str)
def inB : D → D → Option Bool
  | x, .lst ds => if (fine x && fine (.lst ds)) = true then some (ds.any fun z => eqb z x) else none
  | x, .tup ds => if (flat x && ds.all flat) = true then some (ds.any fun z => eqb z x) else none
  | .str i, .str j => some (!(Builtin.Str.occurrences j i 0 j.length 1).isEmpty)
  | _, _ => none
def inD (x y : D) : Option D := (inB x y).map D.bl
def notInD (x y : D) : Option D := (inB x y).map fun b => D.bl !b
theorem toPyL_map : ∀ ds : List D, toPyL ds = ds.map toPy
  | [] => rfl
  | d :: ds => by simp [toPyL, toPyL_map ds]
theorem any_toPy {x : D} (hx : plain x = true) : ∀ ds : List D, plainL ds = true → ((toPyL ds).any fun z => PyData.eqv z (toPy x)) = ds.any fun z => eqb z x
  | [], _ => rfl
  | d :: ds, h => by
    simp only [plainL, Bool.and_eq_true] at h
    simp only [toPyL, List.any_cons, any_toPy hx ds h.2, eqv_toPy d x h.1 hx]
theorem v_in_aux (g : G) {A : Ad} {B : Addr → Prop} {H : Hp} {x y : V} {a b : D} {k : Bool} (ha : Vw g A B H x a) (hb : Vw g A B H y b) (e : inB a b = some k) :
    (∃ p xs, y = .ref p ∧ (SqL g.K H p xs ∨ SqT g.K H p xs) ∧ flatV x = true ∧ xs.all flatV = true ∧ inV x xs = k) ∨
    (∃ d ds, L2.Dp g.K H x d ∧ L2.Dp g.K H y (.list ds) ∧ SeqAt.shaped d = true ∧ SeqAt.shaped (.list ds) = true ∧ (ds.any fun z => PyData.eqv z d) = k) ∨
    ∃ i j, x = .str i ∧ y = .str j ∧ (!(Builtin.Str.occurrences j i 0 j.length 1).isEmpty) = k := by
  cases b with
  | lst ds =>
    have e : (if (fine a && fine (.lst ds)) = true then some (ds.any fun z => eqb z a) else none) = some k := by cases a <;> exact e
    split at e
    · rename_i hf
      simp only [Bool.and_eq_true, fine_iff] at hf
      cases e
      have pl : plainL ds = true := by simpa [plain] using hf.2.1
      exact .inr (.inl ⟨toPy a, toPyL ds, vw_toPy hf.1.1 ha, vw_toPy hf.2.1 hb, shaped_toPy hf.1.1 hf.1.2, shaped_toPy hf.2.1 hf.2.2, any_toPy hf.1.1 ds pl⟩)
    · cases e
  | tup ds =>
    have e : (if (flat a && ds.all flat) = true then some (ds.any fun z => eqb z a) else none) = some k := by cases a <;> exact e
    split at e
    · rename_i hf
      simp only [Bool.and_eq_true] at hf
      cases e
      obtain ⟨p, vs, rfl, hs, l⟩ := Dp.seq hb
      obtain ⟨q1, q2⟩ := flats_dp hf.1 ha hf.2 l
      exact .inl ⟨p, vs, rfl, .inr hs, flat_dp hf.1 ha, q1, q2⟩
    · cases e
  | str j =>
    cases a with
    | str i =>
      cases ha; cases hb
      cases e
      exact .inr (.inr ⟨i, j, rfl, rfl, rfl⟩)
    | _ => cases e
  | _ => cases a <;> cases e
theorem v_in (g : G) : V2 g (rInA g.K) inD := by
  intro A B H ω x y a b c Q w ha hb e q
  unfold inD at e
  cases k : inB a b with
  | none => rw [k] at e; cases e
  | some k' =>
    rw [k] at e
    cases e
    rcases v_in_aux g ha hb k with ⟨p, xs, h1, h2, h3, h4, h5⟩ | ⟨d, ds, h1, h2, h3, h4, h5⟩ | ⟨i, j, h1, h2, h3⟩
    · exact .inl ⟨p, xs, h1, h2, h3, h4, by rw [if_neg Bool.false_ne_true, h5]; exact q.now w (.bl _)⟩
    · exact .inr (.inl ⟨d, ds, h1, h2, h3, h4, by rw [h5]; exact q.now w (.bl _)⟩)
    · exact .inr (.inr ⟨i, j, h1, h2, by rw [h3]; exact q.now w (.bl _)⟩)
theorem v_notIn (g : G) : V2 g (rNotInA g.K) notInD := by
  intro A B H ω x y a b c Q w ha hb e q
  unfold notInD at e
  cases k : inB a b with
  | none => rw [k] at e; cases e
  | some k' =>
    rw [k] at e
    cases e
    rcases v_in_aux g ha hb k with ⟨p, xs, h1, h2, h3, h4, h5⟩ | ⟨d, ds, h1, h2, h3, h4, h5⟩ | ⟨i, j, h1, h2, h3⟩
    · exact .inl ⟨p, xs, h1, h2, h3, h4, by rw [if_pos rfl, h5]; exact q.now w (.bl _)⟩
    · exact .inr (.inl ⟨d, ds, h1, h2, h3, h4, by rw [h5]; exact q.now w (.bl _)⟩)
    · exact .inr (.inr ⟨i, j, h1, h2, by rw [h3]; exact q.now w (.bl _)⟩)

/-! ### items -/
def ixD : D → D → Option D
  | .lst ds, .int i => atI ds i
  | .tup ds, .int i => atI ds i
  | .scr ns, .int i => (atI ns i).map D.int
  | .str z, .int i => if z.length ≤ sizeLine then (atI z.cps.toList i).map fun c => D.str ⟨#[c]⟩ else none
  | _, _ => none
theorem atI_dp {g : G} {A : Ad} {B : Addr → Prop} {H : Hp} {ds : List D} {vs : List V} {i : Int} {d : D} (l : DpL g A B H vs ds) (e : atI ds i = some d) : ∃ v, atI vs i = some v ∧ Dp g A B H v d := by
  unfold atI at e ⊢
  rw [l.length]
  cases q : ixN ds.length i with
  | none => rw [q] at e; cases e
  | some j =>
    rw [q] at e
    exact l.get e
theorem atI_map {α β : Type} (f : α → β) (xs : List α) (i : Int) : atI (xs.map f) i = (atI xs i).map f := by
  unfold atI
  rw [List.length_map]
  cases ixN xs.length i with
  | none => rfl
  | some j => simp
theorem v_ix (g : G) : V2 g (rIx g.K) ixD := by
  intro A B H ω x y a b c Q w ha hb e q
  cases b with
  | int i =>
    cases hb
    cases a with
    | lst ds =>
      obtain ⟨p, vs, rfl, hp, l⟩ := ha
      obtain ⟨v, h1, h2⟩ := atI_dp l e
      exact .inl ⟨p, vs, i, v, rfl, rfl, SqL.of hp, h1, q.now w h2⟩
    | tup ds =>
      obtain ⟨p, vs, rfl, hp, l⟩ := Dp.seq ha
      obtain ⟨v, h1, h2⟩ := atI_dp l e
      exact .inr (.inl ⟨p, vs, i, v, rfl, rfl, hp, h1, q.now w h2⟩)
    | scr ns =>
      obtain ⟨p, rfl, hp⟩ := ha
      have e : (atI ns i).map D.int = some c := e
      cases k : atI ns i with
      | none => rw [k] at e; cases e
      | some n =>
        rw [k] at e; cases e
        exact .inl ⟨p, _, i, V.int n, rfl, rfl, hp, by rw [atI_map, k]; rfl, q.now w (.int n)⟩
    | str z =>
      cases ha
      simp only [ixD] at e
      split at e
      · cases k : atI z.cps.toList i with
        | none => rw [k] at e; cases e
        | some n =>
          rw [k] at e; cases e
          exact .inr (.inr ⟨z, i, n, rfl, rfl, by assumption, k, q.now w (.str _)⟩)
      · cases e
    | _ => cases e
  | _ => cases a <;> cases e
section
variable {X : Cx} {g : G} {W : WX} {a b : Expr} {fa fb : M D} {pos : Pos}
theorem de_item (hK : X.K = g.K) (ha : PE X a (tM g rW W fa)) (hb : PE X b (tM g rW W fb)) (hs : PlainIx b := by exact fun _ _ => rfl) : PE X (.Subscript a b pos) (tM g rD W (bo ixD fa fb)) :=
  de_ix ix_seq (by rw [hK]; exact v_ix g) ha hb hs
end

/-! ### slices -/
abbrev rO : Rl (Option Int) (Option Int) := fun _ _ _ _ b c => b = c
def asI : D → M (Option Int) := fun d _ ω => match d with
  | .int i => some (.val (some i) ω)
  | _ => none
def cutD (ds : List D) (lo hi : Option Int) : List D := (ds.drop (HT.sIx ds.length 0 lo)).take (HT.sIx ds.length ds.length hi - HT.sIx ds.length 0 lo)
def slD : D → Option Int → Option Int → Option D
  | .lst ds, lo, hi => some (.lst (cutD ds lo hi))
  | .tup ds, lo, hi => some (.tup (cutD ds lo hi))
  | .str z, lo, hi => if z.length ≤ sizeLine then some (.str (cutS z lo hi)) else none
  | _, _, _ => none
def slM (x : D) (lo hi : Option Int) : M D := fun _ ω => match view ω x with
  | some x' => match slD x' lo hi with
    | some z => some (.val z ω)
    | none => none
  | none => none
def rSlAll (K : PySem.W.Frag) : V → Option Int → Option Int → Hp → VK → Prop := fun x lo hi H Q => rSlL K x lo hi H Q ∨ rSlA K x lo hi H Q ∨ rSlS x lo hi H Q
theorem sl_all {X : Cx} : SlR X (rSlAll X.K) := sl_list.or (sl_tupA.or sl_str)
theorem cut_dp {g : G} {A : Ad} {B : Addr → Prop} {H : Hp} {ds : List D} {vs : List V} (l : DpL g A B H vs ds) (lo hi : Option Int) : DpL g A B H (cutV vs lo hi) (cutD ds lo hi) := by
  unfold cutV cutD
  rw [l.length]
  exact (l.drop _).take _
section
variable {X : Cx} {g : G} {W : WX} {e : Expr} {lo hi : Option Expr} {f : M D} {fl fh : M (Option Int)} {pos p2 : Pos}
theorem po_no : PO X none (tM g rO W (M.pure none)) := by
  refine ⟨?_⟩
  intro pins s σ H Q I h
  obtain ⟨H0, A, B, ρ, ω, r, fm, e, res⟩ := h
  cases e
  exact po_none.run pins s σ H Q I (show Q none H from res none A B H (.refl _ _ _) fm.wo rfl)
theorem po_yes {e : Expr} (h : PE X e (tM g rD W f)) : PO X (some e) (tM g rO W (f.bind asI)) := by
  refine ⟨?_⟩
  intro pins s σ H Q I h'
  refine (po_some h).run pins s σ H Q I ?_
  obtain ⟨H0, A, B, ρ, ω, r, fm, e, res⟩ := h'
  refine tM_mono (tM_bind fm e res) fun x H1 ⟨A1, B1, ω1, d1, t1, fm1, r1, e1, res1⟩ => ?_
  cases d1 with
  | int i =>
    cases e1
    cases r1
    exact ⟨i, rfl, res1 _ A1 B1 H1 (.refl _ _ _) fm1.wo rfl⟩
  | _ => cases e1
theorem de_slice (hK : X.K = g.K) (he : PE X e (tM g rW W f)) (hl : PO X lo (tM g rO W fl)) (hh : PO X hi (tM g rO W fh)) :
    PE X (.Subscript e (.Slice lo hi none p2) pos) (tM g rD W (f.bind fun x => fl.bind fun l => fh.bind fun h => slM x l h)) :=
  (pe_slice sl_all he hl hh).dl fun σ H Q ⟨H0, A, B, ρ, ω, r, fm, e, res⟩ => by
    refine tM_mono (tM_bind fm e res) fun x H1 ⟨A1, B1, ω1, d1, t1, fm1, r1, e1, res1⟩ => ?_
    refine tM_mono (tM_bind fm1 e1 res1) fun l H2 ⟨A2, B2, ω2, l2, t2, fm2, r2, e2, res2⟩ => ?_
    refine tM_mono (tM_bind fm2 e2 res2) fun u H3 ⟨A3, B3, ω3, u3, t3, fm3, r3, e3, res3⟩ => ?_
    cases r2
    cases r3
    unfold slM at e3
    cases q : view ω3 d1 with
    | none => simp only [q] at e3; cases e3
    | some x' =>
      simp only [q] at e3
      have vw := view_ok fm3.wo ((r1.up fm1.wo t2).up fm2.wo t3) q
      rw [hK]
      cases x' with
      | lst ds =>
        cases e3
        obtain ⟨p, vs, rfl, hp, ll⟩ := vw
        exact .inl ⟨p, vs, rfl, SqL.of hp, Aft.lst (fun v A' B' H' t w r => res3 v A' B' H' t w r) fm3.wo (cut_dp ll l u)⟩
      | tup ds =>
        cases e3
        obtain ⟨p, vs, rfl, hp, ll⟩ := Dp.seq vw
        refine .inr (.inl ⟨p, vs, rfl, hp, fun hw => ?_, fun _ => Aft.tup (fun v A' B' H' t w r => res3 v A' B' H' t w r) fm3.wo (cut_dp ll l u)⟩)
        have ew : cutD ds l u = ds := by
          unfold cutD
          rw [ll.length] at hw
          rw [hw.1, hw.2]
          simp
        rw [ew] at res3
        exact res3 _ A3 B3 H3 (.refl _ _ _) fm3.wo vw
      | str z =>
        cases vw
        by_cases hz : z.length ≤ sizeLine
        · simp only [slD, if_pos hz] at e3
          cases e3
          exact .inr (.inr ⟨z, rfl, hz, res3 _ A3 B3 H3 (.refl _ _ _) fm3.wo (.str _)⟩)
        · simp only [slD, if_neg hz] at e3
          cases e3
      | _ => cases e3
def revD : D → Option D
  | .lst ds => some (.lst ds.reverse)
  | _ => none
theorem de_rev {k : Nat} {p1 p2 p3 : Pos} (hK : X.K = g.K) (he : PE X e (tM g rW W f)) : PE X (.Subscript e (.Slice none none (some (.UnaryOp .USub (.Constant (.int 1) k p1) p2)) p3) pos) (tM g rD W (uo revD f)) :=
  (pe_revL he).dl fun σ H Q h => by
    rw [hK]
    refine tM_op1 (r := fun x H1 Q => ∃ a xs, x = .ref a ∧ SqL g.K H1 a xs ∧ ∀ p, H1 p = none → Q (.ref p) (upd H1 p (.lst xs.reverse))) ?_ σ H Q h
    intro A B H ω x a c Q w ha e q
    cases a with
    | lst ds =>
      cases e
      obtain ⟨p, vs, rfl, hp, l⟩ := ha
      exact ⟨p, vs, rfl, SqL.of hp, q.lst w l.reverse⟩
    | _ => cases e
end

/-! ### built-in calls of one, two arguments -/
section
variable {X : Cx} {g : G} {W : WX} {e e2 : Expr} {fa fb : M D} {f : D → Option D} {f2 : D → D → Option D} {x : Str} {p pos : Pos} {idn T : String} {r : List V → Hp → VK → Prop}
theorem tM_call1 (hv : V1 g (fun x H Q => r [x] H Q) f) : ∀ σ H Q, tM g rD W (uo f fa) σ H Q → tCB r (tCons (tM g rW W fa) tNil) σ H Q := fun σ H Q h => tM_op1 (r := fun x H Q => r [x] H Q) hv σ H Q h
theorem tM_call2 (hv : V2 g (fun x y H Q => r [x, y] H Q) f2) : ∀ σ H Q, tM g rD W (bo f2 fa fb) σ H Q → tCB r (tCons (tM g rW W fa) (tCons (tM g rW W fb) tNil)) σ H Q := fun σ H Q h => tM_op2 (r := fun x y H Q => r [x, y] H Q) hv σ H Q h
theorem de_callB1 (hc : CallR X (.builtin idn) r) (hv : V1 g (fun x H Q => r [x] H Q) f) (hg : Gl X x) (hm : X.mg x = none) (hb : bootBuiltins x = some (.builtin idn)) (ha : PE X e (tM g rW W fa)) (hn : x ≠ "__name__" := by decide) (hdb : (x == ("__debug__" : Str)) = false := by decide)
    (he : starEach [e] X.env = (false, eval e X.env) :: starEach [] X.env := by rfl) (hpl : (backTo pos (starEach [] X.env)).any (·.1) = false := by rfl) : PE X (.Call (.Name x p) [e] [] pos) (tM g rD W (uo f fa)) :=
  (pe_callB hc hg hm hb (pa_cons ha pa_nil he) hn hdb he hpl).dl (tM_call1 hv)
theorem de_callT1 (hc : CallR X (.type T) r) (hv : V1 g (fun x H Q => r [x] H Q) f) (hg : Gl X x) (hm : X.mg x = none) (hb : bootBuiltins x = some (.type T)) (ha : PE X e (tM g rW W fa)) (hn : x ≠ "__name__" := by decide) (hdb : (x == ("__debug__" : Str)) = false := by decide)
    (he : starEach [e] X.env = (false, eval e X.env) :: starEach [] X.env := by rfl) (hpl : (backTo pos (starEach [] X.env)).any (·.1) = false := by rfl) : PE X (.Call (.Name x p) [e] [] pos) (tM g rD W (uo f fa)) :=
  (pe_callTy hc hg hm hb (pa_cons ha pa_nil he) hn hdb he hpl).dl (tM_call1 hv)
theorem de_callB2 (hc : CallR X (.builtin idn) r) (hv : V2 g (fun x y H Q => r [x, y] H Q) f2) (hg : Gl X x) (hm : X.mg x = none) (hb : bootBuiltins x = some (.builtin idn)) (ha : PE X e (tM g rW W fa)) (ha2 : PE X e2 (tM g rW W fb)) (hn : x ≠ "__name__" := by decide) (hdb : (x == ("__debug__" : Str)) = false := by decide)
    (he : starEach [e, e2] X.env = (false, eval e X.env) :: starEach [e2] X.env := by rfl) (he2 : starEach [e2] X.env = (false, eval e2 X.env) :: starEach [] X.env := by rfl) (hpl : (backTo pos (starEach [e2] X.env)).any (·.1) = false := by rfl) : PE X (.Call (.Name x p) [e, e2] [] pos) (tM g rD W (bo f2 fa fb)) :=
  (pe_callB hc hg hm hb (pa_cons ha (pa_cons ha2 pa_nil he2) he) hn hdb he hpl).dl (tM_call2 hv)

/-! len -/
def lenD : D → Option D
  | .str x => if x.length ≤ sizeLine then some (.int x.length) else none
  | .tup ds => some (.int ds.length)
  | .lst ds => some (.int ds.length)
  | .scr ns => some (.int ns.length)
  | _ => none
theorem v_len (g : G) : V1 g (fun x H Q => ∃ x' n, [x] = [x'] ∧ LenV g.K x' H n ∧ Q (.int n) H) lenD := by
  intro A B H ω x a c Q w ha e q
  cases a with
  | str z =>
    cases ha
    simp only [lenD] at e
    split at e
    · cases e
      exact ⟨_, _, rfl, ⟨by assumption, rfl⟩, q.now w (.int _)⟩
    · cases e
  | tup ds =>
    cases e
    obtain ⟨p, vs, rfl, hp, l⟩ := Dp.seq ha
    exact ⟨_, _, rfl, .inr ⟨vs, hp, rfl⟩, by rw [l.length]; exact q.now w (.int _)⟩
  | lst ds =>
    cases e
    obtain ⟨p, vs, rfl, hp, l⟩ := ha
    exact ⟨_, _, rfl, .inl ⟨vs, SqL.of hp, rfl⟩, by rw [l.length]; exact q.now w (.int _)⟩
  | scr ns =>
    cases e
    obtain ⟨p, rfl, hp⟩ := ha
    exact ⟨_, _, rfl, .inl ⟨_, hp, rfl⟩, by rw [List.length_map]; exact q.now w (.int _)⟩
  | _ => cases e
theorem de_len (hK : X.K = g.K) (hg : Gl X "len") (hm : X.mg "len" = none) (ha : PE X e (tM g rW W fa)) (he : starEach [e] X.env = (false, eval e X.env) :: starEach [] X.env := by rfl) : PE X (.Call (.Name "len" p) [e] [] pos) (tM g rD W (uo lenD fa)) :=
  de_callB1 call_len (by rw [hK]; exact v_len g) hg hm PySem.boot_len ha (he := he)
/-! abs, int -/
def absD : D → Option D
  | .int i => some (.int (if i < 0 then -i else i))
  | _ => none
theorem v_abs : V1 g (fun x H Q => ∃ i, [x] = [.int i] ∧ Q (.int (if i < 0 then -i else i)) H) absD := by
  intro A B H ω x a c Q w ha e q
  cases a with
  | int i => cases ha; cases e; exact ⟨i, rfl, q.now w (.int _)⟩
  | _ => cases e
theorem de_abs (hg : Gl X "abs") (hm : X.mg "abs" = none) (ha : PE X e (tM g rW W fa)) (he : starEach [e] X.env = (false, eval e X.env) :: starEach [] X.env := by rfl) : PE X (.Call (.Name "abs" p) [e] [] pos) (tM g rD W (uo absD fa)) :=
  de_callB1 call_abs v_abs hg hm (by decide +kernel) ha (he := he)
def intD : D → Option D
  | .int i => some (.int i)
  | .bl b => some (.int (if b then 1 else 0))
  | _ => none
theorem v_int : V1 g (fun x H Q => (∃ i, [x] = [.int i] ∧ Q (.int i) H) ∨ ∃ k, [x] = [.bl k] ∧ Q (.int (if k then 1 else 0)) H) intD := by
  intro A B H ω x a c Q w ha e q
  cases a with
  | int i => cases ha; cases e; exact .inl ⟨i, rfl, q.now w (.int _)⟩
  | bl i => cases ha; cases e; exact .inr ⟨i, rfl, q.now w (.int _)⟩
  | _ => cases e
theorem de_toInt (hg : Gl X "int") (hm : X.mg "int" = none) (ha : PE X e (tM g rW W fa)) (he : starEach [e] X.env = (false, eval e X.env) :: starEach [] X.env := by rfl) : PE X (.Call (.Name "int" p) [e] [] pos) (tM g rD W (uo intD fa)) :=
  de_callT1 call_int1 v_int hg hm (by decide +kernel) ha (he := he)
/-! tuple(..), list(..) -/
def tupleD : D → Option D
  | .lst ds => some (.tup ds)
  | .tup ds => some (.tup ds)
  | _ => none
theorem v_tuple (g : G) : V1 g (fun x H Q => ∃ p ys, [x] = [.ref p] ∧ ((SqL g.K H p ys ∧ ∀ l, H l = none → Q (.ref l) (upd H l (.tup ys))) ∨ (SqT g.K H p ys ∧ Q (.ref p) H))) tupleD := by
  intro A B H ω x a c Q w ha e q
  cases a with
  | lst ds =>
    cases e
    obtain ⟨p, vs, rfl, hp, l⟩ := ha
    exact ⟨p, vs, rfl, .inl ⟨SqL.of hp, q.tup w l⟩⟩
  | tup ds =>
    cases e
    obtain ⟨p, vs, rfl, hp, l⟩ := Dp.seq ha
    exact ⟨p, vs, rfl, .inr ⟨hp, q.now w ha⟩⟩
  | _ => cases e
theorem de_tuple (hK : X.K = g.K) (hg : Gl X "tuple") (hm : X.mg "tuple" = none) (ha : PE X e (tM g rW W fa)) (he : starEach [e] X.env = (false, eval e X.env) :: starEach [] X.env := by rfl) : PE X (.Call (.Name "tuple" p) [e] [] pos) (tM g rD W (uo tupleD fa)) :=
  de_callT1 call_tuple_of (by rw [hK]; exact v_tuple g) hg hm (by decide +kernel) ha (he := he)
def listD : D → Option D
  | .lst ds => some (.lst ds)
  | .tup ds => some (.lst ds)
  | .scr ns => some (.lst (ns.map D.int))
  | _ => none
theorem DpL.ints {A : Ad} {B : Addr → Prop} {H : Hp} : ∀ ns : List Int, DpL g A B H (ns.map V.int) (ns.map D.int)
  | [] => .nil
  | n :: ns => .cons (.int n) (DpL.ints ns)
theorem v_list (g : G) : V1 g (fun x H Q => ∃ p ys, [x] = [.ref p] ∧ (SqL g.K H p ys ∨ SqT g.K H p ys) ∧ ∀ l, H l = none → Q (.ref l) (upd H l (.lst ys))) listD := by
  intro A B H ω x a c Q w ha e q
  cases a with
  | lst ds =>
    cases e
    obtain ⟨p, vs, rfl, hp, l⟩ := ha
    exact ⟨p, vs, rfl, .inl (SqL.of hp), q.lst w l⟩
  | tup ds =>
    cases e
    obtain ⟨p, vs, rfl, hp, l⟩ := Dp.seq ha
    exact ⟨p, vs, rfl, .inr hp, q.lst w l⟩
  | scr ns =>
    cases e
    obtain ⟨p, rfl, hp⟩ := ha
    exact ⟨p, _, rfl, .inl hp, q.lst w (DpL.ints ns)⟩
  | _ => cases e
theorem de_list (hK : X.K = g.K) (hg : Gl X "list") (hm : X.mg "list" = none) (ha : PE X e (tM g rW W fa)) (he : starEach [e] X.env = (false, eval e X.env) :: starEach [] X.env := by rfl) : PE X (.Call (.Name "list" p) [e] [] pos) (tM g rD W (uo listD fa)) :=
  de_callT1 call_list_of (by rw [hK]; exact v_list g) hg hm (by decide +kernel) ha (he := he)
/-! any, all -/
def boolsOf : List D → Option (List Bool)
  | [] => some []
  | .bl b :: r => (boolsOf r).map (b :: ·)
  | _ :: _ => none
theorem boolsOf_dp {A : Ad} {B : Addr → Prop} {H : Hp} : ∀ {ds : List D} {vs : List V} {bs : List Bool}, boolsOf ds = some bs → DpL g A B H vs ds → vs = bs.map V.bl
  | [], _, _, e, l => by cases e; cases l; rfl
  | d :: ds, _, bs, e, l => by
    cases l with
    | cons h1 h2 =>
      cases d with
      | bl b =>
        simp only [boolsOf] at e
        cases q : boolsOf ds with
        | none => rw [q] at e; cases e
        | some cs =>
          rw [q] at e
          cases e
          cases h1
          simp [boolsOf_dp q h2]
      | _ => simp [boolsOf] at e
theorem boolsOf_map (bs : List Bool) : boolsOf (bs.map D.bl) = some bs := by
  induction bs with
  | nil => rfl
  | cons b bs ih => simp [boolsOf, ih]
def anyD : D → Option D
  | .lst ds => (boolsOf ds).map fun bs => .bl (bs.any id)
  | _ => none
def allD : D → Option D
  | .lst ds => (boolsOf ds).map fun bs => .bl (bs.all id)
  | _ => none
theorem v_any (g : G) : V1 g (fun x H Q => rAny g.K [x] H Q) anyD := by
  intro A B H ω x a c Q w ha e q
  cases a with
  | lst ds =>
    obtain ⟨p, vs, rfl, hp, l⟩ := ha
    simp only [anyD] at e
    cases k : boolsOf ds with
    | none => rw [k] at e; cases e
    | some bs =>
      rw [k] at e
      cases e
      have := boolsOf_dp k l
      subst this
      exact ⟨p, bs, rfl, SqL.of hp, q.now w (.bl _)⟩
  | _ => cases e
theorem v_all (g : G) : V1 g (fun x H Q => rAll g.K [x] H Q) allD := by
  intro A B H ω x a c Q w ha e q
  cases a with
  | lst ds =>
    obtain ⟨p, vs, rfl, hp, l⟩ := ha
    simp only [allD] at e
    cases k : boolsOf ds with
    | none => rw [k] at e; cases e
    | some bs =>
      rw [k] at e
      cases e
      have := boolsOf_dp k l
      subst this
      exact ⟨p, bs, rfl, SqL.of hp, q.now w (.bl _)⟩
  | _ => cases e
theorem de_any (hK : X.K = g.K) (hc : X.calm = true) (hg : Gl X "any") (hm : X.mg "any" = none) (ha : PE X e (tM g rW W fa)) (he : starEach [e] X.env = (false, eval e X.env) :: starEach [] X.env := by rfl) : PE X (.Call (.Name "any" p) [e] [] pos) (tM g rD W (uo anyD fa)) :=
  de_callB1 (cr_any hc) (by rw [hK]; exact v_any g) hg hm (by decide +kernel) ha (he := he)
theorem de_all (hK : X.K = g.K) (hc : X.calm = true) (hg : Gl X "all") (hm : X.mg "all" = none) (ha : PE X e (tM g rW W fa)) (he : starEach [e] X.env = (false, eval e X.env) :: starEach [] X.env := by rfl) : PE X (.Call (.Name "all" p) [e] [] pos) (tM g rD W (uo allD fa)) :=
  de_callB1 (cr_all hc) (by rw [hK]; exact v_all g) hg hm (by decide +kernel) ha (he := he)
end
end DL
/-! DL4: statements as functions. -/
namespace DL
open PySem L2

inductive RS where
  | nx (ρ : Rho) (ω : List Cell)
  | rt (d : D) (ω : List Cell)
  | bk (ρ : Rho) (ω : List Cell)
  | ct (ρ : Rho) (ω : List Cell)
  | exc (x : Exc) (ρ : Rho) (ω : List Cell)
abbrev MS := Rho → List Cell → Option RS
def bindS {α : Type} (f : M α) (k : α → MS) : MS := fun ρ ω =>
  match f ρ ω with
  | none => none
  | some (.exc x ω') => some (.exc x ρ ω')
  | some (.val a ω') => k a ρ ω'
def seqS (F K : MS) : MS := fun ρ ω =>
  match F ρ ω with
  | some (.nx ρ' ω') => K ρ' ω'
  | r => r

section
variable {A A1 A2 : Ad} {B B1 B2 : Addr → Prop} {H H1 H2 : Hp}
theorem Mv.refl (A : Ad) (B : Addr → Prop) (H : Hp) : Mv A B H A B H := ⟨fun _ _ n e => ⟨e, n⟩, fun _ _ h => .inl h, fun _ _ _ h => h⟩
theorem Mv.trans (s : Mv A B H A1 B1 H1) (t : Mv A1 B1 H1 A2 B2 H2) : Mv A B H A2 B2 H2 :=
  ⟨fun a o n e => t.cell a o (s.cell a o n e).2 (s.cell a o n e).1, fun k x h => by
    rcases s.ids k x h with e | e
    · exact t.ids k x e
    · rcases t.ids k none e with e | e
      · exact .inr e
      · exact .inr e, fun a o u h => t.frz a o u (s.frz a o u h)⟩
end

/-- the entry of a frame -/
structure En where
  A : Ad
  B : Addr → Prop
  H : Hp
def ResS (g : G) (n : En) (W : WX) (A : Ad) (B : Addr → Prop) (H : Hp) (D : Ends) : RS → Prop
  | .nx ρ' ω' => ∀ σ' A' B' H', Mv A B H A' B' H' → Stp n.A n.B n.H A' B' H' → Fm g n.H A' B' H' ω' σ' ρ' → D.nx σ' H'
  | .rt d ω' => ∀ v A' B' H', Stp n.A n.B n.H A' B' H' → Wo g A' B' H' ω' → Dp g A' B' H' v d → D.rt v H'
  | .bk ρ' ω' => ∀ σ' A' B' H', Mv A B H A' B' H' → Stp n.A n.B n.H A' B' H' → Fm g n.H A' B' H' ω' σ' ρ' → D.bk σ' H'
  | .ct ρ' ω' => ∀ σ' A' B' H', Mv A B H A' B' H' → Stp n.A n.B n.H A' B' H' → Fm g n.H A' B' H' ω' σ' ρ' → D.ct σ' H'
  | .exc x ρ' ω' => ∀ cls dd σ' A' B' H', Mv A B H A' B' H' → Stp n.A n.B n.H A' B' H' → Fm g n.H A' B' H' ω' σ' ρ' → XOk g A' B' H' cls dd x → W cls dd σ' H'
def tS (g : G) (n : En) (W : WX) (F : MS) : TS := fun D σ H =>
  ∃ A B ρ ω r, Stp n.A n.B n.H A B H ∧ Fm g n.H A B H ω σ ρ ∧ F ρ ω = some r ∧ ResS g n W A B H D r

section
variable {α β : Type} {g : G} {n : En} {W : WX} {A A' A1 : Ad} {B B' B1 : Addr → Prop} {H H' H1 : Hp} {ω ω' : List Cell} {σ : St} {ρ : Rho} {D : Ends} {r : RS}
theorem ResS.mv (h : ResS g n W A B H D r) (m : Mv A B H A1 B1 H1) : ResS g n W A1 B1 H1 D r := by
  cases r with
  | nx ρ' ω' => exact fun σ' A' B' H' t => h σ' A' B' H' (m.trans t)
  | rt d ω' => exact h
  | bk ρ' ω' => exact fun σ' A' B' H' t => h σ' A' B' H' (m.trans t)
  | ct ρ' ω' => exact fun σ' A' B' H' t => h σ' A' B' H' (m.trans t)
  | exc x ρ' ω' => exact fun cls dd σ' A' B' H' t => h cls dd σ' A' B' H' (m.trans t)
theorem tS_bind {rel : Rl β α} {f : M α} {k : α → MS} (st : Stp n.A n.B n.H A B H) (fm : Fm g n.H A B H ω σ ρ) (e : bindS f k ρ ω = some r) (res : ResS g n W A B H D r) :
    tM g rel W f σ H (fun v H1 => ∃ A1 B1 ω1 a, Stp A B H A1 B1 H1 ∧ Mv A B H A1 B1 H1 ∧ Stp n.A n.B n.H A1 B1 H1 ∧ Fm g n.H A1 B1 H1 ω1 σ ρ ∧ rel g A1 B1 H1 v a ∧ k a ρ ω1 = some r ∧ ResS g n W A1 B1 H1 D r) := by
  unfold bindS at e
  cases q : f ρ ω with
  | none => rw [q] at e; cases e
  | some z =>
    rw [q] at e
    cases z with
    | exc x ω' =>
      have e' : some (RS.exc x ρ ω') = some r := e
      cases e'
      exact ⟨n.H, A, B, ρ, ω, _, fm, q, fun cls dd A' B' H' t w x => res cls dd σ A' B' H' (fm.wo.mv t) (st.trans t) (fm.up t w) x⟩
    | val a ω' =>
      have e' : k a ρ ω' = some r := e
      exact ⟨n.H, A, B, ρ, ω, _, fm, q, fun v A1 B1 H1 t w rl => ⟨A1, B1, ω', a, t, fm.wo.mv t, st.trans t, fm.up t w, rl, e', res.mv (fm.wo.mv t)⟩⟩
/-- the end of a statement that goes on -/
theorem ResS.next {ρ' : Rho} {σ' : St} (res : ResS g n W A B H D (.nx ρ' ω')) (m : Mv A B H A' B' H') (st : Stp n.A n.B n.H A' B' H') (fm : Fm g n.H A' B' H' ω' σ' ρ') : D.nx σ' H' := res σ' A' B' H' m st fm
end

/-! ### blocks -/
section
variable {X : Cx} {g : G} {n : En} {W : WX} {st : Stmt} {rest : List Stmt} {F K : MS} {pos : Pos}
theorem dss_nil : PSs X [] (tS g n W fun ρ ω => some (.nx ρ ω)) := pss_nil.dl fun D σ H ⟨A, B, ρ, ω, r, s, fm, e, res⟩ => by
  cases e
  exact res.next (.refl _ _ _) s fm
theorem dss_cons (h1 : PS X st (tS g n W F)) (h2 : PSs X rest (tS g n W K)) : PSs X (st :: rest) (tS g n W (seqS F K)) := (pss_cons h1 h2).dl fun D σ H ⟨A, B, ρ, ω, r, s, fm, e, res⟩ => by
  unfold seqS at e
  cases q : F ρ ω with
  | none => rw [q] at e; cases e
  | some z =>
    rw [q] at e
    refine ⟨A, B, ρ, ω, z, s, fm, q, ?_⟩
    cases z with
    | nx ρ' ω' => exact fun σ' A' B' H' m s' fm' => ⟨A', B', ρ', ω', r, s', fm', e, res.mv m⟩
    | rt d ω' => cases e; exact res
    | bk ρ' ω' => cases e; exact res
    | ct ρ' ω' => cases e; exact res
    | exc x ρ' ω' => cases e; exact res
theorem dss_one (h1 : PS X st (tS g n W F)) : PSs X [st] (tS g n W F) := pss_one h1
theorem ds_pass : PS X (.Pass pos) (tS g n W fun ρ ω => some (.nx ρ ω)) := ps_pass.dl fun D σ H ⟨A, B, ρ, ω, r, s, fm, e, res⟩ => by
  cases e
  exact res.next (.refl _ _ _) s fm
theorem ds_break : PS X (.Break pos) (tS g n W fun ρ ω => some (.bk ρ ω)) := ps_break.dl fun D σ H ⟨A, B, ρ, ω, r, s, fm, e, res⟩ => by
  cases e
  exact res σ A B H (.refl _ _ _) s fm
theorem ds_continue : PS X (.Continue pos) (tS g n W fun ρ ω => some (.ct ρ ω)) := ps_continue.dl fun D σ H ⟨A, B, ρ, ω, r, s, fm, e, res⟩ => by
  cases e
  exact res σ A B H (.refl _ _ _) s fm
end

/-! ### names stored -/
section
variable {g : G} {A : Ad} {B : Addr → Prop} {H H0 : Hp} {ω : List Cell} {σ : St} {ρ : Rho}
theorem getElem?_set_cases {α : Type} {l : List α} {i j : Nat} {a b : α} (h : (l.set i a)[j]? = some b) : (i = j ∧ j < l.length ∧ a = b) ∨ (i ≠ j ∧ l[j]? = some b) := by
  by_cases e : i = j
  · subst e
    by_cases hi : i < l.length
    · rw [List.getElem?_set_self hi] at h
      exact .inl ⟨rfl, hi, Option.some.inj h⟩
    · rw [List.getElem?_eq_none (by simpa using hi)] at h; cases h
  · rw [List.getElem?_set_ne e] at h
    exact .inr ⟨e, h⟩
theorem Slots.setF {i : Nat} {v : V} {d : D} (h : Slots g H0 A B H σ ρ) (hd : Dp g A B H v d) : Slots g H0 A B H (σ.set i (some v)) (ρ.set i (.fz d)) := by
  refine ⟨by simp [h.len], fun j s e => ?_, fun a b ds es p ea eb sa sb => ?_⟩
  · rcases getElem?_set_cases e with ⟨rfl, hi, rfl⟩ | ⟨ne, e⟩
    · exact ⟨v, by rw [List.getElem?_set_self (by rw [← h.len]; exact hi)], hd⟩
    · rw [List.getElem?_set_ne ne]
      exact h.val j s e
  · rcases getElem?_set_cases ea with ⟨_, _, z⟩ | ⟨na, ea⟩
    · cases z
    · rcases getElem?_set_cases eb with ⟨_, _, z⟩ | ⟨nb, eb⟩
      · cases z
      · rw [List.getElem?_set_ne na] at sa
        rw [List.getElem?_set_ne nb] at sb
        exact h.own a b ds es p ea eb sa sb
theorem Fm.setF {i : Nat} {v : V} {d : D} (h : Fm g H0 A B H ω σ ρ) (hd : Dp g A B H v d) : Fm g H0 A B H ω (σ.set i (some v)) (ρ.set i (.fz d)) := ⟨h.wo, h.sl.setF hd⟩
/-- a slot is forgotten -/
theorem Slots.drop {i : Nat} {x : Option V} (h : Slots g H0 A B H σ ρ) : Slots g H0 A B H (σ.set i x) (ρ.set i .no) := by
  refine ⟨by simp [h.len], fun j s e => ?_, fun a b ds es p ea eb sa sb => ?_⟩
  · rcases getElem?_set_cases e with ⟨rfl, hi, rfl⟩ | ⟨ne, e⟩
    · trivial
    · rw [List.getElem?_set_ne ne]
      exact h.val j s e
  · rcases getElem?_set_cases ea with ⟨_, _, z⟩ | ⟨na, ea⟩
    · cases z
    · rcases getElem?_set_cases eb with ⟨_, _, z⟩ | ⟨nb, eb⟩
      · cases z
      · rw [List.getElem?_set_ne na] at sa
        rw [List.getElem?_set_ne nb] at sb
        exact h.own a b ds es p ea eb sa sb
/-- a list of the frame's own is written -/
theorem Fm.write {i : Nat} {p : Addr} {vs vs' : List V} {ds ds' : List D} (h : Fm g H0 A B H ω σ ρ) (hi : ρ[i]? = some (.ow ds)) (hs : σ[i]? = some (some (.ref p))) (hp : H p = some (.lst vs)) (hb : B p) (nl : ¬ Liv A p) (h0 : H0 p = none) (l : DpL g A B H vs' ds') :
    Fm g H0 A B (upd H p (.lst vs')) ω σ (ρ.set i (.ow ds')) ∧ Mv A B H A B (upd H p (.lst vs')) := by
  have m : Mv A B H A B (upd H p (.lst vs')) := ⟨fun a o na e => ⟨by rw [upd_ne (fun z => na (by rw [z]; exact hb))]; exact e, na⟩, fun _ _ h => .inl h, frz_upd (fun o u e => by rw [hp] at e; cases e)⟩
  refine ⟨⟨⟨h.wo.len, h.wo.inj, h.wo.liv, fun a ha => ?_, fun k c e => ?_⟩, ⟨by simp [h.sl.len], fun j s e => ?_, fun a b xs ys q ea eb sa sb => ?_⟩⟩, m⟩
  · by_cases z : a = p
    · exact ⟨_, by rw [z]; exact upd_same⟩
    · obtain ⟨o, e⟩ := h.wo.bnd a ha
      exact ⟨o, by rw [upd_ne z]; exact e⟩
  · rcases h.wo.cell k c e with z | ⟨a, h1, h2⟩
    · exact .inl z
    · exact .inr ⟨a, h1, h2.mv m fun o q => by rw [upd_ne (fun z => nl (by rw [← z]; exact Liv.of h1))]; exact q⟩
  · rcases getElem?_set_cases e with ⟨rfl, hl, rfl⟩ | ⟨ne, e⟩
    · exact ⟨p, vs', hs, upd_same, DpL.mv m _ _ l, hb, nl, h0⟩
    · have := h.sl.val j s e
      cases s with
      | no => trivial
      | ex p y => exact ⟨this.1, this.2.mv m⟩
      | fz d =>
        obtain ⟨v, e1, e2⟩ := this
        exact ⟨v, e1, Dp.mv m _ _ e2⟩
      | ow es =>
        obtain ⟨q, ws, e1, e2, e3, e4, e5, e6⟩ := this
        have npq : q ≠ p := fun z => ne (h.sl.own i j _ _ p hi e hs (z ▸ e1))
        exact ⟨q, ws, e1, by rw [upd_ne npq]; exact e2, DpL.mv m _ _ e3, e4, e5, e6⟩
  · have fix : ∀ (c : Nat) (zs : List D), (ρ.set i (.ow ds'))[c]? = some (.ow zs) → ∃ ws, ρ[c]? = some (.ow ws) := fun c zs ec => by
      rcases getElem?_set_cases ec with ⟨rfl, _, _⟩ | ⟨_, ec⟩
      · exact ⟨_, hi⟩
      · exact ⟨_, ec⟩
    obtain ⟨u, eu⟩ := fix a xs ea
    obtain ⟨v, ev⟩ := fix b ys eb
    exact h.sl.own a b u v q eu ev sa sb
/-- a new list becomes a slot's own -/
theorem Fm.setO {i : Nat} {p : Addr} {vs : List V} {ds : List D} {A0 : Ad} {B0 : Addr → Prop} (h : Fm g H0 A B H ω σ ρ) (st : Stp A0 B0 H0 A B H) (hp : H p = none) (l : DpL g A B H vs ds) :
    Fm g H0 A (fun a => B a ∨ a = p) (upd H p (.lst vs)) ω (σ.set i (some (.ref p))) (ρ.set i (.ow ds)) ∧ Mv A B H A (fun a => B a ∨ a = p) (upd H p (.lst vs)) ∧ Stp A0 B0 H0 A (fun a => B a ∨ a = p) (upd H p (.lst vs)) := by
  have h0 : H0 p = none := by
    cases q : H0 p with
    | none => rfl
    | some o =>
      obtain ⟨u, e⟩ := st.trk p o q
      rw [hp] at e; cases e
  have m : Mv A B H A (fun a => B a ∨ a = p) (upd H p (.lst vs)) := ⟨fun a o na e => ⟨by rw [upd_ne (ne_of_none e hp)]; exact e, fun z => z.elim na (ne_of_none e hp)⟩, fun _ _ h => .inl h, frz_upd (frz_none hp)⟩
  have nlp : ¬ Liv A p := fun z => by
    obtain ⟨o, e⟩ := h.wo.bnd p (h.wo.liv p z)
    rw [hp] at e; cases e
  refine ⟨⟨⟨h.wo.len, h.wo.inj, fun a z => .inl (h.wo.liv a z), fun a ha => ?_, fun k c e => ?_⟩, ⟨by simp [h.sl.len], fun j s e => ?_, fun a b xs ys q ea eb sa sb => ?_⟩⟩, m, ⟨fun a o e na => ?_, fun a o e na => ?_, st.new, st.ids, fun a o e => ?_, fun a o u e => frz_upd (frz_none hp) a o u (st.frz a o u e)⟩⟩
  · rcases ha with ha | rfl
    · obtain ⟨o, e⟩ := h.wo.bnd a ha
      exact ⟨o, by rw [upd_ne (ne_of_none e hp)]; exact e⟩
    · exact ⟨_, upd_same⟩
  · rcases h.wo.cell k c e with z | ⟨a, h1, h2⟩
    · exact .inl z
    · exact .inr ⟨a, h1, h2.mv m fun o q => by rw [upd_ne (ne_of_none q hp)]; exact q⟩
  · rcases getElem?_set_cases e with ⟨rfl, hl, rfl⟩ | ⟨ne, e⟩
    · exact ⟨p, vs, by rw [List.getElem?_set_self (by rw [← h.sl.len]; exact hl)], upd_same, DpL.mv m _ _ l, .inr rfl, nlp, h0⟩
    · rw [List.getElem?_set_ne ne]
      have := h.sl.val j s e
      cases s with
      | no => trivial
      | ex p y => exact ⟨this.1, this.2.mv m⟩
      | fz d =>
        obtain ⟨v, e1, e2⟩ := this
        exact ⟨v, e1, Dp.mv m _ _ e2⟩
      | ow es =>
        obtain ⟨q, ws, e1, e2, e3, e4, e5, e6⟩ := this
        exact ⟨q, ws, e1, by rw [upd_ne (ne_of_none e2 hp)]; exact e2, DpL.mv m _ _ e3, .inl e4, e5, e6⟩
  · have other : ∀ (c : Nat) (zs : List D), i ≠ c → ρ[c]? = some (.ow zs) → σ[c]? ≠ some (some (.ref p)) := fun c zs nc ec z => by
      obtain ⟨q, ws, e1, e2, _⟩ := h.sl.val c _ ec
      rw [z] at e1
      cases e1
      rw [hp] at e2; cases e2
    have self : ∀ (c : Nat), i = c → c < ρ.length → (σ.set i (some (.ref p)))[c]? = some (some (.ref p)) := fun c e hc => by
      subst e
      rw [List.getElem?_set_self (by rw [← h.sl.len]; exact hc)]
    rcases getElem?_set_cases ea with ⟨na, la, _⟩ | ⟨na, ea⟩
    · rcases getElem?_set_cases eb with ⟨nb, _, _⟩ | ⟨nb, eb⟩
      · exact na.symm.trans nb
      · rw [List.getElem?_set_ne nb] at sb
        rw [self a na la] at sa
        cases sa
        exact (other b _ nb eb sb).elim
    · rcases getElem?_set_cases eb with ⟨nb, lb, _⟩ | ⟨nb, eb⟩
      · rw [List.getElem?_set_ne na] at sa
        rw [self b nb lb] at sb
        cases sb
        exact (other a _ na ea sa).elim
      · rw [List.getElem?_set_ne na] at sa
        rw [List.getElem?_set_ne nb] at sb
        exact h.sl.own a b _ _ q ea eb sa sb
  · have := st.keep a o e na
    rw [upd_ne (ne_of_none this hp)]
    exact this
  · rw [← st.old a o e na]
    have := st.keep a o e na
    exact ⟨fun z => z.elim id fun z => (ne_of_none this hp z).elim, .inl⟩
  · obtain ⟨u, e'⟩ := st.trk a o e
    exact ⟨u, by rw [upd_ne (ne_of_none e' hp)]; exact e'⟩
/-- a slot's own list is given out: it will not change any more -/
theorem Fm.freeze {i : Nat} {p : Addr} {ds : List D} {A0 : Ad} {B0 : Addr → Prop} (h : Fm g H0 A B H ω σ ρ) (st : Stp A0 B0 H0 A B H) (hi : ρ[i]? = some (.ow ds)) (hs : σ[i]? = some (some (.ref p))) :
    Fm g H0 A (fun a => B a ∧ a ≠ p) H ω σ (ρ.set i (.fz (.lst ds))) ∧ Mv A B H A (fun a => B a ∧ a ≠ p) H ∧ Stp A0 B0 H0 A (fun a => B a ∧ a ≠ p) H := by
  obtain ⟨p', vs, e1, hp, l, hb, nl, h0⟩ := h.sl.val i _ hi
  rw [hs] at e1
  cases e1
  have m : Mv A B H A (fun a => B a ∧ a ≠ p) H := ⟨fun a o na e => ⟨e, fun z => na z.1⟩, fun _ _ h => .inl h, fun _ _ _ h => h⟩
  refine ⟨⟨⟨h.wo.len, h.wo.inj, fun a z => ⟨h.wo.liv a z, fun e => nl (e ▸ z)⟩, fun a ha => h.wo.bnd a ha.1, fun k c e => ?_⟩, ⟨by simp [h.sl.len], fun j s e => ?_, fun a b xs ys q ea eb sa sb => ?_⟩⟩, m, ⟨st.keep, fun a o e na => ?_, st.new, st.ids, st.trk, st.frz⟩⟩
  · rcases h.wo.cell k c e with z | ⟨a, h1, h2⟩
    · exact .inl z
    · exact .inr ⟨a, h1, h2.mv m fun _ q => q⟩
  · rcases getElem?_set_cases e with ⟨rfl, hl, rfl⟩ | ⟨ne, e⟩
    · exact ⟨.ref p, hs, .lst (fun z => z.2 rfl) hp (DpL.mv m _ _ l)⟩
    · have := h.sl.val j s e
      cases s with
      | no => trivial
      | ex p y => exact ⟨this.1, this.2.mv m⟩
      | fz d =>
        obtain ⟨v, e1, e2⟩ := this
        exact ⟨v, e1, Dp.mv m _ _ e2⟩
      | ow es =>
        obtain ⟨q, ws, e1, e2, e3, e4, e5, e6⟩ := this
        have npq : q ≠ p := fun z => ne (h.sl.own i j _ _ p hi e hs (z ▸ e1))
        exact ⟨q, ws, e1, e2, DpL.mv m _ _ e3, ⟨e4, npq⟩, e5, e6⟩
  · rcases getElem?_set_cases ea with ⟨_, _, z⟩ | ⟨na, ea⟩
    · cases z
    · rcases getElem?_set_cases eb with ⟨_, _, z⟩ | ⟨nb, eb⟩
      · cases z
      · exact h.sl.own a b _ _ q ea eb sa sb
  · rw [← st.old a o e na]
    refine ⟨fun z => z.1, fun z => ⟨z, fun e' => ?_⟩⟩
    rw [e', h0] at e
    cases e
end

end DL
/-! DL5: statement rules. -/
namespace DL
open PySem L2

/-! ### a new list -/
def ResN (g : G) (W : WX) (σ : St) (A : Ad) (B : Addr → Prop) (H : Hp) (Q : VK) : R (List D) → Prop
  | .val ds ω' => ∀ p vs A' B' H', Stp A B H A' B' H' → Wo g A' B' H' ω' → H' p = some (.lst vs) → DpL g A' B' H' vs ds → B' p → ¬ Liv A' p → H p = none → Q (.ref p) H'
  | .exc x ω' => ∀ cls dd A' B' H', Stp A B H A' B' H' → Wo g A' B' H' ω' → XOk g A' B' H' cls dd x → W cls dd σ H'
def tN (g : G) (W : WX) (f : M (List D)) : TE := fun σ H Q => ∃ H0 A B ρ ω r, Fm g H0 A B H ω σ ρ ∧ f ρ ω = some r ∧ ResN g W σ A B H Q r
section
variable {g : G} {A A' : Ad} {B B' : Addr → Prop} {H H' H0 : Hp} {ω ω' : List Cell} {σ : St} {ρ : Rho} {W : WX}
/-- p leaves B -/
theorem Stp.minus {p : Addr} (s : Stp A B H A' B' H') (hp : H p = none) : Stp A B H A' (fun a => B' a ∧ a ≠ p) H' :=
  ⟨s.keep, fun a o e n => by
    rw [← s.old a o e n]
    exact ⟨fun z => z.1, fun z => ⟨z, ne_of_none e hp⟩⟩, s.new, s.ids, s.trk, s.frz⟩
theorem Stp.plus {p : Addr} (s : Stp A B H A' B' H') (hp : H p = none) : Stp A B H A' (fun a => B' a ∨ a = p) H' :=
  ⟨s.keep, fun a o e n => by
    rw [← s.old a o e n]
    exact ⟨fun z => z.elim id fun z => (ne_of_none e hp z).elim, .inl⟩, s.new, s.ids, s.trk, s.frz⟩
theorem Mv.minus (p : Addr) : Mv A B H A (fun a => B a ∧ a ≠ p) H := ⟨fun a o na e => ⟨e, fun z => na z.1⟩, fun _ _ h => .inl h, fun _ _ _ h => h⟩
theorem Wo.minus {p : Addr} (w : Wo g A B H ω) (nl : ¬ Liv A p) : Wo g A (fun a => B a ∧ a ≠ p) H ω :=
  ⟨w.len, w.inj, fun a z => ⟨w.liv a z, fun e => nl (by rw [← e]; exact z)⟩, fun a ha => w.bnd a ha.1, fun k c e => by
    rcases w.cell k c e with z | ⟨a, h1, h2⟩
    · exact .inl z
    · exact .inr ⟨a, h1, h2.mv (Mv.minus p) fun _ q => q⟩⟩
/-- a new tracked thing at p that data don't know -/
theorem Mv.plus {p : Addr} {o : HO} (hp : H p = none) : Mv A B H A (fun a => B a ∨ a = p) (upd H p o) :=
  ⟨fun a u na e => ⟨by rw [upd_ne (ne_of_none e hp)]; exact e, fun z => z.elim na (ne_of_none e hp)⟩, fun _ _ h => .inl h, frz_upd (frz_none hp)⟩
theorem Wo.plus {p : Addr} {o : HO} (w : Wo g A B H ω) (hp : H p = none) : Wo g A (fun a => B a ∨ a = p) (upd H p o) ω :=
  ⟨w.len, w.inj, fun a z => .inl (w.liv a z), fun a ha => by
    rcases ha with ha | rfl
    · obtain ⟨o, e⟩ := w.bnd a ha
      exact ⟨o, by rw [upd_ne (ne_of_none e hp)]; exact e⟩
    · exact ⟨_, upd_same⟩, fun k c e => by
    rcases w.cell k c e with z | ⟨a, h1, h2⟩
    · exact .inl z
    · exact .inr ⟨a, h1, h2.mv (Mv.plus hp) fun o q => by rw [upd_ne (ne_of_none q hp)]; exact q⟩⟩
theorem Stp.alloc {p : Addr} {o : HO} {B1 : Addr → Prop} {A1 : Ad} {H1 : Hp} (s : Stp A B H A1 B1 H1) (hp : H1 p = none) : Stp A B H A1 (fun a => B1 a ∨ a = p) (upd H1 p o) := by
  have h0 : H p = none := by
    cases q : H p with
    | none => rfl
    | some u =>
      obtain ⟨v, e⟩ := s.trk p u q
      rw [hp] at e; cases e
  exact (s.trans (Stp.grow hp)).plus h0
/-- a list of the frame's own is written: seen from the entry -/
theorem Stp.own {p : Addr} {o : HO} (s : Stp A B H A' B' H') (hp : H p = none) (nl : ¬ Liv A' p) : Stp A B H A' B' (upd H' p o) :=
  ⟨fun a u e n => by rw [upd_ne (ne_of_none e hp)]; exact s.keep a u e n, s.old, s.new, s.ids, fun a u e => by
    obtain ⟨v, q⟩ := s.trk a u e
    exact ⟨v, by rw [upd_ne (ne_of_none e hp)]; exact q⟩, fun a o u e => by
    rw [upd_ne (ne_of_none e hp)]; exact s.frz a o u e⟩
theorem Stp.none {p : Addr} (s : Stp A B H A' B' H') (hp : H' p = none) : H p = none := by
  cases q : H p with
  | none => rfl
  | some u =>
    obtain ⟨v, e⟩ := s.trk p u q
    rw [hp] at e; cases e
/-- a new list becomes a datum -/
theorem tN_D {f : M (List D)} : ∀ σ H Q, tM g rD W (f.bind fun ds => M.pure (.lst ds)) σ H Q → tN g W f σ H Q := by
  rintro σ H Q ⟨H0, A, B, ρ, ω, r, fm, e, res⟩
  unfold M.bind at e
  cases q : f ρ ω with
  | none => rw [q] at e; cases e
  | some z =>
    rw [q] at e
    cases z with
    | exc x ω' =>
      cases e
      exact ⟨H0, A, B, ρ, ω, _, fm, q, res⟩
    | val ds ω' =>
      cases e
      refine ⟨H0, A, B, ρ, ω, _, fm, q, fun p vs A' B' H' t w hp l hb nl h0 => ?_⟩
      exact res (.ref p) A' _ H' (t.minus h0) (w.minus nl) (.lst (fun z => z.2 rfl) hp (DpL.mv (Mv.minus p) _ _ l))
theorem Fm.takeO {i : Nat} {p : Addr} {vs : List V} {ds : List D} (h : Fm g H0 A B H ω σ ρ) (t : Stp A B H A' B' H') (w : Wo g A' B' H' ω') (hp : H' p = some (.lst vs)) (l : DpL g A' B' H' vs ds) (hb : B' p) (nl : ¬ Liv A' p) (h1 : H p = none) (h0 : H0 p = none) :
    Fm g H0 A' B' H' ω' (σ.set i (some (.ref p))) (ρ.set i (.ow ds)) := by
  have s1 := h.sl.up h.wo t
  refine ⟨w, ⟨by simp [s1.len], fun j s e => ?_, fun a b xs ys q ea eb sa sb => ?_⟩⟩
  · rcases getElem?_set_cases e with ⟨rfl, hl, rfl⟩ | ⟨ne, e⟩
    · exact ⟨p, vs, by rw [List.getElem?_set_self (by rw [← s1.len]; exact hl)], hp, l, hb, nl, h0⟩
    · rw [List.getElem?_set_ne ne]
      exact s1.val j s e
  · have other : ∀ (c : Nat) (zs : List D), i ≠ c → ρ[c]? = some (.ow zs) → σ[c]? ≠ some (some (.ref p)) := fun c zs nc ec z => by
      obtain ⟨q, ws, e1, e2, _⟩ := h.sl.val c _ ec
      rw [z] at e1
      cases e1
      rw [h1] at e2; cases e2
    have self : ∀ (c : Nat), i = c → c < ρ.length → (σ.set i (some (.ref p)))[c]? = some (some (.ref p)) := fun c e hc => by
      subst e
      rw [List.getElem?_set_self (by rw [← s1.len]; exact hc)]
    rcases getElem?_set_cases ea with ⟨na, la, _⟩ | ⟨na, ea⟩
    · rcases getElem?_set_cases eb with ⟨nb, _, _⟩ | ⟨nb, eb⟩
      · exact na.symm.trans nb
      · rw [List.getElem?_set_ne nb] at sb
        rw [self a na la] at sa
        cases sa
        exact (other b _ nb eb sb).elim
    · rcases getElem?_set_cases eb with ⟨nb, lb, _⟩ | ⟨nb, eb⟩
      · rw [List.getElem?_set_ne na] at sa
        rw [self b nb lb] at sb
        cases sb
        exact (other a _ na ea sa).elim
      · rw [List.getElem?_set_ne na] at sa
        rw [List.getElem?_set_ne nb] at sb
        exact s1.own a b _ _ q ea eb sa sb
end
def lenOk (ds : List D) : M (List D) := fun _ ω => if ds.length ≤ sizeLine then some (.val ds ω) else none
section
variable {X : Cx} {g : G} {W : WX} {e : Expr} {es : List Expr} {f : M D} {fs : M (List D)} {pos : Pos}
/-- from «at every free place» -/
theorem ResN.of {A A1 : Ad} {B B1 : Addr → Prop} {H H1 : Hp} {ω1 : List Cell} {σ : St} {Q : VK} {vs : List V} {ds : List D} (res : ResN g W σ A B H Q (.val ds ω1)) (t : Stp A B H A1 B1 H1) (w : Wo g A1 B1 H1 ω1) (l : DpL g A1 B1 H1 vs ds) : ∀ p, H1 p = none → Q (.ref p) (upd H1 p (.lst vs)) := fun p hp =>
  res p vs A1 _ _ (t.alloc hp) (w.plus hp) upd_same (DpL.mv (Mv.plus hp) _ _ l) (.inr rfl) (fun z => w.nb hp (w.liv p z)) (t.none hp)
/-- the first part of a sequence that ends in a new list -/
theorem tN_bind {α β : Type} {rel : Rl β α} {f : M α} {k : α → M (List D)} {A : Ad} {B : Addr → Prop} {H H0 : Hp} {ω : List Cell} {σ : St} {ρ : Rho} {Q : VK} {r : R (List D)} (h : Fm g H0 A B H ω σ ρ) (e : (f.bind k) ρ ω = some r) (res : ResN g W σ A B H Q r) :
    tM g rel W f σ H (fun v H1 => ∃ A1 B1 ω1 a, Stp A B H A1 B1 H1 ∧ Fm g H0 A1 B1 H1 ω1 σ ρ ∧ rel g A1 B1 H1 v a ∧ k a ρ ω1 = some r) := by
  unfold M.bind at e
  cases q : f ρ ω with
  | none => rw [q] at e; cases e
  | some z =>
    rw [q] at e
    cases z with
    | exc x ω' =>
      cases e
      exact ⟨H0, A, B, ρ, ω, _, h, q, res⟩
    | val a ω' => exact ⟨H0, A, B, ρ, ω, _, h, q, fun v A1 B1 H1 t w rl => ⟨A1, B1, ω', a, t, h.up t w, rl, e⟩⟩
theorem dn_lst (h : PA X es (tM g rL W fs)) : PE X (.List es pos) (tN g W (fs.bind lenOk)) :=
  (pe_lst h).dl fun σ H Q ⟨H0, A, B, ρ, ω, r, fm, e, res⟩ => by
    refine tM_mono (tN_bind fm e res) fun x H1 ⟨A1, B1, ω1, d1, t1, fm1, r1, e1⟩ => ?_
    unfold lenOk at e1
    split at e1
    · cases e1
      exact ⟨by rw [DpL.length r1]; assumption, res.of t1 fm1.wo r1⟩
    · cases e1
/-- list(e) -/
def listL : D → M (List D) := fun d _ ω => match view ω d with
  | some d' => match listD d' with
    | some (.lst ds) => some (.val ds ω)
    | _ => none
  | none => none
theorem dn_list {p : Pos} (hK : X.K = g.K) (hg : Gl X "list") (hm : X.mg "list" = none) (ha : PE X e (tM g rW W f)) (he : starEach [e] X.env = (false, eval e X.env) :: starEach [] X.env := by rfl) : PE X (.Call (.Name "list" p) [e] [] pos) (tN g W (f.bind listL)) :=
  (pe_callTy call_list_of hg hm (by decide +kernel) (pa_cons ha pa_nil he) (he := he)).dl fun σ H Q ⟨H0, A, B, ρ, ω, r, fm, e, res⟩ => by
    refine tM_mono (tN_bind fm e res) fun x H1 ⟨A1, B1, ω1, d1, t1, fm1, r1, e1⟩ => ?_
    unfold listL at e1
    cases q : view ω1 d1 with
    | none => simp only [q] at e1; cases e1
    | some d' =>
      simp only [q] at e1
      have vw := view_ok fm1.wo r1 q
      rw [hK]
      cases d' with
      | lst ds =>
        cases e1
        obtain ⟨p, vs, rfl, hp, l⟩ := vw
        exact ⟨p, vs, rfl, .inl (SqL.of hp), res.of t1 fm1.wo l⟩
      | tup ds =>
        cases e1
        obtain ⟨p, vs, rfl, hp, l⟩ := Dp.seq vw
        exact ⟨p, vs, rfl, .inr hp, res.of t1 fm1.wo l⟩
      | scr ns =>
        cases e1
        obtain ⟨p, rfl, hp⟩ := vw
        exact ⟨p, _, rfl, .inl hp, res.of t1 fm1.wo (DpL.ints ns)⟩
      | _ => cases e1
theorem de_new (h : PE X e (tN g W fs)) : PE X e (tM g rD W (fs.bind fun ds => M.pure (.lst ds))) := h.dl tN_D
end

/-! ### simple statements -/
section
variable {X : Cx} {g : G} {n : En} {W : WX} {e c : Expr} {f : M D} {fs : M (List D)} {t : M Bool} {F K : MS} {a b : List Stmt} {pos : Pos}
def setS (i : Nat) (f : M D) : MS := bindS f fun d ρ ω => some (.nx (ρ.set i (.fz d)) ω)
theorem ds_set {i : Nat} {x : Str} {pos' : Pos} (hN : X.N.Nodup) (he : PE X e (tM g rD W f)) (hi : X.N[i]? = some x := by rfl) (hx : Loc X.env.scope x := by first | exact Or.inl rfl | exact Or.inr rfl) (hs : swapsWith e (some (.Name x pos')) pos.line X.env = pure false := by rfl)
    (hf : X.fn x = true ∨ X.env.scope.names.lookup x = some .local := by first | exact .inl rfl | exact .inr rfl | assumption) : PS X (.Assign [.Name x pos'] e pos) (tS g n W (setS i f)) :=
  (ps_set hN hi hx he hs hf).dl fun D σ H ⟨A, B, ρ, ω, r, s, fm, e, res⟩ => by
    refine tM_mono (tS_bind s fm e res) fun v H1 ⟨A1, B1, ω1, d, t1, m1, s1, fm1, r1, e1, res1⟩ => ?_
    cases e1
    exact res1.next (.refl _ _ _) s1 (fm1.setF r1)
def setO (i : Nat) (f : M (List D)) : MS := bindS f fun ds ρ ω => some (.nx (ρ.set i (.ow ds)) ω)
theorem tN_setO {i : Nat} {D : Ends} {σ : St} {H : Hp} (h : tS g n W (setO i fs) D σ H) : tN g W fs σ H fun x H1 => gName i x σ H1 D.nx := by
  obtain ⟨A, B, ρ, ω, r, s, fm, e, res⟩ := h
  unfold setO bindS at e
  cases q : fs ρ ω with
  | none => rw [q] at e; cases e
  | some z =>
    rw [q] at e
    cases z with
    | exc x ω' =>
      cases e
      exact ⟨n.H, A, B, ρ, ω, _, fm, q, fun cls dd A' B' H' t w x => res cls dd σ A' B' H' (fm.wo.mv t) (s.trans t) (fm.up t w) x⟩
    | val ds ω' =>
      cases e
      refine ⟨n.H, A, B, ρ, ω, _, fm, q, fun p vs A' B' H' t w hp l hb nl h1 => ?_⟩
      exact res.next (fm.wo.mv t) (s.trans t) (fm.takeO t w hp l hb nl h1 (s.none h1))
theorem ds_setO {i : Nat} {x : Str} {pos' : Pos} (hN : X.N.Nodup) (he : PE X e (tN g W fs)) (hi : X.N[i]? = some x := by rfl) (hx : Loc X.env.scope x := by first | exact Or.inl rfl | exact Or.inr rfl) (hs : swapsWith e (some (.Name x pos')) pos.line X.env = pure false := by rfl)
    (hf : X.fn x = true ∨ X.env.scope.names.lookup x = some .local := by first | exact .inl rfl | exact .inr rfl | assumption) : PS X (.Assign [.Name x pos'] e pos) (tS g n W (setO i fs)) :=
  (ps_set hN hi hx he hs hf).dl fun D σ H h => tN_setO h
def exprS (f : M D) : MS := bindS f fun _ ρ ω => some (.nx ρ ω)
theorem ds_expr (he : PE X e (tM g rD W f)) (hs : swapsWith e none pos.line X.env = pure false := by rfl) : PS X (.Expr e pos) (tS g n W (exprS f)) :=
  (ps_expr he hs).dl fun D σ H ⟨A, B, ρ, ω, r, s, fm, e, res⟩ => by
    refine tM_mono (tS_bind s fm e res) fun v H1 ⟨A1, B1, ω1, d, t1, m1, s1, fm1, r1, e1, res1⟩ => ?_
    cases e1
    exact res1.next (.refl _ _ _) s1 fm1
def retS (f : M D) : MS := bindS f fun d _ ω => some (.rt d ω)
theorem ds_ret (he : PE X e (tM g rD W f)) : PS X (.Return (some e) pos) (tS g n W (retS f)) :=
  (ps_ret he).dl fun D σ H ⟨A, B, ρ, ω, r, s, fm, e, res⟩ => by
    refine tM_mono (tS_bind s fm e res) fun v H1 ⟨A1, B1, ω1, d, t1, m1, s1, fm1, r1, e1, res1⟩ => ?_
    cases e1
    exact res1 v A1 B1 H1 s1 fm1.wo r1
theorem ds_retN : PS X (.Return none pos) (tS g n W fun _ ω => some (.rt .non ω)) :=
  ps_retN.dl fun D σ H ⟨A, B, ρ, ω, r, s, fm, e, res⟩ => by
    cases e
    exact res .non A B H s fm.wo .non
def ifS (t : M Bool) (F K : MS) : MS := bindS t fun b => if b = true then F else K
theorem ds_if (hc : PT X c (tM g rB W t)) (ha : PSs X a (tS g n W F)) (hb : PSs X b (tS g n W K)) : PS X (.If c a b pos) (tS g n W (ifS t F K)) :=
  (ps_if hc ha hb).dl fun D σ H ⟨A, B, ρ, ω, r, s, fm, e, res⟩ => by
    refine tM_mono (tS_bind s fm e res) fun v H1 ⟨A1, B1, ω1, d, t1, m1, s1, fm1, r1, e1, res1⟩ => ?_
    cases r1
    cases v with
    | true =>
      rw [if_pos rfl] at e1 ⊢
      exact ⟨A1, B1, ρ, ω1, r, s1, fm1, e1, res1⟩
    | false =>
      rw [if_neg Bool.false_ne_true] at e1 ⊢
      exact ⟨A1, B1, ρ, ω1, r, s1, fm1, e1, res1⟩
/-- ahead of a statement a list of the frame's own is given out -/
def frz (i : Nat) (F : MS) : MS := fun ρ ω => match ρ[i]? with
  | some (.ow ds) => F (ρ.set i (.fz (.lst ds))) ω
  | _ => F ρ ω
theorem ds_frz (i : Nat) {st : Stmt} (h : PS X st (tS g n W F)) : PS X st (tS g n W (frz i F)) := h.dl fun D σ H ⟨A, B, ρ, ω, r, s, fm, e, res⟩ => by
  unfold frz at e
  split at e
  · rename_i ds hi
    obtain ⟨p, vs, e1, hp, l, hb, nl, h0⟩ := fm.sl.val i _ hi
    obtain ⟨fm', m, s'⟩ := fm.freeze s hi e1
    exact ⟨A, _, _, ω, r, s', fm', e, res.mv m⟩
  · exact ⟨A, B, ρ, ω, r, s, fm, e, res⟩

/-! ### x.append(e), x.extend(e) of an own list -/
def appS (i : Nat) (f : M D) : MS := fun ρ ω => match ρ[i]? with
  | some (.ow ds) => bindS f (fun d ρ ω => if ds.length < sizeLine then some (.nx (ρ.set i (.ow (ds ++ [d]))) ω) else none) ρ ω
  | _ => none
theorem ds_app {i : Nat} {x : Str} {p1 p2 p3 : Pos} (he : PE X e (tM g rD W f)) (hN : X.N[i]? = some x := by rfl) (hv : Vis X.env.scope x := by first | exact Or.inl rfl | exact Or.inr (Or.inl rfl) | exact Or.inr (Or.inr rfl)) (hd : (x == ("__debug__" : Str)) = false := by decide)
    (hcd : (x == ("__classdict__" : Str)) = false := by decide) (hbase : attributeBase (.Name x p1) "append" X.env (eval (.Name x p1) X.env) = eval (.Name x p1) X.env := by rfl)
    (hfew : ((backTo p3 (starEach [e] X.env)).all (fun x => !x.1) && (backToKw p3 (keywordEach [] X.env)).all (fun x => x.1.isSome)
      && decide ([e].length + ([] : List Keyword).length + (if ([] : List Keyword).isEmpty then 0 else 1) < 30)) = true := by rfl)
    (hline : (p2.endLine == p3.line) = true := by rfl) (hst : starEach [e] X.env = (false, eval e X.env) :: starEach [] X.env := by rfl) (hplain : (backTo p3 (starEach [] X.env)).any (·.1) = false := by rfl)
    (hs : swapsWith (.Call (.Attribute (.Name x p1) "append" p2) [e] [] p3) none pos.line X.env = pure false := by rfl) :
    PS X (.Expr (.Call (.Attribute (.Name x p1) "append" p2) [e] [] p3) pos) (tS g n W (appS i f)) :=
  (ps_expr (pe_bm PySem.F.plainAttrs_list PySem.F.slot_list_append PySem.F.type_list_append mt_append (pe_var hN hv hd hcd) (pa_cons he pa_nil hst) hbase hfew hline hst hplain) hs).dl fun D σ H ⟨A, B, ρ, ω, r, s, fm, e, res⟩ => by
    unfold appS at e
    split at e
    · rename_i ds hi
      obtain ⟨p, vs, e1, hp, l, hb, nl, h0⟩ := fm.sl.val i _ hi
      refine ⟨.ref p, e1, .inl ⟨rfl, vs, SqL.of hp⟩, ?_⟩
      refine tM_mono (tS_bind s fm e res) fun v H1 ⟨A1, B1, ω1, d, t1, m1, s1, fm1, r1, e2, res1⟩ => ?_
      split at e2
      · rename_i hz
        cases e2
        obtain ⟨p', vs1, e1', hp1, l1, hb1, nl1, h01⟩ := fm1.sl.val i _ hi
        rw [e1] at e1'
        cases e1'
        refine ⟨p, vs1, v, rfl, rfl, hp1, by rw [l1.length]; exact hz, ?_⟩
        obtain ⟨fm2, m2⟩ := fm1.write hi e1 hp1 hb1 nl1 h01 (l1.append (.cons r1 .nil))
        exact res1.next m2 (s1.own h01 nl1) fm2
      · cases e2
    · cases e
/-- x.extend(e) -/
def extS (i : Nat) (f : M D) : MS := fun ρ ω => match ρ[i]? with
  | some (.ow ds) => bindS f (fun d ρ ω => match view ω d with
    | some (.lst es) => if ds.length + es.length ≤ sizeLine then some (.nx (ρ.set i (.ow (ds ++ es))) ω) else none
    | _ => none) ρ ω
  | _ => none
theorem ds_ext {i : Nat} {x : Str} {p1 p2 p3 : Pos} (he : PE X e (tM g rW W f)) (hN : X.N[i]? = some x := by rfl) (hv : Vis X.env.scope x := by first | exact Or.inl rfl | exact Or.inr (Or.inl rfl) | exact Or.inr (Or.inr rfl)) (hd : (x == ("__debug__" : Str)) = false := by decide)
    (hcd : (x == ("__classdict__" : Str)) = false := by decide) (hbase : attributeBase (.Name x p1) "extend" X.env (eval (.Name x p1) X.env) = eval (.Name x p1) X.env := by rfl)
    (hfew : ((backTo p3 (starEach [e] X.env)).all (fun x => !x.1) && (backToKw p3 (keywordEach [] X.env)).all (fun x => x.1.isSome)
      && decide ([e].length + ([] : List Keyword).length + (if ([] : List Keyword).isEmpty then 0 else 1) < 30)) = true := by rfl)
    (hline : (p2.endLine == p3.line) = true := by rfl) (hst : starEach [e] X.env = (false, eval e X.env) :: starEach [] X.env := by rfl) (hplain : (backTo p3 (starEach [] X.env)).any (·.1) = false := by rfl)
    (hs : swapsWith (.Call (.Attribute (.Name x p1) "extend" p2) [e] [] p3) none pos.line X.env = pure false := by rfl) :
    PS X (.Expr (.Call (.Attribute (.Name x p1) "extend" p2) [e] [] p3) pos) (tS g n W (extS i f)) :=
  (ps_expr (pe_bm PySem.F.plainAttrs_list PySem.F.slot_list_extend PySem.F.type_list_extend mt_extend (pe_var hN hv hd hcd) (pa_cons he pa_nil hst) hbase hfew hline hst hplain) hs).dl fun D σ H ⟨A, B, ρ, ω, r, s, fm, e, res⟩ => by
    unfold extS at e
    split at e
    · rename_i ds hi
      obtain ⟨p, vs, e1, hp, l, hb, nl, h0⟩ := fm.sl.val i _ hi
      refine ⟨.ref p, e1, .inl ⟨rfl, vs, SqL.of hp⟩, ?_⟩
      refine tM_mono (tS_bind s fm e res) fun v H1 ⟨A1, B1, ω1, d, t1, m1, s1, fm1, r1, e2, res1⟩ => ?_
      cases q : view ω1 d with
      | none => simp only [q] at e2; cases e2
      | some d' =>
        cases d' with
        | lst es =>
          simp only [q] at e2
          split at e2
          · rename_i hz
            cases e2
            obtain ⟨b, ws, rfl, hb', lw⟩ := view_ok fm1.wo r1 q
            obtain ⟨p', vs1, e1', hp1, l1, hb1, nl1, h01⟩ := fm1.sl.val i _ hi
            rw [e1] at e1'
            cases e1'
            refine ⟨p, b, vs1, ws, rfl, rfl, hp1, hb', by rw [l1.length, lw.length]; exact hz, ?_⟩
            obtain ⟨fm2, m2⟩ := fm1.write hi e1 hp1 hb1 nl1 h01 (l1.append lw)
            exact res1.next m2 (s1.own h01 nl1) fm2
          · cases e2
        | _ => simp only [q] at e2; cases e2
    · cases e
/-- x[i] = e of an own list -/
def putS (i : Nat) (fk f : M D) : MS := bindS f fun d ρ ω => match ρ[i]? with
  | some (.ow ds) => bindS fk (fun k ρ ω => match k with
    | .int z => match ixN ds.length z with
      | some j => some (.nx (ρ.set i (.ow (ds.set j d))) ω)
      | none => none
    | _ => none) ρ ω
  | _ => none
end
end DL
/-! DL6: targets, loops, comprehensions. -/
namespace DL
open PySem L2

/-! ### targets -/
/-- the slots outside are are as they were -/
def SOut (is : List Nat) (σ σ' : St) : Prop := σ'.length = σ.length ∧ ∀ j, j ∉ is → σ'[j]? = σ[j]?
theorem SOut.refl (is : List Nat) (σ : St) : SOut is σ σ := ⟨rfl, fun _ _ => rfl⟩
theorem SOut.trans {is js : List Nat} {σ σ1 σ2 : St} (a : SOut is σ σ1) (b : SOut js σ1 σ2) : SOut (is ++ js) σ σ2 :=
  ⟨b.1.trans a.1, fun j hj => (b.2 j fun z => hj (List.mem_append_right _ z)).trans (a.2 j fun z => hj (List.mem_append_left _ z))⟩
theorem wipe_in {σ : St} {i : Nat} : ∀ {vs : List Nat}, i ∈ vs → (wipe σ vs)[i]? = if i < σ.length then some none else none
  | v :: vs, h => by
    unfold wipe
    by_cases e : v = i
    · subst e
      split
      · rw [List.getElem?_set_self (by rw [wipe_length]; assumption)]
      · rw [List.getElem?_eq_none (by simp only [List.length_set, wipe_length]; omega)]
    · rw [List.getElem?_set_ne e]
      exact wipe_in ((List.mem_cons.mp h).resolve_left fun z => e z.symm)
theorem wipe_notin {σ : St} {i : Nat} : ∀ {vs : List Nat}, i ∉ vs → (wipe σ vs)[i]? = σ[i]?
  | [], _ => rfl
  | v :: vs, h => by
    unfold wipe
    rw [List.getElem?_set_ne (fun z => h (by rw [z]; exact List.mem_cons_self))]
    exact wipe_notin fun z => h (List.mem_cons_of_mem _ z)
theorem SOut.wipe {is vs : List Nat} {σ σ' : St} (h : SOut is σ σ') (hs : ∀ i ∈ is, i ∈ vs) : wipe σ' vs = wipe σ vs := by
  apply List.ext_getElem?
  intro i
  by_cases hi : i ∈ vs
  · rw [wipe_in hi, wipe_in hi, h.1]
  · rw [wipe_notin hi, wipe_notin hi]
    exact h.2 i fun z => hi (hs i z)
abbrev TT1 := D → Rho → List Cell → Option Rho
abbrev TTs := List D → Rho → List Cell → Option Rho
def tGM (g : G) (is : List Nat) (T : TT1) : TG := fun v σ H Q => ∃ H0 A B ρ ω d ρ', Fm g H0 A B H ω σ ρ ∧ Dp g A B H v d ∧ T d ρ ω = some ρ' ∧ ∀ σ', Fm g H0 A B H ω σ' ρ' → SOut is σ σ' → Q σ' H
def tGs (g : G) (is : List Nat) (T : TTs) : TGs := fun vs σ H Q => ∃ H0 A B ρ ω ds ρ', Fm g H0 A B H ω σ ρ ∧ DpL g A B H vs ds ∧ T ds ρ ω = some ρ' ∧ ∀ σ', Fm g H0 A B H ω σ' ρ' → SOut is σ σ' → Q σ' H
theorem _root_.L2.PG.dl {X : Cx} {e : Expr} {t t' : TG} (h : PG X e t) (i : ∀ v σ H Q, t' v σ H Q → t v σ H Q) : PG X e t' := ⟨fun pins s σ H v u Q I r q => h.run pins s σ H v u Q I r (i v σ H Q q)⟩
theorem _root_.L2.PGs.dl {X : Cx} {e : List Expr} {t t' : TGs} (h : PGs X e t) (i : ∀ v σ H Q, t' v σ H Q → t v σ H Q) : PGs X e t' := ⟨fun pins s σ H v u Q I r q => h.run pins s σ H v u Q I r (i v σ H Q q)⟩
theorem _root_.L2.PI.dl {X : Cx} {tg e : Expr} {t t' : TI} (h : PI X tg e t) (i : ∀ σ H Q, t' σ H Q → t σ H Q) : PI X tg e t' := ⟨fun pins s σ H R I q => h.run pins s σ H R I (i σ H R q)⟩
theorem _root_.L2.PTs.dl {X : Cx} {e : List Expr} {t t' : TT} (h : PTs X e t) (i : ∀ σ H Q, t' σ H Q → t σ H Q) : PTs X e t' := ⟨fun pins s σ H Q I q => h.run pins s σ H Q I (i σ H Q q)⟩
def nmT (i : Nat) : TT1 := fun d ρ _ => some (ρ.set i (.fz d))
def tupT (k : Nat) (T : TTs) : TT1 := fun d ρ ω => match view ω d with
  | some (.tup ds) => if ds.length = k then T ds ρ ω else none
  | _ => none
def consT (T : TT1) (Ts : TTs) : TTs := fun ds ρ ω => match ds with
  | d :: ds => match T d ρ ω with
    | some ρ' => Ts ds ρ' ω
    | none => none
  | [] => none
def nilT : TTs := fun ds ρ _ => match ds with
  | [] => some ρ
  | _ => none
section
variable {X : Cx} {g : G} {e : Expr} {es : List Expr} {T : TT1} {Ts : TTs} {is js : List Nat} {pos : Pos}
theorem dg_name (i : Nat) {x : Str} (hN : X.N.Nodup) (hi : X.N[i]? = some x := by rfl) (hx : Loc X.env.scope x := by first | exact Or.inl rfl | exact Or.inr rfl) (hf : X.fn x = true ∨ X.env.scope.names.lookup x = some .local := by first | exact .inl rfl | exact .inr rfl | assumption) : PG X (.Name x pos) (tGM g [i] (nmT i)) :=
  (pg_name hN hi hx hf).dl fun v σ H Q ⟨H0, A, B, ρ, ω, d, ρ', fm, hd, e, q⟩ => by
    cases e
    refine q _ (fm.setF hd) ⟨by simp, fun j hj => ?_⟩
    rw [List.getElem?_set_ne (fun z => hj (by simp [z]))]
theorem dgs_nil : PGs X [] (tGs g [] nilT) := pgs_nil.dl fun v σ H Q ⟨H0, A, B, ρ, ω, d, ρ', fm, hd, e, q⟩ => by
  cases hd with
  | nil =>
    cases e
    exact ⟨rfl, q σ fm (.refl _ _)⟩
  | cons h1 h2 => cases e
theorem dgs_cons (h1 : PG X e (tGM g is T)) (h2 : PGs X es (tGs g js Ts)) (hs : (assignEach (e :: es) X.env).map (·.2) = assign e X.env :: (assignEach es X.env).map (·.2) := by rfl) : PGs X (e :: es) (tGs g (is ++ js) (consT T Ts)) :=
  (pgs_cons h1 h2 hs).dl fun v σ H Q ⟨H0, A, B, ρ, ω, d, ρ', fm, hd, e, q⟩ => by
    cases hd with
    | nil => cases e
    | @cons v vs d ds hd1 hd2 =>
      unfold consT at e
      cases q1 : T d ρ ω with
      | none => simp only [q1] at e; cases e
      | some ρ1 =>
        simp only [q1] at e
        exact ⟨v, vs, rfl, H0, A, B, ρ, ω, d, ρ1, fm, hd1, q1, fun σ1 fm1 s1 => ⟨H0, A, B, ρ1, ω, ds, ρ', fm1, hd2, e, fun σ2 fm2 s2 => q σ2 fm2 (s1.trans s2)⟩⟩
theorem dg_tup {k n : Nat} (hK : X.K = g.K) (hc : X.calm = true) (h : PGs X es (tGs g is Ts)) (hn : (assignEach es X.env).length = n := by rfl) (hst : (assignEach es X.env).findIdx? (·.1) = none := by rfl) : PG X (.Tuple es k pos) (tGM g is (tupT n Ts)) :=
  (pg_tup hc h hn hst).dl fun v σ H Q ⟨H0, A, B, ρ, ω, d, ρ', fm, hd, e, q⟩ => by
    unfold tupT at e
    cases q1 : view ω d with
    | none => simp only [q1] at e; cases e
    | some d' =>
      cases d' with
      | tup ds =>
        simp only [q1] at e
        split at e
        · rename_i hl
          have vw : Dp g A B H v (.tup ds) := Vw.of hd fm.wo q1
          obtain ⟨a, vs, rfl, hs, l⟩ := Dp.seq vw
          exact ⟨a, vs, rfl, by rw [hK]; exact hs, by rw [l.length]; exact hl, H0, A, B, ρ, ω, ds, ρ', fm, l, e, q⟩
        · cases e
      | _ => simp only [q1] at e; cases e
end

/-! ### what is walked -/
structure ItB (g : G) (J : It) (items : List D) (C : Ad → (Addr → Prop) → Hp → Prop) : Prop where
  go : ∀ A B H (i : Nat), C A B H → i < items.length → J.go i H
  yld : ∀ A B H ω (i : Nat) x H', Wo g A B H ω → C A B H → i < items.length → J.yld i H x H' → ∃ d, items[i]? = some d ∧ Stp A B H A B H' ∧ Wo g A B H' ω ∧ Dp g A B H' x d
  stop : ∀ A B H (i : Nat), C A B H → items.length ≤ i → J.stop i H
abbrev Cnd := Ad → (Addr → Prop) → Hp → Prop
def stayM (C : Cnd) : Prop := ∀ A B H A' B' H', Mv A B H A' B' H' → C A B H → C A' B' H'
def stayS (C : Cnd) : Prop := ∀ A B H A' B' H', (∀ a, Liv A a → B a) → Stp A B H A' B' H' → C A B H → C A' B' H'
theorem stayS.of {C : Cnd} (h : stayM C) : stayS C := fun A B H A' B' H' l t c => h A B H A' B' H' (t.mv l) c
def ResI (g : G) (W : WX) (σ : St) (A : Ad) (B : Addr → Prop) (H : Hp) (stay : Cnd → Prop) (Q : It → Hp → Prop) : R (List D) → Prop
  | .val items ω' => ∀ J C A' B' H', Stp A B H A' B' H' → Wo g A' B' H' ω' → ItB g J items C → stay C → C A' B' H' → Q J H'
  | .exc x ω' => ∀ cls dd A' B' H', Stp A B H A' B' H' → Wo g A' B' H' ω' → XOk g A' B' H' cls dd x → W cls dd σ H'
def tI (g : G) (W : WX) (stay : Cnd → Prop) (f : M (List D)) : TI := fun σ H Q => ∃ H0 A B ρ ω r, Fm g H0 A B H ω σ ρ ∧ f ρ ω = some r ∧ ResI g W σ A B H stay Q r
section
variable {g : G} {W : WX} {A : Ad} {B : Addr → Prop} {H H0 : Hp} {ω : List Cell} {σ : St} {ρ : Rho}
theorem tI_bind {α β : Type} {rel : Rl β α} {f : M α} {k : α → M (List D)} {stay : Cnd → Prop} {Q : It → Hp → Prop} {r : R (List D)} (h : Fm g H0 A B H ω σ ρ) (e : (f.bind k) ρ ω = some r) (res : ResI g W σ A B H stay Q r) :
    tM g rel W f σ H (fun v H1 => ∃ A1 B1 ω1 a, Stp A B H A1 B1 H1 ∧ Fm g H0 A1 B1 H1 ω1 σ ρ ∧ rel g A1 B1 H1 v a ∧ k a ρ ω1 = some r) := by
  unfold M.bind at e
  cases q : f ρ ω with
  | none => rw [q] at e; cases e
  | some z =>
    rw [q] at e
    cases z with
    | exc x ω' =>
      cases e
      exact ⟨H0, A, B, ρ, ω, _, h, q, res⟩
    | val a ω' => exact ⟨H0, A, B, ρ, ω, _, h, q, fun v A1 B1 H1 t w rl => ⟨A1, B1, ω', a, t, h.up t w, rl, e⟩⟩
theorem itb_list {a : Addr} {vs : List V} {ds : List D} (C : Cnd) (hC : ∀ A B H, C A B H → SqL g.K H a vs ∧ DpL g A B H vs ds) : ItB g (Itl g.K a) ds C where
  go := fun A B H i c hi => by
    obtain ⟨hs, l⟩ := hC A B H c
    have hi' : i < vs.length := by rw [l.length]; exact hi
    exact ⟨vs, vs[i], hs, List.getElem?_eq_getElem hi'⟩
  yld := fun A B H ω i x H' w c _ y => by
    obtain ⟨hs, l⟩ := hC A B H c
    obtain ⟨rfl, y⟩ := y
    obtain ⟨d, e, hd⟩ := l.getV (y vs hs)
    exact ⟨d, e, .refl _ _ _, w, hd⟩
  stop := fun A B H i c hi => by
    obtain ⟨hs, l⟩ := hC A B H c
    exact ⟨vs, hs, by rw [l.length]; exact hi⟩
theorem itb_tup {a : Addr} {vs : List V} {ds : List D} (C : Cnd) (hC : ∀ A B H, C A B H → SqT g.K H a vs ∧ DpL g A B H vs ds) : ItB g (Itt g.K a) ds C where
  go := fun A B H i c hi => by
    obtain ⟨hs, l⟩ := hC A B H c
    have hi' : i < vs.length := by rw [l.length]; exact hi
    exact ⟨vs, vs[i], hs, List.getElem?_eq_getElem hi'⟩
  yld := fun A B H ω i x H' w c _ y => by
    obtain ⟨hs, l⟩ := hC A B H c
    obtain ⟨rfl, y⟩ := y
    obtain ⟨d, e, hd⟩ := l.getV (y vs hs)
    exact ⟨d, e, .refl _ _ _, w, hd⟩
  stop := fun A B H i c hi => by
    obtain ⟨hs, l⟩ := hC A B H c
    exact ⟨vs, hs, by rw [l.length]; exact hi⟩
def signs (x : Str) : List D := x.cps.toList.map fun c => D.str ⟨#[c]⟩
theorem itb_str {x : Str} : ItB g (Its x) (signs x) (fun _ _ _ => True) where
  go := fun A B H i _ hi => by show i < x.cps.size; simpa [signs] using hi
  yld := fun A B H ω i v H' w _ _ y => by
    obtain ⟨rfl, c, hc, rfl⟩ := y
    exact ⟨.str ⟨#[c]⟩, by simp [signs, hc], .refl _ _ _, w, .str _⟩
  stop := fun A B H i _ hi => by show x.cps.size ≤ i; simpa [signs] using hi
def rangeD (lo : Int) (n : Nat) : List D := (List.range n).map fun i => D.int (lo + (i : Nat))
theorem itb_range {lo : Int} {n : Nat} : ItB g (Itr lo n) (rangeD lo n) (fun _ _ _ => True) where
  go := fun A B H i _ hi => by show i < n; simpa [rangeD] using hi
  yld := fun A B H ω i v H' w _ hi y => by
    obtain ⟨rfl, rfl⟩ := y
    exact ⟨.int (lo + i), by have : i < n := by simpa [rangeD] using hi
                             simp [rangeD, this], .refl _ _ _, w, .int _⟩
  stop := fun A B H i _ hi => by show n ≤ i; simpa [rangeD] using hi
end
/-- a list, a tuple, a text, as it comes -/
def iAny (K : PySem.W.Frag) (tl : TE) : TI := fun σ H R => tl σ H fun x H1 => (∃ a, x = .ref a ∧ (∃ xs, SqL K H1 a xs) ∧ R (Itl K a) H1) ∨ (∃ a, x = .ref a ∧ (∃ xs, SqT K H1 a xs) ∧ R (Itt K a) H1) ∨ ∃ z, x = .str z ∧ R (Its z) H1
theorem pi_any {X : Cx} {tg l : Expr} {tl : TE} (hl : PE X l tl) : PI X tg l (iAny X.K tl) := by
  refine ⟨fun pins s σ H R I h => ?_⟩
  refine thn (hl.run pins s σ H _ I h) fun v s1 ⟨x, H1, I1, r1, q1⟩ => ?_
  rcases q1 with ⟨a, e, ⟨xs, hq⟩, q⟩ | ⟨a, e, ⟨xs, hq⟩, q⟩ | ⟨z, e, q⟩
  · subst e
    cases r1
    obtain ⟨its, rv, p, hz⟩ := I1.list hq
    refine wpAny_pyIter_list p.isList ?_
    refine ⟨s1.heap.objs.size, [s1.heap.objs.size], _, _, H1, rfl, I1.kept (t' := s1.toks) fun b o e => Heap.get?_push_of_some _ e, turn_list a _, ⟨_, Heap.get?_push_size _ rfl, rfl, rfl⟩, fun b hb => ?_, q⟩
    have e : b = s1.heap.objs.size := by simpa using hb
    subst e
    exact I1.fpOk (Nat.le_refl _) (I1.hok.fresh (Nat.le_refl _))
  · subst e
    cases r1
    obtain ⟨its, rv, p, hz⟩ := I1.tuple hq
    refine PySem.wpAny_pyIter_tuple (show s1.heap.IsTuple a its.toArray from p) ?_
    refine ⟨s1.heap.objs.size, [s1.heap.objs.size], _, _, H1, rfl, I1.kept (t' := s1.toks) fun b o e => Heap.get?_push_of_some _ e, turn_tuple a _, ⟨_, Heap.get?_push_size _ rfl, rfl, rfl⟩, fun b hb => ?_, q⟩
    have e : b = s1.heap.objs.size := by simpa using hb
    subst e
    exact I1.fpOk (Nat.le_refl _) (I1.hok.fresh (Nat.le_refl _))
  · subst e
    obtain ⟨t, rfl⟩ := r1
    cases ha : z.cps.all (· < 128)
    · exact wpAny_pyIter_wide ha (pi_one (tk := s1.toks) I1 _ (turn_str _ z t "str_iterator" (.inr rfl)) ⟨_, Heap.get?_push_size _ rfl, rfl, rfl⟩ q)
    · exact wpAny_pyIter_ascii ha (pi_one (tk := s1.toks) I1 _ (turn_str _ z t "str_ascii_iterator" (.inl rfl)) ⟨_, Heap.get?_push_size _ rfl, rfl, rfl⟩ q)
def itemsOf : D → M (List D) := fun d _ ω => match d with
  | .lst ds => some (.val ds ω)
  | .tup ds => some (.val ds ω)
  | .str x => some (.val (signs x) ω)
  | .scr ns => some (.val (ns.map D.int) ω)
  | _ => none
section
variable {X : Cx} {g : G} {W : WX} {tg e : Expr} {f : M D}
theorem di_data (hK : X.K = g.K) (he : PE X e (tM g rD W f)) : PI X tg e (tI g W stayM (f.bind itemsOf)) :=
  (pi_any he).dl fun σ H Q ⟨H0, A, B, ρ, ω, r, fm, e, res⟩ => by
    refine tM_mono (tI_bind fm e res) fun x H1 ⟨A1, B1, ω1, d1, t1, fm1, r1, e1⟩ => ?_
    rw [hK]
    cases r1 with
    | @lst a vs ds n h l =>
      cases e1
      refine .inl ⟨a, rfl, ⟨vs, SqL.of h⟩, res _ (fun A B H => ¬ B a ∧ H a = some (.lst vs) ∧ DpL g A B H vs ds) A1 B1 H1 t1 fm1.wo (itb_list _ fun A B H c => ⟨SqL.of c.2.1, c.2.2⟩) (fun A B H A' B' H' m c => ?_) ⟨n, h, l⟩⟩
      exact ⟨(m.cell a _ c.1 c.2.1).2, (m.cell a _ c.1 c.2.1).1, DpL.mv m _ _ c.2.2⟩
    | @tup a vs ds n h l =>
      cases e1
      refine .inr (.inl ⟨a, rfl, ⟨vs, SqT.of h⟩, res _ (fun A B H => ¬ B a ∧ H a = some (.tup vs) ∧ DpL g A B H vs ds) A1 B1 H1 t1 fm1.wo (itb_tup _ fun A B H c => ⟨SqT.of c.2.1, c.2.2⟩) (fun A B H A' B' H' m c => ?_) ⟨n, h, l⟩⟩)
      exact ⟨(m.cell a _ c.1 c.2.1).2, (m.cell a _ c.1 c.2.1).1, DpL.mv m _ _ c.2.2⟩
    | @tupK a vs ds h l =>
      cases e1
      exact .inr (.inl ⟨a, rfl, ⟨vs, .inr h⟩, res _ (fun A B H => DpL g A B H vs ds) A1 B1 H1 t1 fm1.wo (itb_tup _ fun A B H c => ⟨.inr h, c⟩) (fun A B H A' B' H' m c => DpL.mv m _ _ c) l⟩)
    | str x =>
      cases e1
      exact .inr (.inr ⟨x, rfl, res _ (fun _ _ _ => True) A1 B1 H1 t1 fm1.wo itb_str (fun _ _ _ _ _ _ _ _ => trivial) trivial⟩)
    | @scr a ns n h =>
      cases e1
      refine .inl ⟨a, rfl, ⟨_, .inl h⟩, res _ (fun A B H => ¬ B a ∧ Rd H a (.lst (ns.map V.int))) A1 B1 H1 t1 fm1.wo (itb_list _ fun A B H c => ⟨.inl c.2, DpL.ints ns⟩) (fun A B H A' B' H' m c => ?_) ⟨n, h⟩⟩
      obtain ⟨o, ho⟩ := Rd.some c.2
      exact ⟨(m.cell a o c.1 ho).2, Rd.up c.2 fun o ho => (m.cell a o c.1 ho).1⟩
    | @scrK a ns h =>
      cases e1
      exact .inl ⟨a, rfl, ⟨_, .inr h⟩, res _ (fun A B H => True) A1 B1 H1 t1 fm1.wo (itb_list _ fun A B H c => ⟨.inr h, DpL.ints ns⟩) (fun A B H A' B' H' m c => trivial) trivial⟩
    | _ => cases e1
/-- within a comprehension data and own lists are walked -/
theorem di_s {fs : M (List D)} (h : PI X tg e (tI g W stayM fs)) : PI X tg e (tI g W stayS fs) := h.dl fun σ H Q ⟨H0, A, B, ρ, ω, r, fm, e, res⟩ => ⟨H0, A, B, ρ, ω, r, fm, e, by
  cases r with
  | val items ω' => exact fun J C A' B' H' t w i s c => res J C A' B' H' t w i (.of s) c
  | exc x ω' => exact res⟩
theorem di_own (hK : X.K = g.K) (he : PE X e (tM g rW W f)) : PI X tg e (tI g W stayS (f.bind itemsOf)) :=
  (pi_any he).dl fun σ H Q ⟨H0, A, B, ρ, ω, r, fm, e, res⟩ => by
    refine tM_mono (tI_bind fm e res) fun x H1 ⟨A1, B1, ω1, d1, t1, fm1, r1, e1⟩ => ?_
    rw [hK]
    rcases r1 with r1 | ⟨p, vs, ds, rfl, rfl, hp, l, nl⟩
    · cases r1 with
      | @lst a vs ds n h l =>
        cases e1
        refine .inl ⟨a, rfl, ⟨vs, SqL.of h⟩, res _ (fun A B H => ¬ B a ∧ H a = some (.lst vs) ∧ DpL g A B H vs ds) A1 B1 H1 t1 fm1.wo (itb_list _ fun A B H c => ⟨SqL.of c.2.1, c.2.2⟩) (stayS.of fun A B H A' B' H' m c => ?_) ⟨n, h, l⟩⟩
        exact ⟨(m.cell a _ c.1 c.2.1).2, (m.cell a _ c.1 c.2.1).1, DpL.mv m _ _ c.2.2⟩
      | @tup a vs ds n h l =>
        cases e1
        refine .inr (.inl ⟨a, rfl, ⟨vs, SqT.of h⟩, res _ (fun A B H => ¬ B a ∧ H a = some (.tup vs) ∧ DpL g A B H vs ds) A1 B1 H1 t1 fm1.wo (itb_tup _ fun A B H c => ⟨SqT.of c.2.1, c.2.2⟩) (stayS.of fun A B H A' B' H' m c => ?_) ⟨n, h, l⟩⟩)
        exact ⟨(m.cell a _ c.1 c.2.1).2, (m.cell a _ c.1 c.2.1).1, DpL.mv m _ _ c.2.2⟩
      | @tupK a vs ds h l =>
        cases e1
        exact .inr (.inl ⟨a, rfl, ⟨vs, .inr h⟩, res _ (fun A B H => DpL g A B H vs ds) A1 B1 H1 t1 fm1.wo (itb_tup _ fun A B H c => ⟨.inr h, c⟩) (stayS.of fun A B H A' B' H' m c => DpL.mv m _ _ c) l⟩)
      | str x =>
        cases e1
        exact .inr (.inr ⟨x, rfl, res _ (fun _ _ _ => True) A1 B1 H1 t1 fm1.wo itb_str (fun _ _ _ _ _ _ _ _ _ => trivial) trivial⟩)
      | @scr a ns n h =>
        cases e1
        refine .inl ⟨a, rfl, ⟨_, .inl h⟩, res _ (fun A B H => ¬ B a ∧ Rd H a (.lst (ns.map V.int))) A1 B1 H1 t1 fm1.wo (itb_list _ fun A B H c => ⟨.inl c.2, DpL.ints ns⟩) (stayS.of fun A B H A' B' H' m c => ?_) ⟨n, h⟩⟩
        obtain ⟨o, ho⟩ := Rd.some c.2
        exact ⟨(m.cell a o c.1 ho).2, Rd.up c.2 fun o ho => (m.cell a o c.1 ho).1⟩
      | @scrK a ns h =>
        cases e1
        exact .inl ⟨a, rfl, ⟨_, .inr h⟩, res _ (fun A B H => True) A1 B1 H1 t1 fm1.wo (itb_list _ fun A B H c => ⟨.inr h, DpL.ints ns⟩) (stayS.of fun A B H A' B' H' m c => trivial) trivial⟩
      | _ => cases e1
    · cases e1
      refine .inl ⟨p, rfl, ⟨vs, SqL.of hp⟩, res _ (fun A B H => ¬ Liv A p ∧ H p = some (.lst vs) ∧ DpL g A B H vs ds) A1 B1 H1 t1 fm1.wo (itb_list _ fun A B H c => ⟨SqL.of c.2.1, c.2.2⟩) (fun A B H A' B' H' hl t c => ?_) ⟨nl, hp, l⟩⟩
      refine ⟨fun z => ?_, t.keep p _ c.2.1 c.1, DpL.mv (t.mv hl) _ _ c.2.2⟩
      rcases t.new p z with z | z
      · exact c.1 z
      · have c2 : H p = some (.lst vs) := c.2.1
        rw [z] at c2; cases c2
/-- range(n), range(a, b) -/
def rng1 (d : D) : M (List D) := fun _ ω => match d with
  | .int j => if -(2 ^ 62) ≤ j ∧ j < 2 ^ 62 then some (.val (rangeD 0 j.toNat) ω) else none
  | _ => none
def rng2 (d d' : D) : M (List D) := fun _ ω => match d, d' with
  | .int i, .int j => if -(2 ^ 62) ≤ i ∧ i < 2 ^ 62 ∧ -(2 ^ 62) ≤ j ∧ j < 2 ^ 62 then some (.val (rangeD i (j - i).toNat) ω) else none
  | _, _ => none
theorem di_range1 {p pos : Pos} (hg : Gl X "range") (hm : X.mg "range" = none) (he : PE X e (tM g rD W f)) (hs : starEach [e] X.env = [(false, eval e X.env)] := by rfl) (hst : starEach [e] X.env = (false, eval e X.env) :: starEach [] X.env := by rfl) : PI X tg (.Call (.Name "range" p) [e] [] pos) (tI g W stayM (f.bind rng1)) :=
  (pi_range1 hg hm (pa_cons he pa_nil hst) hs).dl fun σ H Q ⟨H0, A, B, ρ, ω, r, fm, e, res⟩ => by
    refine tM_mono (tI_bind fm e res) fun x H1 ⟨A1, B1, ω1, d1, t1, fm1, r1, e1⟩ => ?_
    cases d1 with
    | int j =>
      simp only [rng1] at e1
      split at e1
      · rename_i h
        cases e1
        cases r1
        exact ⟨j, rfl, h.1, h.2, res _ (fun _ _ _ => True) A1 B1 H1 t1 fm1.wo itb_range (fun _ _ _ _ _ _ _ _ => trivial) trivial⟩
      · cases e1
    | _ => cases e1
theorem di_range2 {e2 : Expr} {f2 : M D} {p pos : Pos} (hg : Gl X "range") (hm : X.mg "range" = none) (he : PE X e (tM g rD W f)) (he2 : PE X e2 (tM g rD W f2)) (hs : starEach [e, e2] X.env = [(false, eval e X.env), (false, eval e2 X.env)] := by rfl) (hs2 : starEach [e2] X.env = [(false, eval e2 X.env)] := by rfl)
    (hst : starEach [e, e2] X.env = (false, eval e X.env) :: starEach [e2] X.env := by rfl) (hst2 : starEach [e2] X.env = (false, eval e2 X.env) :: starEach [] X.env := by rfl) : PI X tg (.Call (.Name "range" p) [e, e2] [] pos) (tI g W stayM (f.bind fun d => f2.bind fun d' => rng2 d d')) :=
  (pi_range2 hg hm (pa_cons he (pa_cons he2 pa_nil hst2) hst) hs hs2).dl fun σ H Q ⟨H0, A, B, ρ, ω, r, fm, e, res⟩ => by
    refine tM_mono (tI_bind fm e res) fun x H1 ⟨A1, B1, ω1, d1, t1, fm1, r1, e1⟩ => ?_
    have res1 : ResI g W σ A1 B1 H1 stayM Q r := by
      cases r with
      | val items ω' => exact fun J C A' B' H' t => res J C A' B' H' (t1.trans t)
      | exc x ω' => exact fun cls dd A' B' H' t => res cls dd A' B' H' (t1.trans t)
    refine tM_mono (tI_bind fm1 e1 res1) fun y H2 ⟨A2, B2, ω2, d2, t2, fm2, r2, e2⟩ => ?_
    cases d1 with
    | int i =>
      cases d2 with
      | int j =>
        simp only [rng2] at e2
        split at e2
        · rename_i h
          cases e2
          cases r1
          cases r2
          exact ⟨i, j, rfl, h, res1 _ (fun _ _ _ => True) A2 B2 H2 t2 fm2.wo itb_range (fun _ _ _ _ _ _ _ _ => trivial) trivial⟩
        · cases e2
      | _ => cases e2
    | _ => cases e2
end

/-! ### for -/
def forGo (T : TT1) (F : MS) : List D → MS
  | [] => fun ρ ω => some (.nx ρ ω)
  | d :: ds => fun ρ ω => match T d ρ ω with
    | none => none
    | some ρ1 => match F ρ1 ω with
      | some (.nx ρ2 ω2) => forGo T F ds ρ2 ω2
      | some (.ct ρ2 ω2) => forGo T F ds ρ2 ω2
      | some (.bk ρ2 ω2) => some (.bk ρ2 ω2)
      | r => r
/-- a break ends the loop -/
def unbk : Option RS → Option RS
  | some (.bk ρ ω) => some (.nx ρ ω)
  | r => r
def forS (src : M (List D)) (T : TT1) (F : MS) : MS := bindS src fun items ρ ω => unbk (forGo T F items ρ ω)
/-- for .. else: the else is run where no break came -/
def forE (src : M (List D)) (T : TT1) (F K : MS) : MS := bindS src fun items ρ ω => match forGo T F items ρ ω with
  | some (.nx ρ' ω') => K ρ' ω'
  | some (.bk ρ' ω') => some (.nx ρ' ω')
  | r => r
section
variable {X : Cx} {g : G} {n : En} {W : WX} {tg iter : Expr} {body orelse : List Stmt} {src : M (List D)} {T : TT1} {is : List Nat} {F K : MS} {pos : Pos}
theorem drop_cons {α : Type} : ∀ {l : List α} {i : Nat} {d : α}, l[i]? = some d → l.drop i = d :: l.drop (i + 1)
  | [], _, _, h => by simp at h
  | a :: l, 0, d, h => by simp at h; simp [h]
  | a :: l, i + 1, d, h => by
    have := drop_cons (l := l) (i := i) (d := d) (by simpa using h)
    simpa using this
/-- the turns of a loop -/
theorem tFor_go {J : It} {items : List D} {C : Cnd} {D : Ends} {u : St → Hp → Prop} {A : Ad} {B : Addr → Prop} {H : Hp} {σ : St} {ρ : Rho} {ω : List Cell} {r0 : RS} (ib : ItB g J items C) (hC : stayM C) (hCS : stayS C)
    (st : Stp n.A n.B n.H A B H) (fm : Fm g n.H A B H ω σ ρ) (c : C A B H) (e : forGo T F items ρ ω = some r0) (res : ResS g n W A B H { D with nx := u, bk := D.nx } r0) :
    ∃ Wi : Nat → Nat → St → Hp → Prop, (∃ m, Wi 0 m σ H) ∧ ∀ i m σ H, Wi i m σ H →
      (J.stop i H ∧ u σ H) ∨ (J.go i H ∧ ∃ N : St → Hp → Prop, (∀ σ' H', N σ' H' → ∃ m', m' < m ∧ Wi (i + 1) m' σ' H') ∧ ∀ x H', J.yld i H x H' → tGM g is T x σ H' fun σ2 H2 => tS g n W F { D with nx := N, ct := N, bk := D.nx } σ2 H2) := by
  refine ⟨fun i m σ H => m = items.length - i ∧ i ≤ items.length ∧ ∃ A B ρ ω, Stp n.A n.B n.H A B H ∧ Fm g n.H A B H ω σ ρ ∧ C A B H ∧ forGo T F (items.drop i) ρ ω = some r0 ∧ ResS g n W A B H { D with nx := u, bk := D.nx } r0, ⟨_, rfl, Nat.zero_le _, A, B, ρ, ω, st, fm, c, e, res⟩, ?_⟩
  rintro i m σ H ⟨rfl, hi, A, B, ρ, ω, st, fm, c, e, res⟩
  by_cases hlt : i < items.length
  · refine .inr ⟨ib.go A B H i c hlt, fun σ' H' => ∃ A B ρ ω, Stp n.A n.B n.H A B H' ∧ Fm g n.H A B H' ω σ' ρ ∧ C A B H' ∧ forGo T F (items.drop (i + 1)) ρ ω = some r0 ∧ ResS g n W A B H' { D with nx := u, bk := D.nx } r0, fun σ' H' p => ⟨_, by omega, rfl, hlt, p⟩, fun x H' y => ?_⟩
    obtain ⟨d, hd, t, w, dp⟩ := ib.yld A B H ω i x H' fm.wo c hlt y
    rw [drop_cons hd] at e
    unfold forGo at e
    cases qT : T d ρ ω with
    | none => simp only [qT] at e; cases e
    | some ρ1 =>
      simp only [qT] at e
      refine ⟨n.H, A, B, ρ, ω, d, ρ1, fm.up t w, dp, qT, fun σ2 fm2 _ => ?_⟩
      have c' : C A B H' := hCS A B H A B H' fm.wo.liv t c
      have m' : Mv A B H A B H' := fm.wo.mv t
      cases qF : F ρ1 ω with
      | none => simp only [qF] at e; cases e
      | some r =>
        simp only [qF] at e
        refine ⟨A, B, ρ1, ω, r, st.trans t, fm2, qF, ?_⟩
        cases r with
        | nx ρ2 ω2 => exact fun σ' A' B' H'' m s' fm' => ⟨A', B', ρ2, ω2, s', fm', hC _ _ _ _ _ _ m c', e, (res.mv m').mv m⟩
        | ct ρ2 ω2 => exact fun σ' A' B' H'' m s' fm' => ⟨A', B', ρ2, ω2, s', fm', hC _ _ _ _ _ _ m c', e, (res.mv m').mv m⟩
        | bk ρ2 ω2 => cases e; exact res.mv m'
        | rt d' ω2 => cases e; exact res
        | exc x' ρ2 ω2 => cases e; exact res.mv m'
  · have ei : i = items.length := by omega
    subst ei
    rw [List.drop_length] at e
    cases e
    exact .inl ⟨ib.stop A B H _ c (Nat.le_refl _), res.next (.refl _ _ _) st fm⟩
theorem tI_bindS {k : List D → MS} {D : Ends} {stay : Cnd → Prop} {A : Ad} {B : Addr → Prop} {H : Hp} {σ : St} {ρ : Rho} {ω : List Cell} {r : RS} (st : Stp n.A n.B n.H A B H) (fm : Fm g n.H A B H ω σ ρ) (e : bindS src k ρ ω = some r) (res : ResS g n W A B H D r) :
    tI g W stay src σ H (fun J H1 => ∃ A1 B1 ω1 items C, Mv A B H A1 B1 H1 ∧ Stp n.A n.B n.H A1 B1 H1 ∧ Fm g n.H A1 B1 H1 ω1 σ ρ ∧ ItB g J items C ∧ stay C ∧ C A1 B1 H1 ∧ k items ρ ω1 = some r ∧ ResS g n W A1 B1 H1 D r) := by
  unfold bindS at e
  cases q : src ρ ω with
  | none => rw [q] at e; cases e
  | some z =>
    rw [q] at e
    cases z with
    | exc x ω' =>
      cases e
      exact ⟨n.H, A, B, ρ, ω, _, fm, q, fun cls dd A' B' H' t w x => res cls dd σ A' B' H' (fm.wo.mv t) (st.trans t) (fm.up t w) x⟩
    | val items ω' => exact ⟨n.H, A, B, ρ, ω, _, fm, q, fun J C A1 B1 H1 t w ib s c => ⟨A1, B1, ω', items, C, fm.wo.mv t, st.trans t, fm.up t w, ib, s, c, e, res.mv (fm.wo.mv t)⟩⟩
theorem tI_mono {stay : Cnd → Prop} {σ : St} {H : Hp} {Q Q' : It → Hp → Prop} (h : tI g W stay src σ H Q) (i : ∀ J H', Q J H' → Q' J H') : tI g W stay src σ H Q' := by
  obtain ⟨H0, A, B, ρ, ω, r, fm, e, res⟩ := h
  refine ⟨H0, A, B, ρ, ω, r, fm, e, ?_⟩
  cases r with
  | val a ω' => exact fun J C A' B' H' t w ib s c => i J H' (res J C A' B' H' t w ib s c)
  | exc x ω' => exact res
theorem ds_for (hp : PassesOwn (model X.prog X.w) X.A X.env X.xe) (hc : X.calm = true) (hi : PI X tg iter (tI g W stayM src)) (hg : PG X tg (tGM g is T)) (hb : PSs X body (tS g n W F))
    (hs : ∀ x, foldedSetIterable iter X.env x = pure x := by intro _; rfl) : PS X (.For tg iter body [] pos) (tS g n W (forS src T F)) :=
  (ps_for hp hc hi hg hb hs).dl fun D σ H ⟨A, B, ρ, ω, r, s, fm, e, res⟩ => by
    refine tI_mono (tI_bindS s fm e res) fun J H1 ⟨A1, B1, ω1, items, C, m1, s1, fm1, ib, hC, c, e1, res1⟩ => ?_
    cases q : forGo T F items ρ ω1 with
    | none => simp only [q] at e1; cases e1
    | some r0 =>
      simp only [q] at e1
      refine tFor_go ib hC (.of hC) s1 fm1 c q ?_
      cases r0 with
      | nx ρ' ω' => cases e1; exact res1
      | bk ρ' ω' => cases e1; exact res1
      | ct ρ' ω' => cases e1; exact res1
      | rt d ω' => cases e1; exact res1
      | exc x ρ' ω' => cases e1; exact res1
theorem ds_forE (hp : PassesOwn (model X.prog X.w) X.A X.env X.xe) (hc : X.calm = true) (hi : PI X tg iter (tI g W stayM src)) (hg : PG X tg (tGM g is T)) (hb : PSs X body (tS g n W F)) (ho : PSs X orelse (tS g n W K))
    (hs : ∀ x, foldedSetIterable iter X.env x = pure x := by intro _; rfl) : PS X (.For tg iter body orelse pos) (tS g n W (forE src T F K)) :=
  (ps_forE hp hc hi hg hb ho hs).dl fun D σ H ⟨A, B, ρ, ω, r, s, fm, e, res⟩ => by
    refine tI_mono (tI_bindS s fm e res) fun J H1 ⟨A1, B1, ω1, items, C, m1, s1, fm1, ib, hC, c, e1, res1⟩ => ?_
    cases q : forGo T F items ρ ω1 with
    | none => simp only [q] at e1; cases e1
    | some r0 =>
      simp only [q] at e1
      refine tFor_go (D := D) (u := tS g n W K D) ib hC (.of hC) s1 fm1 c q ?_
      cases r0 with
      | nx ρ' ω' => exact fun σ' A' B' H' m s' fm' => ⟨A', B', ρ', ω', r, s', fm', e1, res1.mv m⟩
      | bk ρ' ω' => cases e1; exact res1
      | ct ρ' ω' => cases e1; exact res1
      | rt d ω' => cases e1; exact res1
      | exc x ρ' ω' => cases e1; exact res1
end

/-! ### while -/
def whileGo (t : M Bool) (F : MS) : Nat → MS
  | 0 => fun _ _ => none
  | k + 1 => fun ρ ω => match t ρ ω with
    | none => none
    | some (.exc x ω') => some (.exc x ρ ω')
    | some (.val false ω') => some (.nx ρ ω')
    | some (.val true ω') => match F ρ ω' with
      | some (.nx ρ2 ω2) => whileGo t F k ρ2 ω2
      | some (.ct ρ2 ω2) => whileGo t F k ρ2 ω2
      | some (.bk ρ2 ω2) => some (.nx ρ2 ω2)
      | r => r
section
variable {X : Cx} {g : G} {n : En} {W : WX} {c : Expr} {body : List Stmt} {t : M Bool} {F : MS} {pos : Pos}
theorem ds_while (k : Nat) (hp : PassesOwn (model X.prog X.w) X.A X.env X.xe) (hc : PT X c (tM g rB W t)) (hb : PSs X body (tS g n W F)) : PS X (.While c body [] pos) (tS g n W (whileGo t F k)) :=
  (ps_while hp hc hb).dl fun D σ H ⟨A, B, ρ, ω, r0, s, fm, e, res⟩ => by
    refine ⟨fun m σ H => ∃ A B ρ ω, Stp n.A n.B n.H A B H ∧ Fm g n.H A B H ω σ ρ ∧ whileGo t F m ρ ω = some r0 ∧ ResS g n W A B H D r0, ⟨k, A, B, ρ, ω, s, fm, e, res⟩, ?_⟩
    rintro m σ H ⟨A, B, ρ, ω, s, fm, e, res⟩
    cases m with
    | zero => cases e
    | succ k =>
      unfold whileGo at e
      cases q : t ρ ω with
      | none => simp only [q] at e; cases e
      | some z =>
        cases z with
        | exc x ω' =>
          simp only [q] at e
          cases e
          exact ⟨n.H, A, B, ρ, ω, _, fm, q, fun cls dd A' B' H' t w x => res cls dd σ A' B' H' (fm.wo.mv t) (s.trans t) (fm.up t w) x⟩
        | val b ω' =>
          refine ⟨n.H, A, B, ρ, ω, _, fm, q, fun v A1 B1 H1 t1 w1 rl => ?_⟩
          cases rl
          have m1 := fm.wo.mv t1
          have fm1 := fm.up t1 w1
          have s1 := s.trans t1
          cases b with
          | false =>
            rw [if_neg Bool.false_ne_true]
            simp only [q] at e
            cases e
            exact res.next m1 s1 fm1
          | true =>
            rw [if_pos rfl]
            simp only [q] at e
            refine ⟨fun σ' H' => ∃ A B ρ ω, Stp n.A n.B n.H A B H' ∧ Fm g n.H A B H' ω σ' ρ ∧ whileGo t F k ρ ω = some r0 ∧ ResS g n W A B H' D r0, fun σ' H' p => ⟨k, Nat.lt_succ_self _, p⟩, ?_⟩
            cases qF : F ρ ω' with
            | none => simp only [qF] at e; cases e
            | some r =>
              simp only [qF] at e
              refine ⟨A1, B1, ρ, ω', r, s1, fm1, qF, ?_⟩
              cases r with
              | nx ρ2 ω2 => exact fun σ' A' B' H'' m s' fm' => ⟨A', B', ρ2, ω2, s', fm', e, (res.mv m1).mv m⟩
              | ct ρ2 ω2 => exact fun σ' A' B' H'' m s' fm' => ⟨A', B', ρ2, ω2, s', fm', e, (res.mv m1).mv m⟩
              | bk ρ2 ω2 => cases e; exact res.mv m1
              | rt d' ω2 => cases e; exact res
              | exc x' ρ2 ω2 => cases e; exact res.mv m1
end
end DL
/-! DL7: comprehensions, defs, calls. -/
namespace DL
open PySem L2

/-! ### comprehensions -/
def wipeE (ρ : Rho) : List Nat → Rho
  | [] => ρ
  | v :: vs => (wipeE ρ vs).set v .no
def lcGo (vs : List Nat) (T : TT1) (t : M Bool) (f : M D) (ρ : Rho) : List D → List D → List Cell → Option (List D × List Cell)
  | [], acc, ω => some (acc, ω)
  | d :: ds, acc, ω => match T d (wipeE ρ vs) ω with
    | none => none
    | some ρ2 => match t ρ2 ω with
      | some (.val true ω1) => match f ρ2 ω1 with
        | some (.val y ω2) => if acc.length < sizeLine then lcGo vs T t f ρ ds (acc ++ [y]) ω2 else none
        | _ => none
      | some (.val false ω1) => lcGo vs T t f ρ ds acc ω1
      | _ => none
def lcM (vs : List Nat) (src : M (List D)) (T : TT1) (t : M Bool) (f : M D) : M (List D) := src.bind fun items ρ ω => match lcGo vs T t f ρ items [] ω with
  | some (ds, ω') => some (.val ds ω')
  | none => none
abbrev W0 : WX := fun _ _ _ _ => False
section
variable {g : G} {W : WX} {A A' : Ad} {B B' : Addr → Prop} {H H' H0 : Hp} {ω ω' : List Cell} {σ : St} {ρ : Rho}
theorem Slots.wipe (h : Slots g H0 A B H σ ρ) : ∀ vs : List Nat, Slots g H0 A B H (L2.wipe σ vs) (wipeE ρ vs)
  | [] => h
  | v :: vs => (h.wipe vs).drop
/-- a thing in B that is no slot's own changes -/
theorem Fm.bump {p : Addr} {o : HO} (h : Fm g H0 A B H ω σ ρ) (hb : B p) (nl : ¬ Liv A p) (no : ∀ (i : Nat) (ds : List D), ρ[i]? = some (.ow ds) → σ[i]? ≠ some (some (.ref p))) (hz : ∀ o u, H p ≠ some (.frz o u)) :
    Fm g H0 A B (upd H p o) ω σ ρ ∧ Mv A B H A B (upd H p o) := by
  have m : Mv A B H A B (upd H p o) := ⟨fun a u na e => ⟨by rw [upd_ne (fun z => na (by rw [z]; exact hb))]; exact e, na⟩, fun _ _ h => .inl h, frz_upd hz⟩
  refine ⟨⟨⟨h.wo.len, h.wo.inj, h.wo.liv, fun a ha => ?_, fun k c e => ?_⟩, ⟨h.sl.len, fun j s e => ?_, h.sl.own⟩⟩, m⟩
  · by_cases z : a = p
    · exact ⟨_, by rw [z]; exact upd_same⟩
    · obtain ⟨o, e⟩ := h.wo.bnd a ha
      exact ⟨o, by rw [upd_ne z]; exact e⟩
  · rcases h.wo.cell k c e with z | ⟨a, h1, h2⟩
    · exact .inl z
    · exact .inr ⟨a, h1, h2.mv m fun o q => by rw [upd_ne (fun z => nl (by rw [← z]; exact Liv.of h1))]; exact q⟩
  · have := h.sl.val j s e
    cases s with
    | no => trivial
    | ex p y => exact ⟨this.1, this.2.mv m⟩
    | fz d =>
      obtain ⟨v, e1, e2⟩ := this
      exact ⟨v, e1, Dp.mv m _ _ e2⟩
    | ow es =>
      obtain ⟨q, ws, e1, e2, e3, e4, e5, e6⟩ := this
      have npq : q ≠ p := fun z => no j es e (by rw [← z]; exact e1)
      exact ⟨q, ws, e1, by rw [upd_ne npq]; exact e2, DpL.mv m _ _ e3, e4, e5, e6⟩
/-- tests and elements as they are -/
theorem tM_val {α β : Type} {rel : Rl β α} {f : M α} {a : α} {Q : β → Hp → Prop} (fm : Fm g H0 A B H ω σ ρ) (e : f ρ ω = some (.val a ω')) (q : ∀ v A' B' H', Stp A B H A' B' H' → Wo g A' B' H' ω' → rel g A' B' H' v a → Q v H') : tM g rel W f σ H Q := ⟨H0, A, B, ρ, ω, _, fm, e, q⟩
theorem tLc_of {src : M (List D)} {T : TT1} {t : M Bool} {f : M D} {is vs : List Nat} (hv : ∀ i ∈ is, i ∈ vs) : ∀ σ H Q, tN g W (lcM vs src T t f) σ H Q → tLc (tI g W stayS src) (tGM g is T) (tM g rB W0 t) (tM g rD W0 f) vs σ H Q := by
  rintro σ H Q ⟨H0, A, B, ρ, ω, r, fm, e, res⟩
  unfold lcM M.bind at e
  cases q : src ρ ω with
  | none => rw [q] at e; cases e
  | some z =>
    rw [q] at e
    cases z with
    | exc x ω' =>
      cases e
      exact ⟨H0, A, B, ρ, ω, _, fm, q, res⟩
    | val items ω1 =>
      refine ⟨H0, A, B, ρ, ω, _, fm, q, fun J C A1 B1 H1 t1 w1 ib hC c => ?_⟩
      intro L hL
      simp only at e
      cases q2 : lcGo vs T t f ρ items [] ω1 with
      | none => simp only [q2] at e; cases e
      | some z =>
        obtain ⟨out, ω9⟩ := z
        simp only [q2] at e
        cases e
        have fm1 := fm.up t1 w1
        have hL0 : H L = none := t1.none hL
        have no : ∀ (i : Nat) (ds : List D), ρ[i]? = some (.ow ds) → σ[i]? ≠ some (some (.ref L)) := fun i ds ei z => by
          obtain ⟨p, ws, e1, e2, _⟩ := fm.sl.val i _ ei
          rw [z] at e1
          cases e1
          rw [hL0] at e2; cases e2
        refine ⟨fun i m H' => m = items.length - i ∧ i ≤ items.length ∧ ∃ A' B' ω' acc ws, Stp A1 B1 H1 A' B' H' ∧ Fm g H0 A' B' H' ω' σ ρ ∧ H' L = some (.lst ws) ∧ DpL g A' B' H' ws acc ∧ B' L ∧ ¬ Liv A' L ∧ lcGo vs T t f ρ (items.drop i) acc ω' = some (out, ω9),
          ⟨_, rfl, Nat.zero_le _, A1, _, ω1, [], [], (Stp.refl A1 B1 H1).alloc hL, fm1.up ((Stp.refl A1 B1 H1).alloc hL) (w1.plus hL), upd_same, .nil, .inr rfl, fun z => w1.nb hL (w1.liv L z), q2⟩, ?_⟩
        rintro i m H' ⟨rfl, hi, A', B', ω', acc, ws, s', fm', hLs, l, hb, nl, e⟩
        have c' : C A' B' H' := hC _ _ _ _ _ _ w1.liv s' c
        by_cases hlt : i < items.length
        · refine .inr ⟨ib.go A' B' H' i c' hlt, fun H' => ∃ A' B' ω' acc ws, Stp A1 B1 H1 A' B' H' ∧ Fm g H0 A' B' H' ω' σ ρ ∧ H' L = some (.lst ws) ∧ DpL g A' B' H' ws acc ∧ B' L ∧ ¬ Liv A' L ∧ lcGo vs T t f ρ (items.drop (i + 1)) acc ω' = some (out, ω9), fun H' p => ⟨_, by omega, rfl, hlt, p⟩, fun x H2 y => ?_⟩
          obtain ⟨d, hd, t2, w2, dp⟩ := ib.yld A' B' H' ω' i x H2 fm'.wo c' hlt y
          rw [drop_cons hd] at e
          unfold lcGo at e
          have fm2 := fm'.up t2 w2
          cases qT : T d (wipeE ρ vs) ω' with
          | none => simp only [qT] at e; cases e
          | some ρ2 =>
            simp only [qT] at e
            refine ⟨H0, A', B', wipeE ρ vs, ω', d, ρ2, ⟨fm2.wo, fm2.sl.wipe vs⟩, dp, qT, fun σ2 fm3 so => ⟨?_, ?_⟩⟩
            · rw [so.wipe hv]
              apply List.ext_getElem?
              intro j
              by_cases hj : j ∈ vs
              · rw [wipe_in hj, wipe_in hj, wipe_length]
              · rw [wipe_notin hj]
            cases qt : t ρ2 ω' with
            | none => simp only [qt] at e; cases e
            | some z =>
              cases z with
              | exc x ω5 => simp only [qt] at e; cases e
              | val b ω3 =>
                refine tM_val fm3 qt fun v A3 B3 H3 t3 w3 rl => ?_
                cases rl
                have fm4 := fm2.up t3 w3
                have fm4' := fm3.up t3 w3
                have hL3 : H3 L = some (.lst ws) := t3.keep L _ (t2.keep L _ hLs nl) nl
                have nl3 : ¬ Liv A3 L := fun z => by
                  rcases t3.new L z with z | z
                  · exact nl z
                  · rw [t2.keep L _ hLs nl] at z; cases z
                have hb3 : B3 L := (t3.old L _ (t2.keep L _ hLs nl) nl).mpr hb
                have l3 : DpL g A3 B3 H3 ws acc := DpL.mv (fm2.wo.mv t3) _ _ (DpL.mv (fm'.wo.mv t2) _ _ l)
                have s3 := (s'.trans t2).trans t3
                cases b with
                | false =>
                  rw [if_neg Bool.false_ne_true]
                  simp only [qt] at e
                  exact ⟨A3, B3, ω3, acc, ws, s3, fm4, hL3, l3, hb3, nl3, e⟩
                | true =>
                  rw [if_pos rfl]
                  simp only [qt] at e
                  cases qf : f ρ2 ω3 with
                  | none => simp only [qf] at e; cases e
                  | some z =>
                    cases z with
                    | exc x ω5 => simp only [qf] at e; cases e
                    | val y' ω5 =>
                      simp only [qf] at e
                      refine tM_val fm4' qf fun v A5 B5 H5 t5 w5 rl => ?_
                      split at e
                      · rename_i hz
                        have hL5 : H5 L = some (.lst ws) := t5.keep L _ hL3 nl3
                        have nl5 : ¬ Liv A5 L := fun z => by
                          rcases t5.new L z with z | z
                          · exact nl3 z
                          · rw [hL3] at z; cases z
                        have hb5 : B5 L := (t5.old L _ hL3 nl3).mpr hb3
                        have l5 : DpL g A5 B5 H5 ws acc := DpL.mv (fm4.wo.mv t5) _ _ l3
                        obtain ⟨fm6, m6⟩ := (fm4.up t5 w5).bump (o := .lst (ws ++ [v])) hb5 nl5 no (frz_not hL5)
                        refine ⟨ws, hL5, by rw [l5.length]; exact hz, A5, B5, ω5, acc ++ [y'], ws ++ [v], (s3.trans t5).own hL nl5, fm6, upd_same, DpL.mv m6 _ _ (l5.append (.cons rl .nil)), hb5, nl5, e⟩
                      · cases e
        · have ei : i = items.length := by omega
          subst ei
          rw [List.drop_length] at e
          cases e
          exact .inl ⟨ib.stop A' B' H' _ c' (Nat.le_refl _), res L ws A' B' H' (t1.trans s') fm'.wo hLs l hb nl hL0⟩
end
section
variable {X : Cx} {g : G} {n : En} {W : WX} {elt tg iter : Expr} {ifs : List Expr} {scope : Scope} {own : List (Str × Nat)} {src : M (List D)} {T : TT1} {t : M Bool} {f : M D} {is : List Nat} {pos spos py : Pos} {i : Nat} {y : Str}
theorem dts_nil : PTs X [] (tM g rB W (M.pure true)) := pts_nil.dl fun σ H Q ⟨H0, A, B, ρ, ω, r, fm, e, res⟩ => tM_pureB fm e res
theorem dts_one {c : Expr} (h : PT X c (tM g rB W t)) : PTs X [c] (tM g rB W t) := pts_one h
theorem dn_lc (hc : X.calm = true) (hN : X.N.Nodup) (hi : PI X tg iter (tI g W stayS src)) (ok : BlkOk X.N X.env.scope scope own) (hv : ∀ i ∈ is, i ∈ own.map (·.2))
    (hg : ∀ (s : Shared) (H : Hp) (C : Addr) (cl : List (Str × Addr)) (fp : List Addr), PG (X.blk s H scope (compEnvC scope cl C X.env) fp) tg (tGM g is T))
    (ht : ∀ (s : Shared) (H : Hp) (C : Addr) (cl : List (Str × Addr)) (fp : List Addr), PTs (X.blk s H scope (compEnvC scope cl C X.env) fp) ifs (tM g rB W0 t))
    (he : ∀ (s : Shared) (H : Hp) (C : Addr) (cl : List (Str × Addr)) (fp : List Addr), PE (X.blk s H scope (compEnvC scope cl C X.env) fp) elt (tM g rD W0 f)) (hs : ∀ x, foldedSetIterable iter X.env x = pure x := by intro _; rfl) :
    PE X (.ListComp elt [⟨tg, iter, ifs, 0⟩] scope pos) (tN g W (lcM (own.map (·.2)) src T t f)) :=
  (pe_lc hc hN hi ok hg ht he hs).dl (tLc_of hv)
theorem ds_setLcO (hc : X.calm = true) (hN : X.N.Nodup) (hy : X.N[i]? = some y) (hyl : X.env.scope.names.lookup y = some .local) (hsw : swapsWith (.ListComp elt [⟨tg, iter, ifs, 0⟩] scope pos) (some (.Name y py)) spos.line X.env = pure true)
    (hi : PI X tg iter (tI g W stayS src)) (ok : BlkOk X.N X.env.scope scope own) (hv : ∀ i ∈ is, i ∈ own.map (·.2))
    (hg : ∀ (s : Shared) (H : Hp) (C : Addr) (cl : List (Str × Addr)) (fp : List Addr), PG (X.blk s H scope (compEnvC scope cl C X.env) fp) tg (tGM g is T))
    (ht : ∀ (s : Shared) (H : Hp) (C : Addr) (cl : List (Str × Addr)) (fp : List Addr), PTs (X.blk s H scope (compEnvC scope cl C X.env) fp) ifs (tM g rB W0 t))
    (he : ∀ (s : Shared) (H : Hp) (C : Addr) (cl : List (Str × Addr)) (fp : List Addr), PE (X.blk s H scope (compEnvC scope cl C X.env) fp) elt (tM g rD W0 f)) (hs : ∀ x, foldedSetIterable iter X.env x = pure x := by intro _; rfl) :
    PS X (.Assign [.Name y py] (.ListComp elt [⟨tg, iter, ifs, 0⟩] scope pos) spos) (tS g n W (setO i (lcM (own.map (·.2)) src T t f))) :=
  (ps_setLc hc hN hy hyl hsw hi ok hg ht he hs).dl fun D σ H h => tLc_of hv σ H _ (tN_setO h)
theorem ds_setLc (hc : X.calm = true) (hN : X.N.Nodup) (hy : X.N[i]? = some y) (hyl : X.env.scope.names.lookup y = some .local) (hsw : swapsWith (.ListComp elt [⟨tg, iter, ifs, 0⟩] scope pos) (some (.Name y py)) spos.line X.env = pure true)
    (hi : PI X tg iter (tI g W stayS src)) (ok : BlkOk X.N X.env.scope scope own) (hv : ∀ i ∈ is, i ∈ own.map (·.2))
    (hg : ∀ (s : Shared) (H : Hp) (C : Addr) (cl : List (Str × Addr)) (fp : List Addr), PG (X.blk s H scope (compEnvC scope cl C X.env) fp) tg (tGM g is T))
    (ht : ∀ (s : Shared) (H : Hp) (C : Addr) (cl : List (Str × Addr)) (fp : List Addr), PTs (X.blk s H scope (compEnvC scope cl C X.env) fp) ifs (tM g rB W0 t))
    (he : ∀ (s : Shared) (H : Hp) (C : Addr) (cl : List (Str × Addr)) (fp : List Addr), PE (X.blk s H scope (compEnvC scope cl C X.env) fp) elt (tM g rD W0 f)) (hs : ∀ x, foldedSetIterable iter X.env x = pure x := by intro _; rfl) :
    PS X (.Assign [.Name y py] (.ListComp elt [⟨tg, iter, ifs, 0⟩] scope pos) spos) (tS g n W (setS i ((lcM (own.map (·.2)) src T t f).bind fun ds => M.pure (.lst ds)))) :=
  (ps_setLc hc hN hy hyl hsw hi ok hg ht he hs).dl fun D σ H ⟨A, B, ρ, ω, r, s, fm, e, res⟩ => by
    refine tLc_of hv σ H _ (tN_D σ H _ (tM_mono (tS_bind s fm e res) fun v H1 ⟨A1, B1, ω1, d, t1, m1, s1, fm1, r1, e1, res1⟩ => ?_))
    cases e1
    exact res1.next (.refl _ _ _) s1 (fm1.setF r1)
end

/-! ### defs -/
abbrev Fn := List D → List Cell → Option (R D)
def spD (g : G) (Gf : Fn) : Sp := fun vs H Q E => ∃ A B ω ds r, Wo g A B H ω ∧ DpL g A B H vs ds ∧ Gf ds ω = some r ∧ match r with
  | .val d ω' => ∀ v A' B' H', Stp A B H A' B' H' → Wo g A' B' H' ω' → Dp g A' B' H' v d → Q v H'
  | .exc x ω' => ∀ cls dd A' B' H', Stp A B H A' B' H' → Wo g A' B' H' ω' → XOk g A' B' H' cls dd x → E cls dd H'
def startE (N : List Str) (ds : List D) : Rho := ds.map Sl.fz ++ List.replicate (N.length - ds.length) Sl.no
theorem slots_start {g : G} {A : Ad} {B : Addr → Prop} {H H0 : Hp} {N : List Str} {vs : List V} {ds : List D} (l : DpL g A B H vs ds) : Slots g H0 A B H (start N vs) (startE N ds) := by
  refine ⟨by simp [L2.start, startE, l.length], fun i s e => ?_, fun i j xs ys p ei ej _ _ => ?_⟩
  · unfold startE at e
    unfold L2.start
    by_cases hi : i < ds.length
    · rw [List.getElem?_append_left (by simpa using hi), List.getElem?_map] at e
      rw [List.getElem?_append_left (by simpa [l.length] using hi), List.getElem?_map]
      cases q : ds[i]? with
      | none => rw [q] at e; cases e
      | some d =>
        rw [q] at e
        cases e
        obtain ⟨v, h1, h2⟩ := l.get q
        exact ⟨v, by rw [h1]; rfl, h2⟩
    · rw [List.getElem?_append_right (by simpa using Nat.le_of_not_lt hi), List.getElem?_replicate] at e
      split at e
      · cases e; trivial
      · cases e
  · exfalso
    unfold startE at ei
    by_cases hi : i < ds.length
    · rw [List.getElem?_append_left (by simpa using hi), List.getElem?_map] at ei
      cases q : ds[i]? with
      | none => rw [q] at ei; cases ei
      | some d => rw [q] at ei; cases ei
    · rw [List.getElem?_append_right (by simpa using Nat.le_of_not_lt hi), List.getElem?_replicate] at ei
      split at ei
      · cases ei
      · cases ei
/-- what a body comes to, as a call's result -/
def retOf : RS → Option (R D)
  | .rt d ω => some (.val d ω)
  | .nx _ ω => some (.val .non ω)
  | .exc x _ ω => some (.exc x ω)
  | _ => none
/-- the function that a body is -/
def fnOf (N : List Str) (k : Nat) (F : MS) : Fn := fun ds ω => if ds.length = k then (match F (startE N ds) ω with | some r => retOf r | none => none) else none
section
variable {P : Program} {w : World} {K : PySem.W.Frag} {mg : Str → Option Value} {base : Heap} {x qual : Str} {st : Stmt} {f : Addr} {fd : FuncData} {N ps : List Str} {k : Nat} {Gf : Fn} {F : MS}
/-- a def without exceptions -/
theorem fn_d (Fu : Fun K x qual st f fd) (S : FnScope N ps (defScope st)) (hl : ∀ ds ω r, Gf ds ω = some r → ds.length = ps.length)
    (body : ∀ (cdv : Value) (A : Around) (outer : List PySem.Env) (s : Shared) (H : Hp) (E : XK) (n : En), Room k (A.deeper (PyProof.Rows.envOfC qual (defScope st) s.heap.objs.size f cdv)) → PSs (cxOf CX0 P w K mg base N qual (defScope st) f cdv A outer s H E).nox (defBody st) (tS ⟨K, mg⟩ n W0 F))
    (hf : ∀ ds ω r, Gf ds ω = some r → ∃ d ω' rs, r = .val d ω' ∧ F (startE N ds) ω = some rs ∧ retOf rs = some r) : FnOk P w K mg base CX0 (k + 1) f fd ps (spD ⟨K, mg⟩ Gf) := by
  refine Fu.ok S (fun vs H Q E ⟨A, B, ω, ds, r, w, l, e, q⟩ => by rw [l.length]; exact hl ds ω r e) fun cdv A outer s H vs Q E hr ⟨Aa, B, ω, ds, r, wo, l, e, q⟩ => ?_
  refine ⟨_, body cdv A outer s H E ⟨Aa, B, H⟩ hr, ?_⟩
  obtain ⟨d, ω', rs, rfl, eF, er⟩ := hf ds ω r e
  refine ⟨Aa, B, startE N ds, ω, rs, .refl _ _ _, ⟨wo, slots_start l⟩, eF, ?_⟩
  cases rs with
  | rt d' ω2 =>
    cases er
    exact fun v A' B' H' t w dp => q v A' B' H' t w dp
  | nx ρ2 ω2 =>
    cases er
    exact fun σ' A' B' H' m t fm => q .non A' B' H' t fm.wo .non
  | exc x ρ2 ω2 => cases er
  | bk ρ2 ω2 => cases er
  | ct ρ2 ω2 => cases er
/-- a def that an exception may leave -/
theorem fn_x (Fu : Fun K x qual st f fd) (S : FnScope N ps (defScope st)) (hl : ∀ ds ω r, Gf ds ω = some r → ds.length = ps.length)
    (body : ∀ (cdv : Value) (A : Around) (outer : List PySem.Env) (s : Shared) (H : Hp) (E : XK) (n : En), Room k (A.deeper (PyProof.Rows.envOfC qual (defScope st) s.heap.objs.size f cdv)) → PSs (cxOf (L2.CX P w) P w K mg base N qual (defScope st) f cdv A outer s H E) (defBody st) (tS ⟨K, mg⟩ n (fun cls d _ H => E cls d H) F))
    (hf : ∀ ds ω r, Gf ds ω = some r → ∃ rs, F (startE N ds) ω = some rs ∧ retOf rs = some r) : FnOk P w K mg base (L2.CX P w) (k + 1) f fd ps (spD ⟨K, mg⟩ Gf) := by
  refine Fu.okX S (fun vs H Q E ⟨A, B, ω, ds, r, w, l, e, q⟩ => by rw [l.length]; exact hl ds ω r e) fun cdv A outer s H vs Q E hr ⟨Aa, B, ω, ds, r, wo, l, e, q⟩ => ?_
  refine ⟨_, body cdv A outer s H E ⟨Aa, B, H⟩ hr, ?_⟩
  obtain ⟨rs, eF, er⟩ := hf ds ω r e
  refine ⟨Aa, B, startE N ds, ω, rs, .refl _ _ _, ⟨wo, slots_start l⟩, eF, ?_⟩
  cases rs with
  | rt d' ω2 =>
    cases er
    exact fun v A' B' H' t w dp => q v A' B' H' t w dp
  | nx ρ2 ω2 =>
    cases er
    exact fun σ' A' B' H' m t fm => q .non A' B' H' t fm.wo .non
  | exc x ρ2 ω2 =>
    cases er
    exact fun cls dd σ' A' B' H' m t fm xo => q cls dd A' B' H' t fm.wo xo
  | bk ρ2 ω2 => cases er
  | ct ρ2 ω2 => cases er
/-- what raises nothing may stand where something may be raised -/
theorem FnOk.lift {k : Nat} {sp : Sp} (F : FnOk P w K mg base CX0 k f fd ps sp) : FnOk P w K mg base (L2.CX P w) k f fd ps sp :=
  ⟨F.len, fun A outer s H args us vs Q E hr he hb hv hs => codeAny_mono (F.run A outer s H args us vs Q E hr he hb hv hs) fun r s' h => by
    cases r with
    | error e => exact False.elim h
    | ok fl => cases fl <;> exact h⟩
end
section
variable {X : Cx} {g : G} {W : WX} {x : Str} {p pos : Pos} {e : Expr} {es : List Expr} {fs : M (List D)} {k : Nat} {f : Addr} {fd : FuncData} {ps : List Str} {Gf : Fn}
def callM (Gf : Fn) (ds : List D) : M D := fun _ ω => Gf ds ω
theorem tM_call : ∀ σ H Q, tM g rD W (fs.bind (callM Gf)) σ H Q → tCallS (spD g Gf) (WE W) (tM g rL W fs) σ H Q := by
  rintro σ H Q ⟨H0, A, B, ρ, ω, r, fm, e, res⟩
  refine tM_mono (tM_bind fm e res) fun vs H1 ⟨A1, B1, ω1, ds, t1, fm1, r1, e1, res1⟩ => ?_
  refine ⟨A1, B1, ω1, ds, r, fm1.wo, r1, e1, ?_⟩
  cases r with
  | val d ω' => exact fun v A' B' H' t w dp => res1 v A' B' H' t w dp
  | exc x ω' => exact fun cls dd A' B' H' t w xo => res1 cls dd A' B' H' t w xo
theorem de_call (tk : Takes X W) (F : FnOk X.prog X.w X.K X.mg X.base (L2.CX X.prog X.w) k f fd ps (spD g Gf)) (hr : Room k X.A) (hg : Gl X x) (hm : X.mg x = some (.ref f)) (hk : PySem.W.keepIn X.K (.ref f) = true) (hb : Binds X.K fd ps [])
    (ha : PA X (e :: es) (tM g rL W fs)) (hdb : (x == ("__debug__" : Str)) = false := by decide) (he : starEach (e :: es) X.env = (false, eval e X.env) :: starEach es X.env := by rfl) (hpl : (backTo pos (starEach es X.env)).any (·.1) = false := by rfl) :
    PE X (.Call (.Name x p) (e :: es) [] pos) (tM g rD W (fs.bind (callM Gf))) :=
  (pe_callS F hr hg hm hk hb (passAt tk) ha hdb he hpl).dl tM_call
theorem pe_callS0 {CX : CXT} {sp : Sp} {E : St → XK} (F : FnOk X.prog X.w X.K X.mg X.base CX k f fd ps sp) (hr : Room k X.A) (hg : Gl X x) (hm : X.mg x = some (.ref f)) (hk : PySem.W.keepIn X.K (.ref f) = true) (hb : Binds X.K fd ps []) (hx : ∀ σ, PassesAt CX X σ (E σ))
    (hdb : (x == ("__debug__" : Str)) = false := by decide) : PE X (.Call (.Name x p) [] [] pos) (tCallS sp E tNil) :=
  ⟨fun pins s σ H Q I h => wpAny_Call_Name_kw (ld_glob I hg hm (PySem.W.callWith_K0 I.kIn hk (run_fnS (us := []) F hr hb (hx σ) I .nil h)) hdb)⟩
theorem de_call0 (tk : Takes X W) (F : FnOk X.prog X.w X.K X.mg X.base (L2.CX X.prog X.w) k f fd ps (spD g Gf)) (hr : Room k X.A) (hg : Gl X x) (hm : X.mg x = some (.ref f)) (hk : PySem.W.keepIn X.K (.ref f) = true) (hb : Binds X.K fd ps [])
    (hdb : (x == ("__debug__" : Str)) = false := by decide) : PE X (.Call (.Name x p) [] [] pos) (tM g rD W ((M.pure []).bind (callM Gf))) :=
  (pe_callS0 F hr hg hm hk hb (passAt tk) hdb).dl fun σ H Q h => by
    obtain ⟨H0, A, B, ρ, ω, r, fm, e, res⟩ := tM_call σ H Q h
    cases e
    exact res [] A B H (.refl _ _ _) fm.wo .nil
end
end DL
/-! DL8: short forms. -/
namespace DL
open PySem L2
section
variable {X : Cx} {g : G} {n : En} {W : WX} {a b c e : Expr} {fa fb f : M D} {pos : Pos} {k : Nat}
theorem Room.u64 {A : Around} (hr : Room k A) : A.units + 64 < cLine := hr.units
theorem Room.u65 {A : Around} (hr : Room k A) : A.units + 65 < cLine := by have := hr.un; omega
theorem de_eq (hK : X.K = g.K) (hr : Room k X.A) (ha : PE X a (tM g rW W fa)) (hb : PE X b (tM g rW W fb)) : PE X (.Compare a [.Eq] [b] pos) (tM g rD W (bo eqD fa fb)) := de_cmp (op_eqD hr.units) (by rw [hK]; exact v_eq g) ha hb (nomark _)
theorem de_ne (hK : X.K = g.K) (hr : Room k X.A) (ha : PE X a (tM g rW W fa)) (hb : PE X b (tM g rW W fb)) : PE X (.Compare a [.NotEq] [b] pos) (tM g rD W (bo neD fa fb)) := de_cmp (op_neD hr.units) (by rw [hK]; exact v_ne g) ha hb (nomark _)
theorem de_lt (ha : PE X a (tM g rW W fa)) (hb : PE X b (tM g rW W fb)) : PE X (.Compare a [.Lt] [b] pos) (tM g rD W (bo ltD fa fb)) := de_cmp op_lt v_lt ha hb (nomark _)
theorem de_le (ha : PE X a (tM g rW W fa)) (hb : PE X b (tM g rW W fb)) : PE X (.Compare a [.LtE] [b] pos) (tM g rD W (bo leD fa fb)) := de_cmp op_le v_le ha hb (nomark _)
theorem de_gt (ha : PE X a (tM g rW W fa)) (hb : PE X b (tM g rW W fb)) : PE X (.Compare a [.Gt] [b] pos) (tM g rD W (bo gtD fa fb)) := de_cmp op_gt v_gt ha hb (nomark _)
theorem de_ge (ha : PE X a (tM g rW W fa)) (hb : PE X b (tM g rW W fb)) : PE X (.Compare a [.GtE] [b] pos) (tM g rD W (bo geD fa fb)) := de_cmp op_ge v_ge ha hb (nomark _)
theorem de_is (ha : PE X a (tM g rW W fa)) (hb : PE X b (tM g rW W fb)) : PE X (.Compare a [.Is] [b] pos) (tM g rD W (bo isN fa fb)) := de_cmp op_isN v_isN ha hb (nomark _)
theorem de_isnot (ha : PE X a (tM g rW W fa)) (hb : PE X b (tM g rW W fb)) : PE X (.Compare a [.IsNot] [b] pos) (tM g rD W (bo notN fa fb)) := de_cmp op_notN v_notN ha hb (nomark _)
theorem de_in (hK : X.K = g.K) (hr : Room k X.A) (ha : PE X a (tM g rW W fa)) (hb : PE X b (tM g rW W fb)) (hm : behindInMarks .In b = false := by rfl) : PE X (.Compare a [.In] [b] pos) (tM g rD W (bo inD fa fb)) := de_cmp (op_inA (Room.u65 hr)) (by rw [hK]; exact v_in g) ha hb hm
theorem de_notin (hK : X.K = g.K) (hr : Room k X.A) (ha : PE X a (tM g rW W fa)) (hb : PE X b (tM g rW W fb)) (hm : behindInMarks .NotIn b = false := by rfl) : PE X (.Compare a [.NotIn] [b] pos) (tM g rD W (bo notInD fa fb)) := de_cmp (op_notInA (Room.u65 hr)) (by rw [hK]; exact v_notIn g) ha hb hm
/-- tests -/
def tst (f : M D) : M Bool := f.bind asB
theorem dt_eq (hK : X.K = g.K) (hr : Room k X.A) (ha : PE X a (tM g rW W fa)) (hb : PE X b (tM g rW W fb)) : PT X (.Compare a [.Eq] [b] pos) (tM g rB W (tst (bo eqD fa fb))) := dt_cmp (op_eqD hr.units) (by rw [hK]; exact v_eq g) ha hb (nomark _)
theorem dt_ne (hK : X.K = g.K) (hr : Room k X.A) (ha : PE X a (tM g rW W fa)) (hb : PE X b (tM g rW W fb)) : PT X (.Compare a [.NotEq] [b] pos) (tM g rB W (tst (bo neD fa fb))) := dt_cmp (op_neD hr.units) (by rw [hK]; exact v_ne g) ha hb (nomark _)
theorem dt_lt (ha : PE X a (tM g rW W fa)) (hb : PE X b (tM g rW W fb)) : PT X (.Compare a [.Lt] [b] pos) (tM g rB W (tst (bo ltD fa fb))) := dt_cmp op_lt v_lt ha hb (nomark _)
theorem dt_le (ha : PE X a (tM g rW W fa)) (hb : PE X b (tM g rW W fb)) : PT X (.Compare a [.LtE] [b] pos) (tM g rB W (tst (bo leD fa fb))) := dt_cmp op_le v_le ha hb (nomark _)
theorem dt_gt (ha : PE X a (tM g rW W fa)) (hb : PE X b (tM g rW W fb)) : PT X (.Compare a [.Gt] [b] pos) (tM g rB W (tst (bo gtD fa fb))) := dt_cmp op_gt v_gt ha hb (nomark _)
theorem dt_ge (ha : PE X a (tM g rW W fa)) (hb : PE X b (tM g rW W fb)) : PT X (.Compare a [.GtE] [b] pos) (tM g rB W (tst (bo geD fa fb))) := dt_cmp op_ge v_ge ha hb (nomark _)
theorem dt_is (ha : PE X a (tM g rW W fa)) (hb : PE X b (tM g rW W fb)) : PT X (.Compare a [.Is] [b] pos) (tM g rB W (tst (bo isN fa fb))) := dt_cmp op_isN v_isN ha hb (nomark _)
theorem dt_isnot (ha : PE X a (tM g rW W fa)) (hb : PE X b (tM g rW W fb)) : PT X (.Compare a [.IsNot] [b] pos) (tM g rB W (tst (bo notN fa fb))) := dt_cmp op_notN v_notN ha hb (nomark _)
theorem dt_in (hK : X.K = g.K) (hr : Room k X.A) (ha : PE X a (tM g rW W fa)) (hb : PE X b (tM g rW W fb)) (hm : behindInMarks .In b = false := by rfl) : PT X (.Compare a [.In] [b] pos) (tM g rB W (tst (bo inD fa fb))) := dt_cmp (op_inA (Room.u65 hr)) (by rw [hK]; exact v_in g) ha hb hm
theorem dt_notin (hK : X.K = g.K) (hr : Room k X.A) (ha : PE X a (tM g rW W fa)) (hb : PE X b (tM g rW W fb)) (hm : behindInMarks .NotIn b = false := by rfl) : PT X (.Compare a [.NotIn] [b] pos) (tM g rB W (tst (bo notInD fa fb))) := dt_cmp (op_notInA (Room.u65 hr)) (by rw [hK]; exact v_notIn g) ha hb hm
def truM (f : M D) : M Bool := f.bind tru
theorem dt_truth (hK : X.K = g.K) (ha : PE X a (tM g rW W fa)) (he : ∀ whole, isTrue a X.env whole = (do let v ← whole; standAt a.pos; holding [v] (truthy v)) := by intro _; rfl) : PT X a (tM g rB W (truM fa)) := dt_tru hK ha he
/-- a, b = e -/
def asgS (f : M D) (T : TT1) : MS := bindS f fun d ρ ω => match T d ρ ω with
  | some ρ' => some (.nx ρ' ω)
  | none => none
theorem ds_asg {tg : Expr} {is : List Nat} {T : TT1} (he : PE X e (tM g rD W f)) (hg : PG X tg (tGM g is T)) (hs : swapsWithSole [tg] e pos.line X.env = pure false := by rfl) (hw : swappedStores [tg] e X.env = pure none := by rfl)
    (h1 : (assignEach [tg] X.env).map (·.2) = [assign tg X.env] := by rfl) : PS X (.Assign [tg] e pos) (tS g n W (asgS f T)) :=
  (ps_asg he hg hs hw h1).dl fun D σ H ⟨A, B, ρ, ω, r, s, fm, e, res⟩ => by
    refine tM_mono (tS_bind s fm e res) fun v H1 ⟨A1, B1, ω1, d, t1, m1, s1, fm1, r1, e1, res1⟩ => ?_
    cases q : T d ρ ω1 with
    | none => simp only [q] at e1; cases e1
    | some ρ' =>
      simp only [q] at e1
      cases e1
      exact ⟨_, A1, B1, ρ, ω1, d, ρ', fm1, r1, q, fun σ' fm' _ => res1.next (.refl _ _ _) s1 fm'⟩
end

/-! ### defs by name -/
structure FT (K : PySem.W.Frag) (mg : Str → Option Value) (x : Str) (st : Stmt) : Prop where
  ex : ∃ a fd, mg x = some (.ref a) ∧ Fun K x x st a fd
structure Cal (P : Program) (w : World) (K : PySem.W.Frag) (mg : Str → Option Value) (base : Heap) (x : Str) (ps : List Str) (k : Nat) (Gf : Fn) : Prop where
  ex : ∃ a fd, mg x = some (.ref a) ∧ PySem.W.keepIn K (.ref a) = true ∧ Binds K fd ps [] ∧ FnOk P w K mg base (L2.CX P w) k a fd ps (spD ⟨K, mg⟩ Gf)
theorem Cal.mono {P : Program} {w : World} {K : PySem.W.Frag} {mg : Str → Option Value} {base : Heap} {x : Str} {ps : List Str} {k j : Nat} {Gf : Fn} (c : Cal P w K mg base x ps k Gf) (h : k ≤ j) : Cal P w K mg base x ps j Gf := by
  obtain ⟨a, fd, h1, h2, h3, h4⟩ := c.ex
  exact ⟨a, fd, h1, h2, h3, h4.mono h⟩
theorem Cal.imp {P : Program} {w : World} {K : PySem.W.Frag} {mg : Str → Option Value} {base : Heap} {x : Str} {ps : List Str} {k : Nat} {Gf Gf' : Fn} (c : Cal P w K mg base x ps k Gf) (h : ∀ ds ω r, Gf' ds ω = some r → Gf ds ω = some r) : Cal P w K mg base x ps k Gf' := by
  obtain ⟨a, fd, h1, h2, h3, h4⟩ := c.ex
  refine ⟨a, fd, h1, h2, h3, h4.imp fun vs H Q E ⟨A, B, ω, ds, r, w, l, e, q⟩ => ⟨A, B, ω, ds, r, w, l, h ds ω r e, q⟩⟩
theorem cal_of {P : Program} {w : World} {K : PySem.W.Frag} {mg : Str → Option Value} {base : Heap} {x : Str} {st : Stmt} {ps : List Str} {k : Nat} {Gf : Fn} (T : FT K mg x st) (b : ∀ a fd, Fun K x x st a fd → Binds K fd ps [])
    (h : ∀ a fd, Fun K x x st a fd → FnOk P w K mg base (L2.CX P w) k a fd ps (spD ⟨K, mg⟩ Gf)) : Cal P w K mg base x ps k Gf := by
  obtain ⟨a, fd, h1, F⟩ := T.ex
  exact ⟨a, fd, h1, F.kp, b a fd F, h a fd F⟩
section
variable {X : Cx} {W : WX} {x : Str} {p pos : Pos} {e : Expr} {es : List Expr} {fs : M (List D)} {k j : Nat} {ps : List Str} {Gf : Fn}
def calM (Gf : Fn) (fs : M (List D)) : M D := fs.bind (callM Gf)
theorem de_fn (tk : Takes X W) (c : Cal X.prog X.w X.K X.mg X.base x ps k Gf) (hr : Room j X.A) (hj : k ≤ j) (hg : Gl X x) (ha : PA X (e :: es) (tM ⟨X.K, X.mg⟩ rL W fs)) (hdb : (x == ("__debug__" : Str)) = false := by decide)
    (he : starEach (e :: es) X.env = (false, eval e X.env) :: starEach es X.env := by rfl) (hpl : (backTo pos (starEach es X.env)).any (·.1) = false := by rfl) : PE X (.Call (.Name x p) (e :: es) [] pos) (tM ⟨X.K, X.mg⟩ rD W (calM Gf fs)) := by
  obtain ⟨a, fd, h1, h2, h3, h4⟩ := c.ex
  exact de_call tk h4 (hr.mono hj) hg h1 h2 h3 ha hdb he hpl
theorem de_fn0 (tk : Takes X W) (c : Cal X.prog X.w X.K X.mg X.base x ps k Gf) (hr : Room j X.A) (hj : k ≤ j) (hg : Gl X x) (hdb : (x == ("__debug__" : Str)) = false := by decide) : PE X (.Call (.Name x p) [] [] pos) (tM ⟨X.K, X.mg⟩ rD W (calM Gf (M.pure []))) := by
  obtain ⟨a, fd, h1, h2, h3, h4⟩ := c.ex
  exact de_call0 tk h4 (hr.mono hj) hg h1 h2 h3 hdb
end
end DL
/-! DL9: functions by plain functions; evaluation of readings. -/
namespace DL
open PySem L2

/-- a def that makes «out x» of «enc x», where «pre x» -/
noncomputable def mkFn {α : Type} (enc : α → List D) (pre : α → Prop) (out : α → D) : Fn := fun ds ω =>
  open Classical in if h : ∃ x, ds = enc x ∧ pre x then some (.val (out (Classical.choose h)) ω) else none
theorem mkFn_eq {α : Type} {enc : α → List D} {pre : α → Prop} {out : α → D} (inj : ∀ x y, enc x = enc y → x = y) {x : α} {ω : List Cell} (hx : pre x) : mkFn enc pre out (enc x) ω = some (.val (out x) ω) := by
  have h : ∃ y, enc x = enc y ∧ pre y := ⟨x, rfl, hx⟩
  unfold mkFn
  rw [dif_pos h]
  have e := (Classical.choose_spec h).1
  rw [← inj _ _ e]
theorem mkFn_some {α : Type} {enc : α → List D} {pre : α → Prop} {out : α → D} {ds : List D} {ω : List Cell} {r : R D} (h : mkFn enc pre out ds ω = some r) : ∃ x, ds = enc x ∧ pre x ∧ r = .val (out x) ω := by
  unfold mkFn at h
  split at h
  · rename_i q
    cases h
    exact ⟨_, (Classical.choose_spec q).1, (Classical.choose_spec q).2, rfl⟩
  · cases h
/-- what a def's theorem asks, by such a function -/
theorem hf_mk {α : Type} {enc : α → List D} {pre : α → Prop} {out : α → D} {F : MS} {N : List Str} {k : Nat} (hl : ∀ x, (enc x).length = k) (h : ∀ x ω, pre x → ∃ rs, F (startE N (enc x)) ω = some rs ∧ retOf rs = some (.val (out x) ω)) :
    ∀ ds ω r, mkFn enc pre out ds ω = some r → ds.length = k ∧ ∃ d ω' rs, r = .val d ω' ∧ F (startE N ds) ω = some rs ∧ retOf rs = some r := fun ds ω r e => by
  obtain ⟨x, rfl, hx, rfl⟩ := mkFn_some e
  obtain ⟨rs, h1, h2⟩ := h x ω hx
  exact ⟨hl x, _, _, rs, rfl, h1, h2⟩
theorem callM_mk {α : Type} {enc : α → List D} {pre : α → Prop} {out : α → D} (inj : ∀ x y, enc x = enc y → x = y) {x : α} {ρ : Rho} {ω : List Cell} (hx : pre x) : callM (mkFn enc pre out) (enc x) ρ ω = some (.val (out x) ω) := by
  unfold callM
  rw [mkFn_eq inj hx]

/-! ### evaluation -/
section
variable {α β : Type} {ρ : Rho} {ω ω1 ω2 : List Cell} {f : M α} {k : α → M β} {a : α}
theorem pure_ev : M.pure a ρ ω = some (.val a ω) := rfl
theorem bind_ev (h : f ρ ω = some (.val a ω1)) : (f.bind k) ρ ω = k a ρ ω1 := by unfold M.bind; rw [h]
theorem bindS_ev {s : α → MS} (h : f ρ ω = some (.val a ω1)) : bindS f s ρ ω = s a ρ ω1 := by unfold bindS; rw [h]
theorem bo_ev {g : D → D → Option D} {fa fb : M D} {x y x' y' z : D} (h1 : fa ρ ω = some (.val x ω1)) (h2 : fb ρ ω1 = some (.val y ω2)) (v1 : view ω2 x = some x') (v2 : view ω2 y = some y') (h : g x' y' = some z) : bo g fa fb ρ ω = some (.val z ω2) := by
  unfold bo
  rw [bind_ev h1, bind_ev h2]
  unfold op2
  simp only [v1, v2, h]
theorem uo_ev {g : D → Option D} {fa : M D} {x x' z : D} (h1 : fa ρ ω = some (.val x ω1)) (v1 : view ω1 x = some x') (h : g x' = some z) : uo g fa ρ ω = some (.val z ω1) := by
  unfold uo
  rw [bind_ev h1]
  unfold op1
  simp only [v1, h]
theorem mulD_r {i j : Int} (h1 : -(18446744073709551616) < j) (h2 : j < 18446744073709551616) : mulD (.int i) (.int j) = some (.int (i * j)) := mulD_int (.inr ⟨h1, h2⟩)
theorem mulD_l {i j : Int} (h1 : -(18446744073709551616) < i) (h2 : i < 18446744073709551616) : mulD (.int i) (.int j) = some (.int (i * j)) := mulD_int (.inl ⟨h1, h2⟩)
theorem fdivD_r {i j : Int} (h1 : 0 < j) (h2 : j < 1073741824) : fdivD (.int i) (.int j) = some (.int (i / j)) := fdivD_int ⟨h1, h2⟩
end

theorem rng1_nat {n : Nat} {ρ : Rho} {ω : List Cell} (h : n ≤ 16777216) : rng1 (.int (n : Int)) ρ ω = some (.val (rangeD 0 n) ω) := by
  unfold rng1
  simp only
  rw [if_pos (by omega)]
  simp
theorem rng1_int {i : Int} {ρ : Rho} {ω : List Cell} (h0 : 0 ≤ i) (h : i ≤ 16777216) : rng1 (.int i) ρ ω = some (.val (rangeD 0 i.toNat) ω) := by
  unfold rng1
  simp only
  rw [if_pos (by omega)]
theorem rangeD_get {lo : Int} {n i : Nat} {d : D} (h : (rangeD lo n)[i]? = some d) : i < n ∧ d = .int (lo + i) := by
  unfold rangeD at h
  rw [List.getElem?_map] at h
  by_cases hi : i < n
  · rw [List.getElem?_range hi] at h
    cases h
    exact ⟨hi, rfl⟩
  · rw [List.getElem?_eq_none (by simpa using Nat.le_of_not_lt hi)] at h
    cases h
theorem rangeD_len (lo : Int) (n : Nat) : (rangeD lo n).length = n := by simp [rangeD]
theorem atI_some {α : Type} {xs : List α} {k : Int} {x : α} (h0 : 0 ≤ k) (h : xs[k.toNat]? = some x) : atI xs k = some x := by
  have := atI_nat h
  rwa [Int.toNat_of_nonneg h0] at this
theorem seqS_nx {F K : MS} {ρ ρ' : Rho} {ω ω' : List Cell} (h : F ρ ω = some (.nx ρ' ω')) : seqS F K ρ ω = K ρ' ω' := by unfold seqS; rw [h]
theorem seqS_rt {F K : MS} {ρ : Rho} {ω ω' : List Cell} {d : D} (h : F ρ ω = some (.rt d ω')) : seqS F K ρ ω = some (.rt d ω') := by unfold seqS; rw [h]
theorem forS_nx {src : M (List D)} {T : TT1} {F : MS} {items : List D} {ρ ρ' : Rho} {ω ω1 ω' : List Cell} (h1 : src ρ ω = some (.val items ω1)) (h2 : forGo T F items ρ ω1 = some (.nx ρ' ω')) : forS src T F ρ ω = some (.nx ρ' ω') := by
  unfold forS; rw [bindS_ev h1, h2]; rfl
theorem forS_rt {src : M (List D)} {T : TT1} {F : MS} {items : List D} {ρ : Rho} {ω ω1 ω' : List Cell} {d : D} (h1 : src ρ ω = some (.val items ω1)) (h2 : forGo T F items ρ ω1 = some (.rt d ω')) : forS src T F ρ ω = some (.rt d ω') := by
  unfold forS; rw [bindS_ev h1, h2]; rfl
theorem forS_bk {src : M (List D)} {T : TT1} {F : MS} {items : List D} {ρ ρ' : Rho} {ω ω1 ω' : List Cell} (h1 : src ρ ω = some (.val items ω1)) (h2 : forGo T F items ρ ω1 = some (.bk ρ' ω')) : forS src T F ρ ω = some (.nx ρ' ω') := by
  unfold forS; rw [bindS_ev h1, h2]; rfl
theorem ifS_t {t : M Bool} {F K : MS} {ρ : Rho} {ω ω' : List Cell} (h : t ρ ω = some (.val true ω')) : ifS t F K ρ ω = F ρ ω' := by unfold ifS; rw [bindS_ev h, if_pos rfl]
theorem ifS_f {t : M Bool} {F K : MS} {ρ : Rho} {ω ω' : List Cell} (h : t ρ ω = some (.val false ω')) : ifS t F K ρ ω = K ρ ω' := by unfold ifS; rw [bindS_ev h, if_neg Bool.false_ne_true]
/-! ### loops -/
/-- a for: what holds between the turns, and what holds where it is left on the way -/
theorem forGo_inv {T : TT1} {F : MS} (Pv : Nat → Rho → List Cell → Prop) (Lv : RS → Prop) : ∀ (items : List D) (i : Nat) (ρ : Rho) (ω : List Cell), Pv i ρ ω →
    (∀ (j : Nat) (d : D) (ρ : Rho) (ω : List Cell), items[j]? = some d → Pv (i + j) ρ ω → ∃ ρ1 r, T d ρ ω = some ρ1 ∧ F ρ1 ω = some r ∧ match r with
      | .nx ρ2 ω2 => Pv (i + j + 1) ρ2 ω2
      | .ct ρ2 ω2 => Pv (i + j + 1) ρ2 ω2
      | r => Lv r) →
    ∃ r, forGo T F items ρ ω = some r ∧ ((∃ ρ' ω', r = .nx ρ' ω' ∧ Pv (i + items.length) ρ' ω') ∨ Lv r)
  | [], i, ρ, ω, h0, _ => ⟨_, rfl, .inl ⟨ρ, ω, rfl, h0⟩⟩
  | d :: ds, i, ρ, ω, h0, hs => by
    obtain ⟨ρ1, r, h1, h2, h3⟩ := hs 0 d ρ ω rfl h0
    have next : ∀ ρ2 ω2, Pv (i + 1) ρ2 ω2 → ∃ r, forGo T F ds ρ2 ω2 = some r ∧ ((∃ ρ' ω', r = .nx ρ' ω' ∧ Pv (i + (d :: ds).length) ρ' ω') ∨ Lv r) := fun ρ2 ω2 p => by
      obtain ⟨r', e', q'⟩ := forGo_inv Pv Lv ds (i + 1) ρ2 ω2 p fun j d' ρ ω hj hp => by
        have := hs (j + 1) d' ρ ω (by simpa using hj) (by rw [show i + (j + 1) = i + 1 + j by omega]; exact hp)
        rw [show i + (j + 1) = i + 1 + j by omega] at this
        exact this
      refine ⟨r', e', ?_⟩
      rw [show i + (d :: ds).length = i + 1 + ds.length by simp; omega]
      exact q'
    unfold forGo
    simp only [h1, h2]
    cases r with
    | nx ρ2 ω2 => exact next ρ2 ω2 h3
    | ct ρ2 ω2 => exact next ρ2 ω2 h3
    | bk ρ2 ω2 => exact ⟨_, rfl, .inr h3⟩
    | rt d ω2 => exact ⟨_, rfl, .inr h3⟩
    | exc x ρ2 ω2 => exact ⟨_, rfl, .inr h3⟩
/-- .. where it is never left -/
theorem forGo_thru {T : TT1} {F : MS} (Pv : Nat → Rho → List Cell → Prop) {items : List D} {ρ : Rho} {ω : List Cell} (h0 : Pv 0 ρ ω)
    (hs : ∀ (j : Nat) (d : D) (ρ : Rho) (ω : List Cell), items[j]? = some d → Pv j ρ ω → ∃ ρ1 ρ2 ω2, T d ρ ω = some ρ1 ∧ F ρ1 ω = some (.nx ρ2 ω2) ∧ Pv (j + 1) ρ2 ω2) :
    ∃ ρ' ω', forGo T F items ρ ω = some (.nx ρ' ω') ∧ Pv items.length ρ' ω' := by
  obtain ⟨r, e, h⟩ := forGo_inv Pv (fun _ => False) items 0 ρ ω h0 fun j d ρ ω hj hp => by
    obtain ⟨ρ1, ρ2, ω2, h1, h2, h3⟩ := hs j d ρ ω hj (by simpa using hp)
    exact ⟨ρ1, _, h1, h2, by simpa using h3⟩
  rcases h with ⟨ρ', ω', rfl, p⟩ | h
  · exact ⟨ρ', ω', e, by simpa using p⟩
  · exact h.elim
/-- a comprehension whose tests and elements are plain: out of each item -/
theorem lcGo_pure {vs : List Nat} {T : TT1} {t : M Bool} {f : M D} {ρ : Rho} {ω : List Cell} (p : D → Bool) (h : D → D) : ∀ (items acc : List D), acc.length + items.length ≤ sizeLine →
    (∀ d ∈ items, ∃ ρ2, T d (wipeE ρ vs) ω = some ρ2 ∧ t ρ2 ω = some (.val (p d) ω) ∧ (p d = true → f ρ2 ω = some (.val (h d) ω))) →
    lcGo vs T t f ρ items acc ω = some (acc ++ (items.filter p).map h, ω)
  | [], acc, _, _ => by simp [lcGo]
  | d :: ds, acc, hz, hs => by
    obtain ⟨ρ2, h1, h2, h3⟩ := hs d List.mem_cons_self
    simp only [List.length_cons] at hz
    unfold lcGo
    simp only [h1, h2]
    cases e : p d with
    | false =>
      simp only
      rw [lcGo_pure p h ds acc (by omega) fun d hd => hs d (List.mem_cons_of_mem _ hd)]
      simp [e]
    | true =>
      simp only [h3 e]
      rw [if_pos (by omega), lcGo_pure p h ds (acc ++ [h d]) (by simp; omega) fun d hd => hs d (List.mem_cons_of_mem _ hd)]
      simp [e]
theorem lcM_pure {vs : List Nat} {src : M (List D)} {T : TT1} {t : M Bool} {f : M D} {ρ : Rho} {ω ω1 : List Cell} {items : List D} (p : D → Bool) (h : D → D) (hsrc : src ρ ω = some (.val items ω1)) (hz : items.length ≤ sizeLine)
    (hs : ∀ d ∈ items, ∃ ρ2, T d (wipeE ρ vs) ω1 = some ρ2 ∧ t ρ2 ω1 = some (.val (p d) ω1) ∧ (p d = true → f ρ2 ω1 = some (.val (h d) ω1))) :
    lcM vs src T t f ρ ω = some (.val ((items.filter p).map h) ω1) := by
  unfold lcM
  rw [bind_ev hsrc]
  rw [lcGo_pure p h items [] (by simpa using hz) hs]
  simp
/-- .. over encoded things -/
theorem lcM_enc {α : Type} {vs : List Nat} {src : M (List D)} {T : TT1} {t : M Bool} {f : M D} {ρ : Rho} {ω ω1 : List Cell} {xs : List α} (enc : α → D) (p : α → Bool) (h : α → D) (hsrc : src ρ ω = some (.val (xs.map enc) ω1)) (hz : xs.length ≤ sizeLine)
    (hs : ∀ x ∈ xs, ∃ ρ2, T (enc x) (wipeE ρ vs) ω1 = some ρ2 ∧ t ρ2 ω1 = some (.val (p x) ω1) ∧ (p x = true → f ρ2 ω1 = some (.val (h x) ω1))) :
    lcM vs src T t f ρ ω = some (.val ((xs.filter p).map h) ω1) := by
  have go : ∀ (xs : List α) (acc : List D), acc.length + xs.length ≤ sizeLine → (∀ x ∈ xs, ∃ ρ2, T (enc x) (wipeE ρ vs) ω1 = some ρ2 ∧ t ρ2 ω1 = some (.val (p x) ω1) ∧ (p x = true → f ρ2 ω1 = some (.val (h x) ω1))) →
      lcGo vs T t f ρ (xs.map enc) acc ω1 = some (acc ++ (xs.filter p).map h, ω1) := by
    intro xs
    induction xs with
    | nil => intro acc _ _; simp [lcGo]
    | cons x xs ih =>
      intro acc hz hs
      obtain ⟨ρ2, h1, h2, h3⟩ := hs x List.mem_cons_self
      simp only [List.length_cons] at hz
      rw [List.map_cons]
      unfold lcGo
      simp only [h1, h2]
      cases e : p x with
      | false =>
        simp only
        rw [ih acc (by omega) fun d hd => hs d (List.mem_cons_of_mem _ hd)]
        simp [e]
      | true =>
        simp only [h3 e]
        rw [if_pos (by omega), ih (acc ++ [h x]) (by simp; omega) fun d hd => hs d (List.mem_cons_of_mem _ hd)]
        simp [e]
  unfold lcM
  rw [bind_ev hsrc]
  rw [go xs [] (by simpa using hz) hs]
  simp
end DL
/-! DL10: objects. -/
namespace DL
open PySem L2

/-! ### fields -/
section
variable {g : G} {A A' : Ad} {B B' : Addr → Prop} {H H' : Hp}
theorem DpF.look {f : Str} {d : D} : ∀ {fs : List (Str × D)} {vs : List (Str × V)}, DpF g A B H vs fs → fs.lookup f = some d → ∃ v, vs.lookup f = some v ∧ Dp g A B H v d
  | [], _, h, e => by cases e
  | (k, x) :: fs, _, h, e => by
    cases h with
    | @cons k v vs d' ds h1 h2 =>
      rw [List.lookup_cons] at e ⊢
      cases q : f == k with
      | true =>
        rw [q] at e
        cases e
        exact ⟨v, rfl, h1⟩
      | false =>
        rw [q] at e
        exact DpF.look h2 e
theorem DpF.no {f : Str} : ∀ {fs : List (Str × D)} {vs : List (Str × V)}, DpF g A B H vs fs → fs.lookup f = none → vs.lookup f = none
  | [], _, h, e => by cases h; rfl
  | (k, x) :: fs, _, h, e => by
    cases h with
    | @cons k v vs d' ds h1 h2 =>
      rw [List.lookup_cons] at e ⊢
      cases q : f == k with
      | true => rw [q] at e; cases e
      | false =>
        rw [q] at e
        exact DpF.no h2 e
theorem DpF.len : ∀ {fs : List (Str × D)} {vs : List (Str × V)}, DpF g A B H vs fs → vs.length = fs.length
  | [], _, h => by cases h; rfl
  | (k, x) :: fs, _, h => by cases h with | cons h1 h2 => simp [DpF.len h2]
def putD (f : Str) (d : D) : List (Str × D) → List (Str × D)
  | [] => [(f, d)]
  | (k, x) :: r => if k = f then (k, d) :: r else (k, x) :: putD f d r
theorem DpF.put {f : Str} {v : V} {d : D} (h : Dp g A B H v d) : ∀ {fs : List (Str × D)} {vs : List (Str × V)}, DpF g A B H vs fs → DpF g A B H (putF f v vs) (putD f d fs)
  | [], _, l => by cases l; exact .cons h .nil
  | (k, x) :: fs, _, l => by
    cases l with
    | @cons k v' vs d' ds h1 h2 =>
      unfold putF putD
      split
      · exact .cons h h2
      · exact .cons h1 (DpF.put h h2)
end
/-- a class with the plain reading of f -/
def ClF (K : PySem.W.Frag) (mg : Str → Option Value) (c f : Str) : Prop := ∃ C, mg c = some (.ref C) ∧ Cls K C ∧ NoAttr K C f
def ClFs (K : PySem.W.Frag) (mg : Str → Option Value) (f : Str) : List Str → Prop
  | [] => True
  | c :: cs => ClF K mg c f ∧ ClFs K mg f cs
theorem ClFs.at {K : PySem.W.Frag} {mg : Str → Option Value} {f c : Str} : ∀ {cs : List Str}, ClFs K mg f cs → cs.contains c = true → ClF K mg c f
  | [], _, e => by cases e
  | d :: cs, h, e => by
    simp only [List.contains_cons, Bool.or_eq_true] at e
    rcases e with e | e
    · rw [eq_of_beq e]; exact h.1
    · exact ClFs.at h.2 e
def fldD (cs : List Str) (f : Str) : D → Option D
  | .obj c fs => if cs.contains c = true then fs.lookup f else none
  | _ => none
section
variable {X : Cx} {g : G} {n : En} {W : WX} {e o value : Expr} {fa fo fv : M D} {f : Str} {pos pos' : Pos} {cs : List Str}
theorem v_fld (hC : ClFs g.K g.mg f cs) : V1 g (fun x H Q => ∃ a C dx fs v, x = .ref a ∧ H a = some (.ins C dx fs) ∧ Cls g.K C ∧ NoAttr g.K C f ∧ fs.lookup f = some v ∧ Q v H) (fldD cs f) := by
  intro A B H ω x a c Q w ha e q
  cases a with
  | obj k fs =>
    simp only [fldD] at e
    split at e
    · rename_i hk
      obtain ⟨a, C, dx, vs, rfl, hp, hm, l⟩ := ha
      obtain ⟨C', h1, h2, h3⟩ := hC.at hk
      rw [hm] at h1
      cases h1
      obtain ⟨v, hv, dv⟩ := l.look e
      exact ⟨a, C, dx, vs, v, rfl, hp, h2, h3, hv, q.now w dv⟩
    · cases e
  | _ => cases e
theorem de_fld (hK : X.K = g.K) (hC : ClFs g.K g.mg f cs) (ha : PE X e (tM g rW W fa)) (hb : attributeBase e f X.env (eval e X.env) = eval e X.env := by rfl) : PE X (.Attribute e f pos) (tM g rD W (uo (fldD cs f) fa)) :=
  (pe_fld ha hb).dl fun σ H Q h => by
    rw [hK]
    exact tM_op1 (v_fld hC) σ H Q h
/-- o.f = e, o in the store -/
def fldS (cs : List Str) (f : Str) (fo fv : M D) : MS := bindS fv fun d => bindS fo fun o ρ ω => match o with
  | .oid k => match ω[k]? with
    | some (.obj c fs) => if cs.contains c = true ∧ fs.length < 1000 then some (.nx ρ (ω.set k (.obj c (putD f d fs)))) else none
    | _ => none
  | _ => none
/-- a thing of the store is written -/
theorem Fm.cellW {A : Ad} {B : Addr → Prop} {H H0 : Hp} {ω : List Cell} {σ : St} {ρ : Rho} {k : Nat} {a : Addr} {u : HO} {c : Cell} (h : Fm g H0 A B H ω σ ρ) (ha : A[k]? = some (some a)) (hz : ∀ o u, H a ≠ some (.frz o u)) (ok : ∀ H', (∀ b o, b ≠ a → H b = some o → H' b = some o) → H' a = some u → Mv A B H A B H' → CellOk g A B H' a c) :
    Fm g H0 A B (upd H a u) (ω.set k c) σ ρ ∧ Mv A B H A B (upd H a u) := by
  have hb : B a := h.wo.liv a (Liv.of ha)
  have m : Mv A B H A B (upd H a u) := ⟨fun b o nb e => ⟨by rw [upd_ne (fun z => nb (by rw [z]; exact hb))]; exact e, nb⟩, fun _ _ h => .inl h, frz_upd hz⟩
  refine ⟨⟨⟨by rw [List.length_set]; exact h.wo.len, h.wo.inj, h.wo.liv, fun b hb' => ?_, fun j c' e => ?_⟩, ⟨h.sl.len, fun j s e => ?_, h.sl.own⟩⟩, m⟩
  · by_cases z : b = a
    · exact ⟨_, by rw [z]; exact upd_same⟩
    · obtain ⟨o, e⟩ := h.wo.bnd b hb'
      exact ⟨o, by rw [upd_ne z]; exact e⟩
  · rcases getElem?_set_cases e with ⟨rfl, hl, rfl⟩ | ⟨ne, e⟩
    · exact .inr ⟨a, ha, ok _ (fun b o nb e => by rw [upd_ne nb]; exact e) upd_same m⟩
    · rcases h.wo.cell j c' e with z | ⟨b, h1, h2⟩
      · exact .inl z
      · exact .inr ⟨b, h1, h2.mv m fun o q => by rw [upd_ne (fun z => ne (h.wo.inj k j a ha (by rw [← z]; exact h1)))]; exact q⟩
  · have := h.sl.val j s e
    cases s with
    | no => trivial
    | ex p y => exact ⟨this.1, this.2.mv m⟩
    | fz d =>
      obtain ⟨v, e1, e2⟩ := this
      exact ⟨v, e1, Dp.mv m _ _ e2⟩
    | ow es =>
      obtain ⟨q, ws, e1, e2, e3, e4, e5, e6⟩ := this
      exact ⟨q, ws, e1, by rw [upd_ne (fun z => e5 (by rw [z]; exact Liv.of ha))]; exact e2, DpL.mv m _ _ e3, e4, e5, e6⟩
/-- .. seen from the entry -/
theorem Stp.cellW {A0 A : Ad} {B0 B : Addr → Prop} {H0 H : Hp} {a : Addr} {u : HO} (s : Stp A0 B0 H0 A B H) (ha : Liv A a) (hz : ∀ o u, H a ≠ some (.frz o u)) : Stp A0 B0 H0 A B (upd H a u) := by
  have nl : ∀ b o, H0 b = some o → ¬ Liv A0 b → b ≠ a := fun b o e n z => by
    rcases s.new a ha with h | h
    · exact n (by rw [z]; exact h)
    · rw [← z, e] at h; cases h
  refine ⟨fun b o e n => by rw [upd_ne (nl b o e n)]; exact s.keep b o e n, s.old, s.new, s.ids, fun b o e => ?_, fun b o u e => frz_upd hz b o u (s.frz b o u e)⟩
  obtain ⟨v, q⟩ := s.trk b o e
  by_cases z : b = a
  · exact ⟨_, by rw [z]; exact upd_same⟩
  · exact ⟨v, by rw [upd_ne z]; exact q⟩
theorem ds_fld (hK : X.K = g.K) (hC : ClFs g.K g.mg f cs) (ho : PE X o (tM g rD W fo)) (hv : PE X value (tM g rD W fv)) (hs : swapsWith value (some (.Attribute o f pos')) pos.line X.env = pure false := by rfl) : PS X (.Assign [.Attribute o f pos'] value pos) (tS g n W (fldS cs f fo fv)) :=
  (ps_fld ho hv hs).dl fun D σ H ⟨A, B, ρ, ω, r, s, fm, e, res⟩ => by
    refine tM_mono (tS_bind s fm e res) fun y H1 ⟨A1, B1, ω1, d, t1, m1, s1, fm1, r1, e1, res1⟩ => ?_
    refine tM_mono (tS_bind s1 fm1 e1 res1) fun x H2 ⟨A2, B2, ω2, d2, t2, m2, s2, fm2, r2, e2, res2⟩ => ?_
    cases d2 with
    | oid k =>
      simp only at e2
      cases q : ω2[k]? with
      | none => simp only [q] at e2; cases e2
      | some c =>
        cases c with
        | obj c fs =>
          simp only [q] at e2
          split at e2
          · rename_i hz
            cases e2
            have hcell : ∃ a, x = .ref a ∧ A2[k]? = some (some a) ∧ CellOk g A2 B2 H2 a (.obj c fs) := by
              rcases fm2.wo.cell k _ q with ⟨z, _⟩ | ⟨a, ha, ok⟩
              · cases z
              · cases r2 with
                | oid e => rw [ha] at e; cases e; exact ⟨a, rfl, ha, ok⟩
                | ded e => rw [ha] at e; cases e
            obtain ⟨a, rfl, ha, C, dx, vs, hp, hm, l⟩ := hcell
            obtain ⟨C', h1, h2, h3⟩ := hC.at hz.1
            rw [hm] at h1
            cases h1
            refine ⟨a, C, dx, vs, rfl, hp, by rw [hK]; exact h2, by rw [hK]; exact h3, by rw [l.len]; exact hz.2, ?_⟩
            have dy : Dp g A2 B2 H2 y d := Dp.mv (fm1.wo.mv t2) _ _ r1
            obtain ⟨fm3, m3⟩ := fm2.cellW (u := .ins C dx (putF f y vs)) (c := .obj c (putD f d fs)) ha (frz_not hp) fun H' _ hu m => ⟨C, dx, _, hu, hm, DpF.mv m _ _ (l.put dy)⟩
            exact res2.next m3 (s2.cellW (Liv.of ha) (frz_not hp)) fm3
          · cases e2
        | _ => simp only [q] at e2; cases e2
    | _ => cases e2
end
end DL
/-! DL11: things made, methods. -/
namespace DL
open PySem L2

mutual
/-- the store's things in d stand below n -/
def bel (n : Nat) : D → Prop
  | .tup ds => belL n ds
  | .lst ds => belL n ds
  | .dic ds => belK n ds
  | .obj _ fs => belF n fs
  | .oid k => k < n
  | .non => True
  | .bl _ => True
  | .int _ => True
  | .str _ => True
  | .scr _ => True
def belL (n : Nat) : List D → Prop
  | [] => True
  | d :: ds => bel n d ∧ belL n ds
def belK (n : Nat) : List (Key × D) → Prop
  | [] => True
  | (_, d) :: ds => bel n d ∧ belK n ds
def belF (n : Nat) : List (Str × D) → Prop
  | [] => True
  | (_, d) :: ds => bel n d ∧ belF n ds
end
mutual
/-- none of the store's things in d -/
def noO : D → Bool
  | .tup ds => noOL ds
  | .lst ds => noOL ds
  | .dic ds => noOK ds
  | .obj _ fs => noOF fs
  | .oid _ => false
  | .non => true
  | .bl _ => true
  | .int _ => true
  | .str _ => true
  | .scr _ => true
def noOL : List D → Bool
  | [] => true
  | d :: ds => noO d && noOL ds
def noOK : List (Key × D) → Bool
  | [] => true
  | (_, d) :: ds => noO d && noOK ds
def noOF : List (Str × D) → Bool
  | [] => true
  | (_, d) :: ds => noO d && noOF ds
end
mutual
theorem noO_bel {n : Nat} : ∀ d : D, noO d = true → bel n d
  | .tup ds, h => by simp only [bel]; exact noOL_bel ds (by simpa [noO] using h)
  | .lst ds, h => by simp only [bel]; exact noOL_bel ds (by simpa [noO] using h)
  | .dic ds, h => by simp only [bel]; exact noOK_bel ds (by simpa [noO] using h)
  | .obj c ds, h => by simp only [bel]; exact noOF_bel ds (by simpa [noO] using h)
  | .oid k, h => by simp [noO] at h
  | .non, _ => by simp [bel]
  | .bl _, _ => by simp [bel]
  | .int _, _ => by simp [bel]
  | .str _, _ => by simp [bel]
  | .scr _, _ => by simp [bel]
theorem noOL_bel {n : Nat} : ∀ ds : List D, noOL ds = true → belL n ds
  | [], _ => trivial
  | d :: ds, h => by
    simp only [noOL, Bool.and_eq_true] at h
    exact ⟨noO_bel d h.1, noOL_bel ds h.2⟩
theorem noOK_bel {n : Nat} : ∀ ds : List (Key × D), noOK ds = true → belK n ds
  | [], _ => trivial
  | (_, d) :: ds, h => by
    simp only [noOK, Bool.and_eq_true] at h
    exact ⟨noO_bel d h.1, noOK_bel ds h.2⟩
theorem noOF_bel {n : Nat} : ∀ ds : List (Str × D), noOF ds = true → belF n ds
  | [], _ => trivial
  | (_, d) :: ds, h => by
    simp only [noOF, Bool.and_eq_true] at h
    exact ⟨noO_bel d h.1, noOF_bel ds h.2⟩
end
section
variable {g : G} {A A' : Ad} {B B' : Addr → Prop} {H H' : Hp}
mutual
theorem Dp.bel : ∀ (d : D) (v : V), Dp g A B H v d → bel A.length d
  | .tup ds, _, h => by
    simp only [DL.bel]
    obtain ⟨a, vs, _, _, l⟩ := Dp.seq h
    exact DpL.bel ds vs l
  | .lst ds, _, h => by
    simp only [DL.bel]
    cases h with | lst _ _ l => exact DpL.bel ds _ l
  | .dic ds, _, h => by
    simp only [DL.bel]
    cases h with | dic _ _ l => exact DpK.bel ds _ l
  | .obj c ds, _, h => by
    simp only [DL.bel]
    cases h with | obj _ _ _ l => exact DpF.bel ds _ l
  | .oid k, _, h => by
    simp only [DL.bel]
    cases h with
    | oid e => exact (List.getElem?_eq_some_iff.mp e).1
    | ded e => exact (List.getElem?_eq_some_iff.mp e).1
  | .non, _, _ => by simp [DL.bel]
  | .bl _, _, _ => by simp [DL.bel]
  | .int _, _, _ => by simp [DL.bel]
  | .str _, _, _ => by simp [DL.bel]
  | .scr _, _, _ => by simp [DL.bel]
theorem DpL.bel : ∀ (ds : List D) (vs : List V), DpL g A B H vs ds → belL A.length ds
  | [], _, _ => trivial
  | d :: ds, _, h => by cases h with | cons h1 h2 => exact ⟨Dp.bel d _ h1, DpL.bel ds _ h2⟩
theorem DpK.bel : ∀ (ds : List (Key × D)) (vs : List (Key × V)), DpK g A B H vs ds → belK A.length ds
  | [], _, _ => trivial
  | (_, d) :: ds, _, h => by cases h with | cons h1 h2 => exact ⟨Dp.bel d _ h1, DpK.bel ds _ h2⟩
theorem DpF.bel : ∀ (ds : List (Str × D)) (vs : List (Str × V)), DpF g A B H vs ds → belF A.length ds
  | [], _, _ => trivial
  | (_, d) :: ds, _, h => by cases h with | cons h1 h2 => exact ⟨Dp.bel d _ h1, DpF.bel ds _ h2⟩
end
mutual
/-- the store is cut -/
theorem Dp.cut {n : Nat} (hB : ∀ a, B' a → B a) : ∀ (d : D) (v : V), bel n d → Dp g A B H v d → Dp g (A.take n) B' H v d
  | .tup ds, _, b, h => by
    simp only [DL.bel] at b
    cases h with
    | tup x y l => exact .tup (fun z => x (hB _ z)) y (DpL.cut hB ds _ b l)
    | tupK x l => exact .tupK x (DpL.cut hB ds _ b l)
  | .lst ds, _, b, h => by
    simp only [DL.bel] at b
    cases h with | lst x y l => exact .lst (fun z => x (hB _ z)) y (DpL.cut hB ds _ b l)
  | .dic ds, _, b, h => by
    simp only [DL.bel] at b
    cases h with | dic x y l => exact .dic (fun z => x (hB _ z)) y (DpK.cut hB ds _ b l)
  | .obj c ds, _, b, h => by
    simp only [DL.bel] at b
    cases h with | obj x y z l => exact .obj (fun z => x (hB _ z)) y z (DpF.cut hB ds _ b l)
  | .oid k, _, b, h => by
    simp only [DL.bel] at b
    cases h with
    | oid e => exact .oid (by rw [List.getElem?_take, if_pos b]; exact e)
    | ded e => exact .ded (by rw [List.getElem?_take, if_pos b]; exact e)
  | .non, _, _, h => by cases h; exact .non
  | .bl _, _, _, h => by cases h; exact .bl _
  | .int _, _, _, h => by cases h; exact .int _
  | .str _, _, _, h => by cases h; exact .str _
  | .scr _, _, _, h => by
    cases h with
    | scr x y => exact .scr (fun z => x (hB _ z)) y
    | scrK x => exact .scrK x
theorem DpL.cut {n : Nat} (hB : ∀ a, B' a → B a) : ∀ (ds : List D) (vs : List V), belL n ds → DpL g A B H vs ds → DpL g (A.take n) B' H vs ds
  | [], _, _, h => by cases h; exact .nil
  | d :: ds, _, b, h => by cases h with | cons h1 h2 => exact .cons (Dp.cut hB d _ b.1 h1) (DpL.cut hB ds _ b.2 h2)
theorem DpK.cut {n : Nat} (hB : ∀ a, B' a → B a) : ∀ (ds : List (Key × D)) (vs : List (Key × V)), belK n ds → DpK g A B H vs ds → DpK g (A.take n) B' H vs ds
  | [], _, _, h => by cases h; exact .nil
  | (_, d) :: ds, _, b, h => by cases h with | cons h1 h2 => exact .cons (Dp.cut hB d _ b.1 h1) (DpK.cut hB ds _ b.2 h2)
theorem DpF.cut {n : Nat} (hB : ∀ a, B' a → B a) : ∀ (ds : List (Str × D)) (vs : List (Str × V)), belF n ds → DpF g A B H vs ds → DpF g (A.take n) B' H vs ds
  | [], _, _, h => by cases h; exact .nil
  | (_, d) :: ds, _, b, h => by cases h with | cons h1 h2 => exact .cons (Dp.cut hB d _ b.1 h1) (DpF.cut hB ds _ b.2 h2)
end
def belC (n : Nat) : Cell → Prop
  | .dead => True
  | .lst ds => belL n ds
  | .dic ds => belK n ds
  | .obj _ fs => belF n fs
  | .ldc ds => belK n ds
theorem CellOk.bel {a : Addr} {c : Cell} (h : CellOk g A B H a c) : belC A.length c := by
  cases c with
  | dead => trivial
  | lst ds => obtain ⟨vs, _, l⟩ := h; exact DpL.bel _ _ l
  | dic ds => obtain ⟨vs, _, l⟩ := h; exact DpK.bel _ _ l
  | obj c fs => obtain ⟨_, _, vs, _, _, l⟩ := h; exact DpF.bel _ _ l
  | ldc ds => obtain ⟨o, vs, _, l⟩ := h; exact DpK.bel _ _ l
theorem CellOk.cut {n : Nat} {a : Addr} {c : Cell} (hB : ∀ a, B' a → B a) (b : belC n c) (h : CellOk g A B H a c) : CellOk g (A.take n) B' H a c := by
  cases c with
  | dead => exact h
  | lst ds => obtain ⟨vs, e, l⟩ := h; exact ⟨vs, e, DpL.cut hB _ _ b l⟩
  | dic ds => obtain ⟨vs, e, l⟩ := h; exact ⟨vs, e, DpK.cut hB _ _ b l⟩
  | obj c fs => obtain ⟨C, dx, vs, e, m, l⟩ := h; exact ⟨C, dx, vs, e, m, DpF.cut hB _ _ b l⟩
  | ldc ds => obtain ⟨o, vs, e, l⟩ := h; exact ⟨o, vs, e, DpK.cut hB _ _ b l⟩
theorem Wo.bel {ω : List Cell} {k : Nat} {c : Cell} (w : Wo g A B H ω) (e : ω[k]? = some c) : belC ω.length c := by
  rcases w.cell k c e with ⟨rfl, _⟩ | ⟨a, _, h⟩
  · trivial
  · rw [← w.len]; exact h.bel
end

/-! ### a thing is made -/
/-- __init__ as what it makes of the arguments -/
def initFn (c : Str) (I : List D → Option (List (Str × D))) : Fn := fun ds ω => match ds with
  | .oid k :: ds => match ω[k]? with
    | some (.obj c' []) => if c' = c then (match I ds with | some fs => some (.val .non (ω.set k (.obj c fs))) | none => none) else none
    | _ => none
  | _ => none
def mkO (c : Str) (I : List D → Option (List (Str × D))) (ds : List D) : M D := fun _ ω => match I ds with
  | some fs => if noOF fs = true then some (.val (.obj c fs) ω) else none
  | none => none
structure CalI (P : Program) (w : World) (K : PySem.W.Frag) (mg : Str → Option Value) (base : Heap) (c : Str) (ps : List Str) (k : Nat) (I : List D → Option (List (Str × D))) : Prop where
  ex : ∃ C f fd, mg c = some (.ref C) ∧ Mk K C f ∧ Binds K fd ps [] ∧ FnOk P w K mg base (L2.CX P w) k f fd ps (spD ⟨K, mg⟩ (initFn c I))
section
variable {g : G} {A A' : Ad} {B B' : Addr → Prop} {H H' H0 : Hp} {ω ω' : List Cell}
/-- a new thing of the store -/
theorem store_new {x dx C : Addr} {c : Str} (w : Wo g A B H ω) (hx : H x = none) (hd : H dx = none) (ne : dx ≠ x) (hm : g.mg c = some (.ref C)) :
    Stp A B H (A ++ [some x]) (fun a => B a ∨ a = x) (upd (upd H dx (.own x)) x (.ins C dx [])) ∧ Wo g (A ++ [some x]) (fun a => B a ∨ a = x) (upd (upd H dx (.own x)) x (.ins C dx [])) (ω ++ [.obj c []]) := by
  have old : ∀ b o, H b = some o → upd (upd H dx (.own x)) x (.ins C dx []) b = some o := fun b o e => by
    rw [upd_ne (ne_of_none e hx), upd_ne (ne_of_none e hd)]; exact e
  have nlx : ¬ Liv A x := fun z => by
    obtain ⟨o, e⟩ := w.bnd x (w.liv x z)
    rw [hx] at e; cases e
  have st : Stp A B H (A ++ [some x]) (fun a => B a ∨ a = x) (upd (upd H dx (.own x)) x (.ins C dx [])) := by
    refine ⟨fun a o e _ => old a o e, fun a o e _ => ⟨fun z => z.elim id fun z => (ne_of_none e hx z).elim, .inl⟩, fun a z => ?_, fun k y e => .inl ?_, fun a o e => ⟨o, old a o e⟩, fun a o u e => old a _ e⟩
    · rcases List.mem_append.mp z with z | z
      · exact .inl z
      · have : a = x := by simpa using z
        exact .inr (by rw [this]; exact hx)
    · rw [List.getElem?_append_left (List.getElem?_eq_some_iff.mp e).1]; exact e
  have m : Mv A B H (A ++ [some x]) (fun a => B a ∨ a = x) (upd (upd H dx (.own x)) x (.ins C dx [])) := w.mv st
  refine ⟨st, ⟨by simp [w.len], fun i j a ei ej => ?_, fun a z => ?_, fun a z => ?_, fun k c' e => ?_⟩⟩
  · have fix : ∀ (i : Nat) (a : Addr), (A ++ [some x])[i]? = some (some a) → (A[i]? = some (some a)) ∨ (i = A.length ∧ a = x) := fun i a e => by
      by_cases h : i < A.length
      · rw [List.getElem?_append_left h] at e; exact .inl e
      · rw [List.getElem?_append_right (Nat.le_of_not_lt h)] at e
        have hi : i - A.length = 0 := by
          cases q : i - A.length with
          | zero => rfl
          | succ n => rw [q] at e; simp at e
        rw [hi] at e
        have : x = a := by simpa using e
        exact .inr ⟨by omega, this.symm⟩
    rcases fix i a ei with h1 | ⟨h1, h2⟩
    · rcases fix j a ej with h3 | ⟨h3, h4⟩
      · exact w.inj i j a h1 h3
      · exact (nlx (by rw [← h4]; exact Liv.of h1)).elim
    · rcases fix j a ej with h3 | ⟨h3, h4⟩
      · exact (nlx (by rw [← h2]; exact Liv.of h3)).elim
      · rw [h1, h3]
  · rcases List.mem_append.mp z with z | z
    · exact .inl (w.liv a z)
    · exact .inr (by simpa using z)
  · rcases z with z | z
    · obtain ⟨o, e⟩ := w.bnd a z
      exact ⟨o, old a o e⟩
    · exact ⟨_, by rw [z]; exact upd_same⟩
  · by_cases h : k < ω.length
    · rw [List.getElem?_append_left h] at e
      rcases w.cell k c' e with ⟨h1, h2⟩ | ⟨a, h1, h2⟩
      · exact .inl ⟨h1, by rw [List.getElem?_append_left (by rw [w.len]; exact h)]; exact h2⟩
      · exact .inr ⟨a, by rw [List.getElem?_append_left (by rw [w.len]; exact h)]; exact h1, h2.mv m fun o e => old a o e⟩
    · rw [List.getElem?_append_right (Nat.le_of_not_lt h)] at e
      have hk : k - ω.length = 0 := by
        cases q : k - ω.length with
        | zero => rfl
        | succ n => rw [q] at e; simp at e
      rw [hk] at e
      have ec : Cell.obj c [] = c' := by simpa using e
      subst ec
      have ek : k = A.length := by rw [w.len]; omega
      refine .inr ⟨x, by rw [ek]; simp, C, dx, [], upd_same, hm, .nil⟩
/-- the last thing of the store becomes a datum -/
theorem store_take {x : Addr} {c : Str} {fs : List (Str × D)} (w0 : Wo g A B H ω) (t : Stp A B H A' B' H') (w : Wo g A' B' H' (ω ++ [.obj c fs])) (hx : A'[ω.length]? = some (some x)) (h0 : H x = none) (no : noOF fs = true) :
    Stp A B H (A'.take ω.length) (fun a => B' a ∧ a ≠ x) H' ∧ Wo g (A'.take ω.length) (fun a => B' a ∧ a ≠ x) H' ω ∧ Dp g (A'.take ω.length) (fun a => B' a ∧ a ≠ x) H' (.ref x) (.obj c fs) := by
  have hl : A'.length = ω.length + 1 := by rw [w.len]; simp
  have tk : ∀ (k : Nat), k < ω.length → (A'.take ω.length)[k]? = A'[k]? := fun k hk => by rw [List.getElem?_take, if_pos hk]
  have nx : ¬ Liv (A'.take ω.length) x := fun z => by
    obtain ⟨k, e⟩ := z.ix
    have hk : k < ω.length := by
      have := (List.getElem?_eq_some_iff.mp e).1
      simp at this; omega
    rw [tk k hk] at e
    have := w.inj k ω.length x e hx
    omega
  have lv : ∀ a, Liv (A'.take ω.length) a → Liv A' a := fun a z => List.mem_of_mem_take z
  refine ⟨⟨t.keep, fun a o e n => ?_, fun a z => t.new a (lv a z), fun k y e => ?_, t.trk, t.frz⟩, ⟨by simp [hl], fun i j a ei ej => ?_, fun a z => ⟨w.liv a (lv a z), fun e => nx (by rw [← e]; exact z)⟩, fun a z => w.bnd a z.1, fun k c' e => ?_⟩, ?_⟩
  · rw [← t.old a o e n]
    exact ⟨fun z => z.1, fun z => ⟨z, ne_of_none e h0⟩⟩
  · have hk : k < ω.length := by rw [← w0.len]; exact (List.getElem?_eq_some_iff.mp e).1
    rw [tk k hk]
    exact t.ids k y e
  · have hi : i < ω.length := by have := (List.getElem?_eq_some_iff.mp ei).1; simp at this; omega
    have hj : j < ω.length := by have := (List.getElem?_eq_some_iff.mp ej).1; simp at this; omega
    rw [tk i hi] at ei
    rw [tk j hj] at ej
    exact w.inj i j a ei ej
  · have hk : k < ω.length := (List.getElem?_eq_some_iff.mp e).1
    rw [tk k hk]
    rcases w.cell k c' (by rw [List.getElem?_append_left hk]; exact e) with z | ⟨a, h1, h2⟩
    · exact .inl z
    · exact .inr ⟨a, h1, h2.cut (fun _ z => z.1) (w0.bel e)⟩
  · rcases w.cell ω.length (.obj c fs) (by simp) with ⟨z, _⟩ | ⟨a, h1, C, dx, vs, h2, h3, h4⟩
    · cases z
    · rw [hx] at h1; cases h1
      exact .obj (fun z => z.2 rfl) h2 h3 (DpF.cut (fun _ z => z.1) _ _ (noOF_bel fs no) h4)
end
section
variable {X : Cx} {W : WX} {c : Str} {p pos : Pos} {e : Expr} {es : List Expr} {fs : M (List D)} {k j : Nat} {ps : List Str} {I : List D → Option (List (Str × D))}
theorem de_make (ci : CalI X.prog X.w X.K X.mg X.base c ps k I) (hr : Room j X.A) (hj : k + 1 ≤ j) (hg : Gl X c) (ha : PA X (e :: es) (tM ⟨X.K, X.mg⟩ rL W fs)) (hdb : (c == ("__debug__" : Str)) = false := by decide)
    (he : starEach (e :: es) X.env = (false, eval e X.env) :: starEach es X.env := by rfl) (hpl : (backTo pos (starEach es X.env)).any (·.1) = false := by rfl) : PE X (.Call (.Name c p) (e :: es) [] pos) (tM ⟨X.K, X.mg⟩ rD W (fs.bind (mkO c I))) := by
  obtain ⟨C, f, fd, h1, h2, h3, h4⟩ := ci.ex
  refine (pe_make h2 h4 (hr.mono hj) hg h1 h3 .nil passL ha hdb he hpl).dl fun σ H Q ⟨H0, A, B, ρ, ω, r, fm, e, res⟩ => ?_
  refine tM_mono (tM_bind fm e res) fun vs H1 ⟨A1, B1, ω1, ds, t1, fm1, r1, e1, res1⟩ => ?_
  intro x dx hx hd ne
  rw [List.append_nil]
  unfold mkO at e1
  cases q : I ds with
  | none => simp only [q] at e1; cases e1
  | some fl =>
    simp only [q] at e1
    split at e1
    · rename_i no
      cases e1
      obtain ⟨st, wo⟩ := store_new (c := c) fm1.wo hx hd ne h1
      have hlen : A1.length = ω1.length := fm1.wo.len
      have hid : (A1 ++ [some x])[ω1.length]? = some (some x) := by rw [← hlen]; simp
      refine ⟨_, _, ω1 ++ [.obj c []], .oid ω1.length :: ds, _, wo, .cons (.oid hid) (DpL.mv (fm1.wo.mv st) _ _ r1), (show initFn c I (.oid ω1.length :: ds) (ω1 ++ [.obj c []]) = some (.val .non (ω1 ++ [.obj c fl])) from ?_), fun v A' B' H' t w dp => ?_⟩
      · unfold initFn
        simp [q]
      · have ev : v = .non := by cases dp; rfl
        refine ⟨ev, ?_⟩
        have hx' : A'[ω1.length]? = some (some x) := by
          rcases t.ids _ _ hid with z | z
          · exact z
          · rcases w.cell ω1.length (.obj c fl) (by simp) with ⟨z', _⟩ | ⟨a, h, _⟩
            · cases z'
            · rw [z] at h; cases h
        obtain ⟨s9, w9, d9⟩ := store_take fm1.wo (st.trans t) w hx' hx no
        exact res1 (.ref x) _ _ H' s9 w9 d9
    · cases e1
end
end DL
/-! DL12: methods, own len and index, isinstance. -/
namespace DL
open PySem L2

structure CalM (P : Program) (w : World) (K : PySem.W.Frag) (mg : Str → Option Value) (base : Heap) (c m : Str) (ps : List Str) (k : Nat) (Gf : Fn) : Prop where
  ex : ∃ C f fd, mg c = some (.ref C) ∧ Cls K C ∧ (Meth K C m f ∧ PySem.W.fnIn K f = true) ∧ Binds K fd ps [] ∧ FnOk P w K mg base (L2.CX P w) k f fd ps (spD ⟨K, mg⟩ Gf)
theorem CalM.mono {P : Program} {w : World} {K : PySem.W.Frag} {mg : Str → Option Value} {base : Heap} {c m : Str} {ps : List Str} {k j : Nat} {Gf : Fn} (x : CalM P w K mg base c m ps k Gf) (h : k ≤ j) : CalM P w K mg base c m ps j Gf := by
  obtain ⟨C, f, fd, h1, h2, h3, h4, h5⟩ := x.ex
  exact ⟨C, f, fd, h1, h2, h3, h4, h5.mono h⟩
theorem CalM.imp {P : Program} {w : World} {K : PySem.W.Frag} {mg : Str → Option Value} {base : Heap} {c m : Str} {ps : List Str} {k : Nat} {Gf Gf' : Fn} (x : CalM P w K mg base c m ps k Gf) (h : ∀ ds ω r, Gf' ds ω = some r → Gf ds ω = some r) : CalM P w K mg base c m ps k Gf' := by
  obtain ⟨C, f, fd, h1, h2, h3, h4, h5⟩ := x.ex
  exact ⟨C, f, fd, h1, h2, h3, h4, h5.imp fun vs H Q E ⟨A, B, ω, ds, r, w, l, e, q⟩ => ⟨A, B, ω, ds, r, w, l, h ds ω r e, q⟩⟩
/-- one method of several classes -/
def CalMs (P : Program) (w : World) (K : PySem.W.Frag) (mg : Str → Option Value) (base : Heap) (m : Str) (k : Nat) (T : List (Str × Fn)) : Prop := ∀ c Gf, T.lookup c = some Gf → ∃ ps, CalM P w K mg base c m ps k Gf
section
variable {P : Program} {w : World} {K : PySem.W.Frag} {mg : Str → Option Value} {base : Heap} {m c : Str} {k j : Nat} {T : List (Str × Fn)} {ps : List Str} {Gf : Fn}
theorem cms_nil : CalMs P w K mg base m k [] := fun c Gf e => by cases e
theorem cms_cons (h : CalM P w K mg base c m ps j Gf) (hj : j ≤ k) (t : CalMs P w K mg base m k T) : CalMs P w K mg base m k ((c, Gf) :: T) := fun c' Gf' e => by
  rw [List.lookup_cons] at e
  cases q : c' == c with
  | true =>
    rw [q] at e
    cases e
    rw [eq_of_beq q]
    exact ⟨ps, h.mono hj⟩
  | false =>
    rw [q] at e
    exact t c' Gf' e
end
/-- the class of a thing that has no field m -/
def clsM (m : Str) (o : D) : M Str := fun _ ω => match view ω o with
  | some (.obj c fs) => match fs.lookup m with
    | none => some (.val c ω)
    | some _ => none
  | _ => none
theorem clsM_some {m : Str} {o : D} {ρ : Rho} {ω : List Cell} {r : R Str} (h : clsM m o ρ ω = some r) : ∃ c fs, view ω o = some (.obj c fs) ∧ fs.lookup m = none ∧ r = .val c ω := by
  unfold clsM at h
  split at h
  · rename_i c fs e
    split at h
    · rename_i e2
      cases h
      exact ⟨c, fs, e, e2, rfl⟩
    · cases h
  · cases h
def selM (T : List (Str × Fn)) (c : Str) (o : D) (fs : M (List D)) : M D := match T.lookup c with
  | some Gf => fs.bind fun ds => callM Gf (o :: ds)
  | none => fun _ _ => none
def methM (m : Str) (T : List (Str × Fn)) (fo : M D) (fs : M (List D)) : M D := fo.bind fun o => (clsM m o).bind fun c => selM T c o fs
section
variable {X : Cx} {W : WX} {m : Str} {p pos apos : Pos} {o e : Expr} {es : List Expr} {fo : M D} {fs : M (List D)} {k j : Nat} {T : List (Str × Fn)} {ta : TE} {t : TA}
def tMethT (X : Cx) (W : WX) (m : Str) (ta : TE) (t : TA) : TE := fun σ H Q => ta σ H fun x H1 => ∃ a C dx fs f fd ps sp k, x = .ref a ∧ H1 a = some (.ins C dx fs) ∧ fs.lookup m = none ∧ Cls X.K C ∧ Meth X.K C m f ∧ Binds X.K fd ps [] ∧ FnOk X.prog X.w X.K X.mg X.base (L2.CX X.prog X.w) k f fd ps sp ∧ Room k X.A ∧
  t σ H1 fun vs H2 => sp (x :: vs) H2 Q (WE W σ)
theorem pe_methT {pl : Sem Bool} (tk : Takes X W) (he : PE X o ta) (ha : PA X (e :: es) t)
    (hst : starEach (e :: es) X.env = (false, eval e X.env) :: starEach es X.env := by rfl) (hpl : (backTo pos (starEach es X.env)).any (·.1) = false := by rfl)
    (ht : eval (.Call (.Attribute o m apos) (e :: es) [] pos) X.env = (do
      let ov ← eval o X.env
      standAt apos.atName
      let (f, first) ← holding [ov] (getMethod ov m pl)
      callWith pos f first (backTo pos (starEach (e :: es) X.env)) (backToKw pos (keywordEach [] X.env))) := by rfl) :
    PE X (.Call (.Attribute o m apos) (e :: es) [] pos) (tMethT X W m ta t) := by
  refine ⟨fun pins s σ H Q I h => ?_⟩
  refine PySem.W.methodCall_KW (pl := pl) (thn (he.run pins s σ H _ I h) fun u s1 ⟨x, H1, I1, rx, a, C, dx, fs, f, fd, ps, sp, k, ex, ea, l, c, hm, hb, F, hr, q⟩ => ?_) ht
  subst ex
  obtain rfl : u = Value.ref a := rx
  refine getmeth_ok I1 ea c hm l ?_
  refine PySem.W.callWith_K (first := [.ref a]) (h₀ := X.base) I.ok.mod.kin hm.kp (thn (ha.run pos pins s1 σ H1 _ I1 q) fun us s2 ⟨vs, H2, I2, r, q2⟩ => ⟨I2.kIn, ?_⟩) hst hpl
  exact run_fnS (us := .ref a :: us) (vs := .ref a :: vs) (E := WE W) F hr hb (passAt tk σ) I2 (.cons rfl r) q2
theorem pe_methT0 {pl : Sem Bool} (tk : Takes X W) (he : PE X o ta)
    (ht : eval (.Call (.Attribute o m apos) [] [] pos) X.env = (do
      let ov ← eval o X.env
      standAt apos.atName
      let (f, first) ← holding [ov] (getMethod ov m pl)
      callWith pos f first (backTo pos (starEach [] X.env)) (backToKw pos (keywordEach [] X.env))) := by rfl) :
    PE X (.Call (.Attribute o m apos) [] [] pos) (tMethT X W m ta tNil) := by
  refine ⟨fun pins s σ H Q I h => ?_⟩
  refine PySem.W.methodCall_KW (pl := pl) (thn (he.run pins s σ H _ I h) fun u s1 ⟨x, H1, I1, rx, a, C, dx, fs, f, fd, ps, sp, k, ex, ea, l, c, hm, hb, F, hr, q⟩ => ?_) ht
  subst ex
  obtain rfl : u = Value.ref a := rx
  refine getmeth_ok I1 ea c hm l ?_
  exact PySem.W.callWith_K0 (first := [.ref a]) I1.kIn hm.kp (run_fnS (us := [.ref a]) (vs := [.ref a]) (E := WE W) F hr hb (passAt tk σ) I1 (.cons rfl .nil) q)
theorem tM_nilL {g : G} : ∀ σ H Q, tM g rL W (M.pure []) σ H Q → tNil σ H Q := by
  rintro σ H Q ⟨H0, A, B, ρ, ω, r, fm, e, res⟩
  cases e
  exact res [] A B H (.refl _ _ _) fm.wo .nil
/-- the class and the def of a thing -/
theorem meth_at {g : G} {A : Ad} {B : Addr → Prop} {H : Hp} {ω : List Cell} {ρ : Rho} {o : D} {x : V} {r : R Str} (w : Wo g A B H ω) (h : Dp g A B H x o) (e : clsM m o ρ ω = some r) :
    ∃ c a C dx vs, r = .val c ω ∧ x = .ref a ∧ H a = some (.ins C dx vs) ∧ g.mg c = some (.ref C) ∧ vs.lookup m = none := by
  obtain ⟨c, fl, e1, e2, rfl⟩ := clsM_some e
  obtain ⟨a, C, dx, vs, h1, h2, h3, h4⟩ := Vw.of h w e1
  exact ⟨c, a, C, dx, vs, rfl, h1, h2, h3, h4.no e2⟩
theorem tM_meth (cm : CalMs X.prog X.w X.K X.mg X.base m k T) (hr : Room j X.A) (hj : k ≤ j) : ∀ σ H Q, tM ⟨X.K, X.mg⟩ rD W (methM m T fo fs) σ H Q → tMethT X W m (tM ⟨X.K, X.mg⟩ rD W fo) (tM ⟨X.K, X.mg⟩ rL W fs) σ H Q := by
  rintro σ H Q ⟨H0, A, B, ρ, ω, r, fm, e, res⟩
  refine tM_mono (tM_bind fm e res) fun x H1 ⟨A1, B1, ω1, d1, t1, fm1, r1, e1, res1⟩ => ?_
  unfold M.bind at e1
  cases q : clsM m d1 ρ ω1 with
  | none => rw [q] at e1; cases e1
  | some z =>
    obtain ⟨c, a, C, dx, vs, rfl, rfl, hp, hc, hl⟩ := meth_at fm1.wo r1 q
    rw [q] at e1
    replace e1 : selM T c d1 fs ρ ω1 = some r := e1
    unfold selM at e1
    cases q2 : T.lookup c with
    | none => simp only [q2] at e1; cases e1
    | some Gf =>
      simp only [q2] at e1
      obtain ⟨ps, cc⟩ := cm c Gf q2
      obtain ⟨C', f, fd, h1, h2, h3, h4, h5⟩ := cc.ex
      have hC : C' = C := by
        have : (some (Value.ref C') : Option Value) = some (.ref C) := h1.symm.trans hc
        cases this; rfl
      subst hC
      refine ⟨a, C', dx, vs, f, fd, ps, _, k, rfl, hp, hl, h2, h3.1, h4, h5, hr.mono hj, ?_⟩
      refine tM_mono (tM_bind fm1 e1 res1) fun ws H2 ⟨A2, B2, ω2, ds, t2, fm2, r2, e2, res2⟩ => ?_
      refine ⟨A2, B2, ω2, d1 :: ds, r, fm2.wo, .cons (Dp.mv (fm1.wo.mv t2) _ _ r1) r2, e2, ?_⟩
      cases r with
      | val d ω' => exact fun v A' B' H' t w dp => res2 v A' B' H' t w dp
      | exc x ω' => exact fun cls dd A' B' H' t w xo => res2 cls dd A' B' H' t w xo
theorem de_meth (tk : Takes X W) (cm : CalMs X.prog X.w X.K X.mg X.base m k T) (hr : Room j X.A) (hj : k ≤ j) {pl : Sem Bool} (he : PE X o (tM ⟨X.K, X.mg⟩ rD W fo)) (ha : PA X (e :: es) (tM ⟨X.K, X.mg⟩ rL W fs))
    (hst : starEach (e :: es) X.env = (false, eval e X.env) :: starEach es X.env := by rfl) (hpl : (backTo pos (starEach es X.env)).any (·.1) = false := by rfl)
    (ht : eval (.Call (.Attribute o m apos) (e :: es) [] pos) X.env = (do
      let ov ← eval o X.env
      standAt apos.atName
      let (f, first) ← holding [ov] (getMethod ov m pl)
      callWith pos f first (backTo pos (starEach (e :: es) X.env)) (backToKw pos (keywordEach [] X.env))) := by rfl) :
    PE X (.Call (.Attribute o m apos) (e :: es) [] pos) (tM ⟨X.K, X.mg⟩ rD W (methM m T fo fs)) := (pe_methT tk he ha hst hpl ht).dl (tM_meth cm hr hj)
theorem de_meth0 (tk : Takes X W) (cm : CalMs X.prog X.w X.K X.mg X.base m k T) (hr : Room j X.A) (hj : k ≤ j) {pl : Sem Bool} (he : PE X o (tM ⟨X.K, X.mg⟩ rD W fo))
    (ht : eval (.Call (.Attribute o m apos) [] [] pos) X.env = (do
      let ov ← eval o X.env
      standAt apos.atName
      let (f, first) ← holding [ov] (getMethod ov m pl)
      callWith pos f first (backTo pos (starEach [] X.env)) (backToKw pos (keywordEach [] X.env))) := by rfl) :
    PE X (.Call (.Attribute o m apos) [] [] pos) (tM ⟨X.K, X.mg⟩ rD W (methM m T fo (M.pure []))) := (pe_methT0 tk he ht).dl fun σ H Q h => by
  have h' := tM_meth cm hr hj σ H Q h
  refine tM_mono h' fun x H1 ⟨a, C, dx, fs, f, fd, ps, sp, k, h1, h2, h3, h4, h5, h6, h7, h8, h9⟩ => ⟨a, C, dx, fs, f, fd, ps, sp, k, h1, h2, h3, h4, h5, h6, h7, h8, tM_nilL _ _ _ h9⟩

/-! ### rules that see the slots -/
def OpRS (X : Cx) (f : Value → Value → Sem Value) (r : St → R2) : Prop :=
  ∀ (pins : List (Addr × Obj)) (s : Shared) (σ : St) (H : Hp) (x y : V) (v u : Value) (Q : VK), Inv X pins σ H s → RelV x v → RelV y u → r σ x y H Q → wpAny (model X.prog X.w) X.A (f v u) (EP X pins σ Q) X.xe s
def CallRS (X : Cx) (f : Value) (r : St → List V → Hp → VK → Prop) : Prop :=
  ∀ (pins : List (Addr × Obj)) (s : Shared) (σ : St) (H : Hp) (xs : List V) (us : List Value) (Q : VK), Inv X pins σ H s → Vals xs us → r σ xs H Q → wpAny (model X.prog X.w) X.A (call f us) (EP X pins σ Q) X.xe s
def tOpS (r : St → R2) (ta tb : TE) : TE := fun σ H Q => ta σ H fun x H1 => tb σ H1 fun y H2 => r σ x y H2 Q
theorem pe_opS {a b : Expr} {tb : TE} {op : Operator} {r : St → R2} (ho : OpRS X (binaryOp op) r) (ha : PE X a ta) (hb : PE X b tb) : PE X (.BinOp a op b pos) (tOpS r ta tb) :=
  ⟨fun pins s σ H Q I h => wpAny_BinOp (binT ha hb I h fun v u s2 x y H2 I2 rx ry q => ho pins s2 σ H2 x y v u Q I2 rx ry q)⟩
theorem pe_cmpRS {a b : Expr} {tb : TE} {op : CmpOp} {r : St → R2} (ho : OpRS X (compareOp op) r) (ha : PE X a ta) (hb : PE X b tb) (hm : behindInMarks op b = false) : PE X (.Compare a [op] [b] pos) (tOpS r ta tb) :=
  ⟨fun pins s σ H Q I h => wpAny_Compare1 (binT ha hb I h fun v u s2 x y H2 I2 rx ry q => ho pins s2 σ H2 x y v u Q I2 rx ry q) hm⟩
theorem pt_cmpRS {a b : Expr} {tb : TE} {op : CmpOp} {r : St → R2} (ho : OpRS X (compareOp op) r) (ha : PE X a ta) (hb : PE X b tb) (hm : behindInMarks op b = false) : PT X (.Compare a [op] [b] pos) (tTest (tOpS r ta tb)) := by
  refine ⟨fun pins s σ H Q I h => wpAny_isTrue_Compare1 (thn (ha.run pins s σ H _ I h) fun v s1 ⟨x, H1, I1, r1, q1⟩ => thn (hb.run pins s1 σ H1 _ I1 q1) fun u s2 ⟨y, H2, I2, r2, q2⟩ =>
    thn (ho pins s2 σ H2 x y v u _ I2 r1 r2 q2) fun c s3 ⟨z, H3, I3, r3, k, e, q3⟩ => ?_) hm⟩
  subst e
  cases r3
  exact wpAny_truthy_bool ⟨H3, I3, q3⟩
theorem pe_callBS {x : Str} {id : String} {r : St → List V → Hp → VK → Prop} (hc : CallRS X (.builtin id) r) (hg : Gl X x) (hm : X.mg x = none) (hv : bootBuiltins x = some (.builtin id)) (ha : PA X (e :: es) t) (hn : x ≠ "__name__" := by decide) (hdb : (x == ("__debug__" : Str)) = false := by decide)
    (he : starEach (e :: es) X.env = (false, eval e X.env) :: starEach es X.env := by rfl) (hpl : (backTo pos (starEach es X.env)).any (·.1) = false := by rfl) : PE X (.Call (.Name x p) (e :: es) [] pos) (fun σ H Q => t σ H fun vs H1 => r σ vs H1 Q) :=
  ⟨fun pins s σ H Q I h => wpAny_Call_Name_kw (ld_blt I hg hm hv (PyProof.Rows.callWith_builtin1 (thn (ha.run pos pins s σ H _ I h) fun us s1 ⟨vs, H1, I1, r1, q1⟩ => hc pins s1 σ H1 vs us Q I1 r1 q1) he hpl) hn hdb)⟩

/-! ### len and index of an own class -/
/-- a def runs, around it A' -/
theorem run_at {A' : Around} {pins : List (Addr × Obj)} {s : Shared} {σ : St} {H : Hp} {f : Addr} {fd : FuncData} {ps : List Str} {sp : Sp} {us : List Value} {vs : List V} {Q : VK} (tk : Takes X W) (F : FnOk X.prog X.w X.K X.mg X.base (L2.CX X.prog X.w) k f fd ps sp) (hr : Room k A') (e0 : Env0 X.prog X.w X.K X.mg X.base A' X.stack s H) (hb : Binds X.K fd ps [])
    (I : Inv X pins σ H s) (r : Vals vs us) (h : sp vs H Q (WE W σ)) : wpAny (model X.prog X.w) A' (call (.ref f) us) (EP X pins σ Q) X.xe s := by
  have hl := F.len _ _ _ _ h
  refine wpAny_call (codeAny_mono (F.run A' X.stack s H ⟨us, []⟩ us vs Q (WE W σ) hr e0 (by
    have := hb s us I.kIn (by rw [List.append_nil, ← r.length]; exact hl)
    simpa using this) r h) fun r s' hq => ?_)
  cases r with
  | error e => exact passAt tk σ pins H s e s' I hq
  | ok fl =>
    cases fl with
    | ret w => exact I.after hq
    | next => exact False.elim hq
    | brk => exact False.elim hq
    | cont => exact False.elim hq
/-- the def of a class's special method -/
def OwnR (X : Cx) (W : WX) (m : Str) (post : V → Hp → VK → Prop) : St → List V → Hp → VK → Prop := fun σ xs H Q => ∃ a C dx fs f fd ps sp k ys, xs = .ref a :: ys ∧ H a = some (.ins C dx fs) ∧ (Meth X.K C m f ∧ PySem.W.fnIn X.K f = true) ∧ Binds X.K fd ps [] ∧ FnOk X.prog X.w X.K X.mg X.base (L2.CX X.prog X.w) k f fd ps sp ∧ Room (k + 1) X.A ∧
  sp xs H (fun v H' => post v H' Q) (WE W σ)
theorem call_lenO (tk : Takes X W) : CallRS X (.builtin "len") (fun σ xs H Q => xs.length = 1 ∧ OwnR X W "__len__" (fun v H' Q => ∃ n : Int, v = .int n ∧ 0 ≤ n ∧ n < 2 ^ 63 ∧ Q (.int n) H') σ xs H Q) := by
  intro pins s σ H xs us Q I r h
  obtain ⟨hl, a, C, dx, fs, f, fd, ps, sp, k, ys, rfl, hp, ⟨hm, _⟩, hb, F, hr, h⟩ := h
  have : ys = [] := List.length_eq_zero_iff.mp (by simpa using hl)
  subst this
  obtain ⟨u1, rfl, r1⟩ : ∃ u, us = [u] ∧ RelV (.ref a) u := by
    cases r with
    | cons r1 r2 => cases r2; exact ⟨_, rfl, r1⟩
  cases (show u1 = Value.ref a from r1)
  obtain ⟨mA, J, _⟩ := ins_get I.hok hp
  obtain ⟨od, J, _⟩ := J.look
  obtain ⟨m, hF⟩ := I.fr
  refine PySem.W.len_K hF I.ok.mod.kin J hm.at_ hm.fn (wpAny_mono (run_at tk F hr.in1 I.env0.in1 hb I r h) (fun v s' z => ?_) fun _ _ x => x)
  obtain ⟨x, H', I', rx, n, rfl, n0, n1, q⟩ := z
  obtain ⟨t, rfl⟩ := (show ∃ t, v = Value.int n t from rx)
  exact ⟨⟨n0, n1⟩, .int n, H', I'.tok _, ⟨_, rfl⟩, q⟩
/-- the class's def on these data -/
def ownM (m : Str) (T : List (Str × Fn)) (o : D) (ds : List D) : M D := fun ρ ω => match view ω o with
  | some (.obj c _) => match T.lookup c with
    | some Gf => callM Gf (o :: ds) ρ ω
    | none => none
  | _ => none
theorem own_at {g : G} {A : Ad} {B : Addr → Prop} {H : Hp} {ω : List Cell} {ρ : Rho} {o : D} {ds : List D} {x : V} {xs : List V} {r : R D} {σ : St} {Q : VK} {H0 : Hp} {post : V → Hp → VK → Prop} {W : WX} (hg : g = ⟨X.K, X.mg⟩) (cm : CalMs X.prog X.w X.K X.mg X.base m k T) (hr : Room j X.A) (hj : k + 1 ≤ j) (fm : Fm g H0 A B H ω σ ρ)
    (h : Dp g A B H x o) (l : DpL g A B H xs ds) (e : ownM m T o ds ρ ω = some r) (res : ResOk g rD W σ A B H (fun v H' => post v H' Q) r) : OwnR X W m post σ (x :: xs) H Q := by
  subst hg
  unfold ownM at e
  split at e
  · rename_i c fl ev
    obtain ⟨a, C, dx, vs, rfl, hp, hc, _⟩ := Vw.of h fm.wo ev
    cases q2 : T.lookup c with
    | none => simp only [q2] at e; cases e
    | some Gf =>
      simp only [q2] at e
      obtain ⟨ps, cc⟩ := cm c Gf q2
      obtain ⟨C', f, fd, h1, h2, h3, h4, h5⟩ := cc.ex
      have hC : C' = C := by
        have : (some (Value.ref C') : Option Value) = some (.ref C) := h1.symm.trans hc
        cases this; rfl
      subst hC
      refine ⟨a, C', dx, vs, f, fd, ps, _, k, xs, rfl, hp, h3, h4, h5, hr.mono hj, A, B, ω, o :: ds, r, fm.wo, .cons h l, e, ?_⟩
      cases r with
      | val d ω' => exact fun v A' B' H' t w dp => res v A' B' H' t w dp
      | exc x ω' => exact fun cls dd A' B' H' t w xo => res cls dd A' B' H' t w xo
  · cases e
def lenB : D → M D
  | .int n => fun _ ω => if 0 ≤ n ∧ n < 2 ^ 63 then some (.val (.int n) ω) else none
  | _ => fun _ _ => none
def lenO (T : List (Str × Fn)) (fo : M D) : M D := fo.bind fun o => (ownM "__len__" T o []).bind lenB
theorem de_lenO (tk : Takes X W) (cm : CalMs X.prog X.w X.K X.mg X.base "__len__" k T) (hr : Room j X.A) (hj : k + 1 ≤ j) (hg : Gl X "len") (hm : X.mg "len" = none) (ha : PE X e (tM ⟨X.K, X.mg⟩ rD W fo)) (he : starEach [e] X.env = (false, eval e X.env) :: starEach [] X.env := by rfl)
    (hpl : (backTo pos (starEach [] X.env)).any (·.1) = false := by rfl) : PE X (.Call (.Name "len" p) [e] [] pos) (tM ⟨X.K, X.mg⟩ rD W (lenO T fo)) := by
  refine (pe_callBS (call_lenO tk) hg hm (by decide +kernel) (pa_cons ha pa_nil he) (by decide) (by decide) he hpl).dl ?_
  rintro σ H Q ⟨H0, A, B, ρ, ω, r, fm, e, res⟩
  refine tM_mono (tM_bind fm e res) fun x H1 ⟨A1, B1, ω1, d1, t1, fm1, r1, e1, res1⟩ => ⟨rfl, ?_⟩
  unfold M.bind at e1
  cases q : ownM "__len__" T d1 [] ρ ω1 with
  | none => rw [q] at e1; cases e1
  | some z =>
    rw [q] at e1
    refine own_at (W := W) rfl cm hr hj fm1 r1 .nil q ?_
    cases z with
    | exc x ω' =>
      cases e1
      exact fun cls dd A' B' H' t w xo => res1 cls dd A' B' H' t w xo
    | val d ω' =>
      replace e1 : lenB d ρ ω' = some r := e1
      intro v A' B' H' t w dp
      cases d with
      | int n =>
        simp only [lenB] at e1
        split at e1
        · rename_i hz
          cases e1
          cases dp
          exact ⟨n, rfl, hz.1, hz.2, res1 _ A' B' H' t w (.int n)⟩
        · cases e1
      | _ => cases e1
/-- o[i] by the class's own def -/
def tIxO (X : Cx) (W : WX) (ta tb : TE) : TE := fun σ H Q => ta σ H fun x H1 => tb σ H1 fun y H2 => OwnR X W "__getitem__" (fun v H' Q => Q v H') σ [x, y] H2 Q
theorem pe_ixO {i : Expr} {ta tb : TE} (tk : Takes X W) (ha : PE X o ta) (hb : PE X i tb) (hsl : ∀ x u, subscripted i true (.ref x) u = runValue (.builtin "lifetime.subscript" ⟨[.ref x, u], []⟩) := by intro _ _; with_unfolding_all rfl) : PE X (.Subscript o i pos) (tIxO X W ta tb) := by
  refine ⟨fun pins s σ H Q I h => ?_⟩
  refine PyProof.Rows.Subscript_ (binT ha hb I h fun v u s2 x y H2 I2 rx ry q => ?_)
  obtain ⟨a, C, dx, fs, f, fd, ps, sp, k, ys, e1, hp, ⟨hm, hfn⟩, hbi, F, hr, q⟩ := q
  cases e1
  cases (show v = Value.ref a from rx)
  obtain ⟨mA, J, _⟩ := ins_get I2.hok hp
  obtain ⟨od, J, _⟩ := J.look
  obtain ⟨m, hF⟩ := I2.fr
  exact PySem.W.sub_K hF I2.ok.mod.kin J hm.at_ hfn hm.fn (run_at tk F hr.in1 I2.env0.in1 hbi I2 (.cons (show RelV (.ref a) (.ref a) from rfl) (.cons ry .nil)) q) (hsl _ _)
def ixO (T : List (Str × Fn)) (fo fi : M D) : M D := fo.bind fun o => fi.bind fun i => ownM "__getitem__" T o [i]
theorem de_ixO {i : Expr} {fi : M D} (tk : Takes X W) (cm : CalMs X.prog X.w X.K X.mg X.base "__getitem__" k T) (hr : Room j X.A) (hj : k + 1 ≤ j) (ha : PE X o (tM ⟨X.K, X.mg⟩ rD W fo)) (hb : PE X i (tM ⟨X.K, X.mg⟩ rD W fi))
    (hsl : ∀ x u, subscripted i true (.ref x) u = runValue (.builtin "lifetime.subscript" ⟨[.ref x, u], []⟩) := by intro _ _; with_unfolding_all rfl) : PE X (.Subscript o i pos) (tM ⟨X.K, X.mg⟩ rD W (ixO T fo fi)) := by
  refine (pe_ixO tk ha hb hsl).dl ?_
  rintro σ H Q ⟨H0, A, B, ρ, ω, r, fm, e, res⟩
  refine tM_mono (tM_bind fm e res) fun x H1 ⟨A1, B1, ω1, d1, t1, fm1, r1, e1, res1⟩ => ?_
  refine tM_mono (tM_bind fm1 e1 res1) fun y H2 ⟨A2, B2, ω2, d2, t2, fm2, r2, e2, res2⟩ => ?_
  exact own_at (W := W) rfl cm hr hj fm2 (Dp.mv (fm1.wo.mv t2) _ _ r1) (.cons r2 .nil) e2 res2

/-! ### isinstance -/
/-- a class that isinstance can read -/
structure ClT (K : PySem.W.Frag) (C : Addr) : Prop where
  cl : Cls K C
  ha : PySem.W.findIn K (.ref C) "__class__" = some (some (.builtin "object.__class__"))
  hn : PySem.W.specialIn K (.builtin "object.__class__") "__get__" = some (some (.builtin "getset_descriptor.__get__"))
  ht : PySem.W.takesIn K (.builtin "object.__class__") = some true
  hm : PySem.W.mroIn K C (.type "object") = some true
/-- the built-in type of a datum -/
def tyB : D → Option String
  | .non => some "NoneType"
  | .bl _ => some "bool"
  | .int _ => some "int"
  | .str _ => some "str"
  | .tup _ => some "tuple"
  | .lst _ => some "list"
  | .dic _ => some "dict"
  | .scr _ => some "list"
  | _ => none
/-- isinstance(x, T), T built in -/
def isiB (S : String) (d : D) : Option D := match tyB d with
  | some t => (kitB t S).map D.bl
  | none => none
theorem tyB_ok {g : G} {A : Ad} {B : Addr → Prop} {H : Hp} {x : V} {d : D} {t : String} (h : Vw g A B H x d) (e : tyB d = some t) : TyX g.K H x (.type t) := by
  cases d with
  | non => cases e; cases h; exact .base .non
  | bl b => cases e; cases h; exact .base (.bl _)
  | int b => cases e; cases h; exact .base (.int _)
  | str b => cases e; cases h; exact .base (.str _)
  | tup ds =>
    cases e
    have h' : Dp g A B H x (.tup ds) := h
    cases h' with
    | tup n r l => exact .base (.tup r)
    | tupK k l =>
      obtain ⟨o, its, n, h1, h2, _⟩ := k
      exact .kTuple h1 h2
  | lst ds =>
    cases e
    obtain ⟨a, vs, rfl, h1, _⟩ := h
    exact .base (.lst h1)
  | dic ds =>
    cases e
    obtain ⟨a, vs, rfl, h1, _⟩ := h
    rcases h1 with h1 | ⟨o, h1⟩
    · exact .base (.dK h1)
    · exact .fDict h1
  | scr ns =>
    cases e
    obtain ⟨a, rfl, h1⟩ := h
    rcases h1 with h1 | ⟨o, its, n, h1, h2, _⟩
    · rcases h1 with h1 | ⟨o, h1⟩
      · exact .base (.lst h1)
      · exact .base (.frz h1)
    · exact .kList h1 h2
  | _ => cases e
theorem v_isiB (g : G) (S : String) : V1 g (fun x H Q => rIsi g.K [x, .ty S] H Q) (isiB S) := by
  intro A B H ω x a c Q w ha e q
  unfold isiB at e
  cases q1 : tyB a with
  | none => rw [q1] at e; cases e
  | some t =>
    rw [q1] at e
    cases q2 : kitB t S with
    | none => simp only [q2] at e; cases e
    | some b =>
      simp only [q2] at e
      cases e
      exact ⟨x, .ty S, .type t, .type S, b, rfl, .ty S, tyB_ok ha q1, kit_ty q2, q.now w (.bl b)⟩
theorem de_isiB {fa : M D} {S : String} {x : Str} {np : Pos} (hg : Gl X "isinstance") (hm : X.mg "isinstance" = none) (hgx : Gl X x) (hmx : X.mg x = none) (hb : bootBuiltins x = some (.type S)) (ha : PE X e (tM ⟨X.K, X.mg⟩ rW W fa)) (hnx : x ≠ "__name__" := by decide) (hdx : (x == ("__debug__" : Str)) = false := by decide)
    (he : starEach [e, .Name x np] X.env = (false, eval e X.env) :: starEach [.Name x np] X.env := by rfl) (he2 : starEach [.Name x np] X.env = (false, eval (.Name x np) X.env) :: starEach [] X.env := by rfl) (hpl : (backTo pos (starEach [.Name x np] X.env)).any (·.1) = false := by rfl) :
    PE X (.Call (.Name "isinstance" p) [e, .Name x np] [] pos) (tM ⟨X.K, X.mg⟩ rD W (uo (isiB S) fa)) :=
  (pe_callB call_isi hg hm (by decide +kernel) (pa_cons ha (pa_cons (pe_bltn (v := .ty S) hgx hmx hb rfl hnx hdx) pa_nil he2) he) (by decide) (by decide) he hpl).dl fun σ H Q h => tM_op1 (r := fun x H Q => rIsi X.K [x, .ty S] H Q) (v_isiB ⟨X.K, X.mg⟩ S) σ H Q h
end
end DL
/-! DL13: what is never reached; defs, methods and makers of the text; the law's end. -/
namespace DL
open PySem L2
section
variable {X : Cx} {g : G} {n : En} {W : WX} {st : Stmt} {sts : List Stmt} {e : Expr}
/-- never reached -/
def noS : MS := fun _ _ => none
theorem ds_none : PS X st (tS g n W noS) := ⟨fun pins s σ H D I ⟨A, B, ρ, ω, r, _, fm, e, res⟩ => by cases e⟩
theorem dss_none : PSs X sts (tS g n W noS) := ⟨fun pins s σ H D I ⟨A, B, ρ, ω, r, _, fm, e, res⟩ => by cases e⟩
def noM : M D := fun _ _ => none
theorem de_none : PE X e (tM g rD W noM) := ⟨fun pins s σ H Q I ⟨H0, A, B, ρ, ω, r, fm, e, res⟩ => by cases e⟩
end
structure FM (K : PySem.W.Frag) (mg : Str → Option Value) (c m qual : Str) (st : Stmt) : Prop where
  ex : ∃ C f fd, mg c = some (.ref C) ∧ Cls K C ∧ (Meth K C m f ∧ PySem.W.fnIn K f = true) ∧ Fun K m qual st f fd
structure FI (K : PySem.W.Frag) (mg : Str → Option Value) (c qual : Str) (st : Stmt) : Prop where
  ex : ∃ C f fd, mg c = some (.ref C) ∧ Mk K C f ∧ Fun K "__init__" qual st f fd
section
variable {P : Program} {w : World} {K : PySem.W.Frag} {mg : Str → Option Value} {base : Heap} {c m qual : Str} {st : Stmt} {ps : List Str} {k : Nat} {Gf : Fn} {I : List D → Option (List (Str × D))}
theorem calM_of (T : FM K mg c m qual st) (b : ∀ a fd, Fun K m qual st a fd → Binds K fd ps []) (h : ∀ a fd, Fun K m qual st a fd → FnOk P w K mg base (L2.CX P w) k a fd ps (spD ⟨K, mg⟩ Gf)) : CalM P w K mg base c m ps k Gf := by
  obtain ⟨C, f, fd, h1, h2, h3, F⟩ := T.ex
  exact ⟨C, f, fd, h1, h2, h3, b f fd F, h f fd F⟩
theorem calI_of (T : FI K mg c qual st) (b : ∀ a fd, Fun K "__init__" qual st a fd → Binds K fd ps []) (h : ∀ a fd, Fun K "__init__" qual st a fd → FnOk P w K mg base (L2.CX P w) k a fd ps (spD ⟨K, mg⟩ (initFn c I))) : CalI P w K mg base c ps k I := by
  obtain ⟨C, f, fd, h1, h2, F⟩ := T.ex
  exact ⟨C, f, fd, h1, h2, b f fd F, h f fd F⟩
theorem CalI.mono {j : Nat} (x : CalI P w K mg base c ps k I) (h : k ≤ j) : CalI P w K mg base c ps j I := by
  obtain ⟨C, f, fd, h1, h2, h3, h4⟩ := x.ex
  exact ⟨C, f, fd, h1, h2, h3, h4.mono h⟩
theorem CalI.imp {I' : List D → Option (List (Str × D))} (x : CalI P w K mg base c ps k I) (h : ∀ ds fs, I' ds = some fs → I ds = some fs) : CalI P w K mg base c ps k I' := by
  obtain ⟨C, f, fd, h1, h2, h3, h4⟩ := x.ex
  refine ⟨C, f, fd, h1, h2, h3, h4.imp fun vs H Q E ⟨A, B, ω, ds, r, w, l, e, q⟩ => ⟨A, B, ω, ds, r, w, l, ?_, q⟩⟩
  unfold initFn at e ⊢
  split at e
  · split at e
    · split at e
      · rename_i k' ds' _ _ _ hc he
        split at e
        · rename_i fs' hf
          simp only [he, hc, if_true, h _ _ hf]
          exact e
        · cases e
      · cases e
    · cases e
  · cases e
end
/-- what the law promises -/
def spLaw (K : PySem.W.Frag) : Sp := fun vs H Q _ => ∃ (a : Addr) (ns : List Int), vs = [.ref a] ∧ SqL K H a (ns.map V.int) ∧ ns.length ≤ 63 ∧ ∀ H', Q (.bl true) H'
theorem wo0 {g : G} {H : Hp} : Wo g [] (fun _ => False) H [] := ⟨rfl, fun i j a e => (by simp at e), fun a h => (by cases h), fun a h => False.elim h, fun k c e => (by simp at e)⟩
end DL
/-! DL14: a def's function by its reading; values of readings. -/
namespace DL
open PySem L2
/-- the function that a reading is -/
def fnV (N : List Str) (k : Nat) (F : MS) : Fn := fun ds ω => if ds.length = k then (match F (startE N ds) ω with
  | some (.rt d ω') => some (.val d ω')
  | some (.nx _ ω') => some (.val .non ω')
  | _ => none) else none
theorem hf_V {N : List Str} {k : Nat} {F : MS} : ∀ ds ω r, fnV N k F ds ω = some r → ds.length = k ∧ ∃ d ω' rs, r = .val d ω' ∧ F (startE N ds) ω = some rs ∧ retOf rs = some r := by
  intro ds ω r h
  unfold fnV at h
  split at h
  · rename_i hl
    split at h
    · rename_i d ω' e
      cases h
      exact ⟨hl, d, ω', _, rfl, e, rfl⟩
    · rename_i ρ' ω' e
      cases h
      exact ⟨hl, .non, ω', _, rfl, e, rfl⟩
    · cases h
  · cases h
section
variable {N : List Str} {k : Nat} {F : MS} {ds : List D} {ω ω' : List Cell} {d : D} {ρ : Rho}
theorem fnV_rt (hl : ds.length = k) (h : F (startE N ds) ω = some (.rt d ω')) : fnV N k F ds ω = some (.val d ω') := by
  unfold fnV
  rw [if_pos hl, h]
theorem callM_of {Gf : Fn} (h : Gf ds ω = some (.val d ω')) : callM Gf ds ρ ω = some (.val d ω') := by unfold callM; rw [h]
theorem calM_ev {Gf : Fn} {fs : M (List D)} {ω1 : List Cell} (ha : fs ρ ω = some (.val ds ω1)) (h : Gf ds ω1 = some (.val d ω')) : calM Gf fs ρ ω = some (.val d ω') := by
  unfold calM
  rw [bind_ev ha, callM_of h]
end
/-- the law's own def -/
theorem law_fn {P : Program} {w : World} {K : PySem.W.Frag} {mg : Str → Option Value} {base : Heap} {f : Addr} {fd : FuncData} {y : Str} {k : Nat} {Gf : Fn} (F : FnOk P w K mg base CX0 k f fd [y] (spD ⟨K, mg⟩ Gf)) (h : ∀ ns : List Int, ns.length ≤ 63 → Gf [.scr ns] [] = some (.val (.bl true) [])) : FnOk P w K mg base CX0 k f fd [y] (spLaw K) := by
  refine F.imp fun vs H Q E ⟨b, ns, e, s, l, q⟩ => ?_
  subst e
  refine ⟨[], fun _ => False, [], [.scr ns], _, wo0, .cons ?_ .nil, h ns l, fun v A' B' H' t w dp => ?_⟩
  · rcases s with s | s
    · exact .scr (fun z => z) s
    · exact .scrK s
  · cases dp
    exact q H'

/-! ### values -/
theorem plainL_ints (xs : List Int) : plainL (xs.map D.int) = true := by
  induction xs with
  | nil => rfl
  | cons x xs ih => simp [plainL, plain, ih]
theorem depL_ints (xs : List Int) : depL (xs.map D.int) = 0 := by
  induction xs with
  | nil => rfl
  | cons x xs ih => simp [depL, dep, ih]
theorem fine_int (i : Int) : fine (.int i) = true := rfl
theorem fine_bl (b : Bool) : fine (.bl b) = true := rfl
theorem fine_ints (xs : List Int) : fine (.lst (xs.map D.int)) = true := by
  rw [fine_iff]
  exact ⟨by simp [plain, plainL_ints], by simp [dep, depL_ints]⟩
theorem any_eqb_ints (i : Int) (xs : List Int) : ((xs.map D.int).any fun z => eqb z (.int i)) = decide (i ∈ xs) := by
  induction xs with
  | nil => rfl
  | cons x xs ih =>
    rw [List.map_cons, List.any_cons, ih]
    by_cases h : x = i
    · subst h; simp [eqb]
    · have : ¬ i = x := fun e => h e.symm
      simp [eqb, h, this]
theorem inB_ints (i : Int) (xs : List Int) : inB (.int i) (.lst (xs.map D.int)) = some (decide (i ∈ xs)) := by
  show (if (fine (.int i) && fine (.lst (xs.map D.int))) = true then some ((xs.map D.int).any fun z => eqb z (.int i)) else none) = _
  rw [fine_int, fine_ints, any_eqb_ints]
  rfl
theorem inD_ints (i : Int) (xs : List Int) : inD (.int i) (.lst (xs.map D.int)) = some (.bl (decide (i ∈ xs))) := by unfold inD; rw [inB_ints]; rfl
theorem notInD_ints (i : Int) (xs : List Int) : notInD (.int i) (.lst (xs.map D.int)) = some (.bl !(decide (i ∈ xs))) := by unfold notInD; rw [inB_ints]; rfl
theorem anyD_bls (bs : List Bool) : anyD (.lst (bs.map D.bl)) = some (.bl (bs.any id)) := by show (boolsOf (bs.map D.bl)).map _ = _; rw [boolsOf_map]; rfl
theorem allD_bls (bs : List Bool) : allD (.lst (bs.map D.bl)) = some (.bl (bs.all id)) := by show (boolsOf (bs.map D.bl)).map _ = _; rw [boolsOf_map]; rfl
theorem ixD_lst {ds : List D} {i : Nat} {d : D} (h : ds[i]? = some d) : ixD (.lst ds) (.int i) = some d := by unfold ixD; exact atI_nat h
theorem ixD_tup {ds : List D} {i : Nat} {d : D} (h : ds[i]? = some d) : ixD (.tup ds) (.int i) = some d := by unfold ixD; exact atI_nat h
theorem ixD_lstI {ds : List D} {i : Int} {d : D} (h0 : 0 ≤ i) (h : ds[i.toNat]? = some d) : ixD (.lst ds) (.int i) = some d := by unfold ixD; exact atI_some h0 h
theorem ixD_t0 (a : D) (r : List D) : ixD (.tup (a :: r)) (.int 0) = some a := ixD_tup (i := 0) rfl
theorem ixD_t1 (a b : D) (r : List D) : ixD (.tup (a :: b :: r)) (.int 1) = some b := ixD_tup (i := 1) rfl
theorem ixD_t2 (a b c : D) (r : List D) : ixD (.tup (a :: b :: c :: r)) (.int 2) = some c := ixD_tup (i := 2) rfl
theorem ixD_t3 (a b c d : D) (r : List D) : ixD (.tup (a :: b :: c :: d :: r)) (.int 3) = some d := ixD_tup (i := 3) rfl
theorem ixD_l0 (a : D) (r : List D) : ixD (.lst (a :: r)) (.int 0) = some a := ixD_lst (i := 0) rfl
theorem ixD_l1 (a b : D) (r : List D) : ixD (.lst (a :: b :: r)) (.int 1) = some b := ixD_lst (i := 1) rfl
mutual
theorem eqb_refl : ∀ d : D, plain d = true → eqb d d = true
  | .non, _ => rfl
  | .bl b, _ => by simp [eqb]
  | .int b, _ => by simp [eqb]
  | .str b, _ => by simp [eqb]
  | .tup ds, h => by simp only [eqb]; exact eqbL_refl ds h
  | .lst ds, h => by simp only [eqb]; exact eqbL_refl ds h
  | .dic _, h => by cases h
  | .obj _ _, h => by cases h
  | .oid _, h => by cases h
  | .scr _, h => by cases h
theorem eqbL_refl : ∀ ds : List D, plainL ds = true → eqbL ds ds = true
  | [], _ => rfl
  | d :: ds, h => by
    simp only [plainL, Bool.and_eq_true] at h
    simp only [eqbL, Bool.and_eq_true]
    exact ⟨eqb_refl d h.1, eqbL_refl ds h.2⟩
end
theorem rng2_nat {a b : Nat} {ρ : Rho} {ω : List Cell} (h : a ≤ 16777216) (h2 : b ≤ 16777216) : rng2 (.int (a : Int)) (.int (b : Int)) ρ ω = some (.val (rangeD a (b - a)) ω) := by
  unfold rng2
  simp only
  rw [if_pos (by omega), show ((b : Int) - (a : Int)).toNat = b - a by omega]
theorem filter_tt {α : Type} (xs : List α) : xs.filter (fun _ => true) = xs := List.filter_eq_self.mpr fun _ _ => rfl
/-- a comprehension without tests -/
theorem lcM_map {α : Type} {vs : List Nat} {src : M (List D)} {T : TT1} {f : M D} {ρ : Rho} {ω ω1 : List Cell} {xs : List α} (enc h : α → D) (hsrc : src ρ ω = some (.val (xs.map enc) ω1)) (hz : xs.length ≤ sizeLine)
    (hs : ∀ x ∈ xs, ∃ ρ2, T (enc x) (wipeE ρ vs) ω1 = some ρ2 ∧ f ρ2 ω1 = some (.val (h x) ω1)) : lcM vs src T (M.pure true) f ρ ω = some (.val (xs.map h) ω1) := by
  have e := lcM_enc (t := M.pure true) enc (fun _ => true) h hsrc hz fun x hx => by
    obtain ⟨ρ2, h1, h2⟩ := hs x hx
    exact ⟨ρ2, h1, rfl, fun _ => h2⟩
  rw [filter_tt] at e
  exact e
section
variable {m c : Str} {T : List (Str × Fn)} {o d : D} {ds : List D} {ρ : Rho} {ω ω1 ω2 ω' : List Cell} {fl : List (Str × D)} {Gf : Fn} {fo fi : M D} {fs : M (List D)}
theorem ownM_ev (hv : view ω o = some (.obj c fl)) (hl : T.lookup c = some Gf) (h : Gf (o :: ds) ω = some (.val d ω')) : ownM m T o ds ρ ω = some (.val d ω') := by
  unfold ownM
  simp only [hv, hl]
  exact callM_of h
theorem lenO_ev {n : Nat} (ho : fo ρ ω = some (.val o ω1)) (hv : view ω1 o = some (.obj c fl)) (hl : T.lookup c = some Gf) (h : Gf [o] ω1 = some (.val (.int n) ω')) (hn : n ≤ 4611686018427387904) : lenO T fo ρ ω = some (.val (.int n) ω') := by
  unfold lenO
  rw [bind_ev ho, bind_ev (ownM_ev hv hl h)]
  unfold lenB
  simp only
  rw [if_pos (by omega)]
theorem ixO_ev {i : D} (ho : fo ρ ω = some (.val o ω1)) (hi : fi ρ ω1 = some (.val i ω2)) (hv : view ω2 o = some (.obj c fl)) (hl : T.lookup c = some Gf) (h : Gf [o, i] ω2 = some (.val d ω')) : ixO T fo fi ρ ω = some (.val d ω') := by
  unfold ixO
  rw [bind_ev ho, bind_ev hi]
  exact ownM_ev hv hl h
theorem methM_ev (ho : fo ρ ω = some (.val o ω1)) (hv : view ω1 o = some (.obj c fl)) (hn : fl.lookup m = none) (hl : T.lookup c = some Gf) (ha : fs ρ ω1 = some (.val ds ω2)) (h : Gf (o :: ds) ω2 = some (.val d ω')) : methM m T fo fs ρ ω = some (.val d ω') := by
  unfold methM
  rw [bind_ev ho, bind_ev (a := c) (ω1 := ω1) (by unfold clsM; simp only [hv, hn])]
  unfold selM
  simp only [hl]
  rw [bind_ev ha]
  exact callM_of h
theorem mkO_ev {I : List D → Option (List (Str × D))} (ha : fs ρ ω = some (.val ds ω1)) (h : I ds = some fl) (no : noOF fl = true) : (fs.bind (mkO c I)) ρ ω = some (.val (.obj c fl) ω1) := by
  rw [bind_ev ha]
  unfold mkO
  simp only [h]
  rw [if_pos no]
theorem setS_ev {i : Nat} (h : fo ρ ω = some (.val d ω')) : setS i fo ρ ω = some (.nx (ρ.set i (.fz d)) ω') := by unfold setS; rw [bindS_ev h]
theorem retS_ev (h : fo ρ ω = some (.val d ω')) : retS fo ρ ω = some (.rt d ω') := by unfold retS; rw [bindS_ev h]
theorem setO_ev {i : Nat} (h : fs ρ ω = some (.val ds ω')) : setO i fs ρ ω = some (.nx (ρ.set i (.ow ds)) ω') := by unfold setO; rw [bindS_ev h]
theorem appS_ev {i : Nat} {es : List D} (hi : ρ[i]? = some (.ow es)) (h : fo ρ ω = some (.val d ω')) (hz : es.length < sizeLine) : appS i fo ρ ω = some (.nx (ρ.set i (.ow (es ++ [d]))) ω') := by
  unfold appS
  simp only [hi]
  rw [bindS_ev h, if_pos hz]
theorem extS_ev {i : Nat} {es xs : List D} (hi : ρ[i]? = some (.ow es)) (h : fo ρ ω = some (.val d ω')) (hv : view ω' d = some (.lst xs)) (hz : es.length + xs.length ≤ sizeLine) : extS i fo ρ ω = some (.nx (ρ.set i (.ow (es ++ xs))) ω') := by
  unfold extS
  simp only [hi]
  rw [bindS_ev h]
  simp only [hv]
  rw [if_pos hz]
theorem tst_ev {b : Bool} (h : fo ρ ω = some (.val (.bl b) ω')) : tst fo ρ ω = some (.val b ω') := by unfold tst; rw [bind_ev h]; rfl
theorem truM_ev {b : Bool} (h : fo ρ ω = some (.val (.bl b) ω')) : truM fo ρ ω = some (.val b ω') := by unfold truM; rw [bind_ev h]; rfl
theorem cons_ev (h : fo ρ ω = some (.val d ω1)) (h2 : fs ρ ω1 = some (.val ds ω2)) : consM fo fs ρ ω = some (.val (d :: ds) ω2) := by unfold consM; rw [bind_ev h, bind_ev h2]; rfl
end
theorem lenOk_ev {ds : List D} {ρ : Rho} {ω : List Cell} (h : ds.length ≤ 1000) : lenOk ds ρ ω = some (.val ds ω) := by
  unfold lenOk
  rw [if_pos (by rw [sizeLine_eq]; omega)]
theorem mkTup_ev {ds : List D} {ρ : Rho} {ω : List Cell} (h : ds.length ≤ 1000) : mkTup ds ρ ω = some (.val (.tup ds) ω) := by
  unfold mkTup
  rw [if_pos (by rw [sizeLine_eq]; omega)]
theorem new0 {ρ : Rho} {ω : List Cell} : ((M.pure []).bind lenOk) ρ ω = some (.val [] ω) := by
  rw [bind_ev (a := []) (ω1 := ω) rfl]
  exact lenOk_ev (by simp)
mutual
theorem noO_plain : ∀ d : D, DL.plain d = true → noO d = true
  | .non, _ => rfl
  | .bl _, _ => rfl
  | .int _, _ => rfl
  | .str _, _ => rfl
  | .tup ds, h => by simp only [noO]; exact noOL_plain ds (by simpa [DL.plain] using h)
  | .lst ds, h => by simp only [noO]; exact noOL_plain ds (by simpa [DL.plain] using h)
  | .dic _, h => by cases h
  | .obj _ _, h => by cases h
  | .oid _, h => by cases h
  | .scr _, h => by cases h
theorem noOL_plain : ∀ ds : List D, plainL ds = true → noOL ds = true
  | [], _ => rfl
  | d :: ds, h => by
    simp only [plainL, Bool.and_eq_true] at h
    simp only [noOL, Bool.and_eq_true]
    exact ⟨noO_plain d h.1, noOL_plain ds h.2⟩
end
end DL
/-! DL15: operators and == by an own class's defs; isinstance with own classes. -/
namespace DL
open PySem L2
theorem back_cmp {X : Cx} {pins : List (Addr × Obj)} {σ : St} {Q : VK} {u : Value} {s' : Shared} (h : EP X pins σ Q u s') : PySem.W.CmpBack (EP X pins σ Q) u s' := by
  have h0 := h
  obtain ⟨v, H', I, r, q⟩ := h
  cases v with
  | non => cases (show u = Value.none from r); exact h0
  | bl b => cases (show u = Value.bool b from r); exact h0
  | int i => obtain ⟨t, e⟩ := (show ∃ t, u = Value.int i t from r); cases e; exact h0
  | str i => obtain ⟨t, e⟩ := (show ∃ t, u = Value.str i t from r); cases e; exact h0
  | byt i => obtain ⟨t, e⟩ := (show ∃ t, u = Value.bytes i t from r); cases e; exact h0
  | flt i => obtain ⟨t, e⟩ := (show ∃ t, u = Value.float i t from r); cases e; exact h0
  | ref a => cases (show u = Value.ref a from r); exact h0
  | ty n => cases (show u = Value.type n from r); exact h0
/-- what an operator asks of a class -/
structure OpC (K : PySem.W.Frag) (C : Addr) (op : Operator) : Prop where
  first : PySem.W.selfFirst K C = true
  refl : PySem.W.findIn K (.ref C) (PySem.dunderR op.info.2) = some none
  int1 : ∃ fo, PySem.W.findIn K (.type "int") (PySem.dunder op.info.2) = some fo
  int2 : ∃ ro, PySem.W.findIn K (.type "int") (PySem.dunderR op.info.2) = some ro
  sub : PySem.W.subIn K (.type "int") (.ref C) = some false
def OpF (K : PySem.W.Frag) (mg : Str → Option Value) (c : Str) (op : Operator) : Prop := ∃ C, mg c = some (.ref C) ∧ OpC K C op
def OpFs (K : PySem.W.Frag) (mg : Str → Option Value) (op : Operator) (T : List (Str × Fn)) : Prop := ∀ c Gf, T.lookup c = some Gf → OpF K mg c op
theorem opf_nil {K : PySem.W.Frag} {mg : Str → Option Value} {op : Operator} : OpFs K mg op [] := fun c Gf e => by cases e
theorem opf_cons {K : PySem.W.Frag} {mg : Str → Option Value} {op : Operator} {c : Str} {Gf : Fn} {T : List (Str × Fn)} (h : OpF K mg c op) (t : OpFs K mg op T) : OpFs K mg op ((c, Gf) :: T) := fun c' Gf' e => by
  rw [List.lookup_cons] at e
  cases q : c' == c with
  | true => rw [eq_of_beq q]; exact h
  | false => rw [q] at e; exact t c' Gf' e
/-- a thing and a thing of its class -/
def kdS (ω : List Cell) (x y : D) : Bool := match view ω x with
  | some (.obj c _) => match view ω y with
    | some (.obj c' _) => c == c'
    | _ => false
  | _ => false
/-- .. or a number -/
def kdI (ω : List Cell) (y : D) : Bool := match view ω y with
  | some (.int _) => true
  | _ => false
def binO (m : Str) (T : List (Str × Fn)) (fa fb : M D) : M D := fa.bind fun x => fb.bind fun y ρ ω => if (kdS ω x y || kdI ω y) = true then ownM m T x [y] ρ ω else none
def cmpO (m : Str) (T : List (Str × Fn)) (fa fb : M D) : M D := fa.bind fun x => fb.bind fun y ρ ω => if kdS ω x y = true then ownM m T x [y] ρ ω else none
section
variable {X : Cx} {W : WX} {a b : Expr} {fa fb : M D} {k j : Nat} {T : List (Str × Fn)} {pos : Pos} {m : Str}
def rSame (H : Hp) (x y : V) : Prop := ∃ a b C dx dy fs gs, x = .ref a ∧ y = .ref b ∧ H a = some (.ins C dx fs) ∧ H b = some (.ins C dy gs)
theorem kdS_ok {g : G} {A : Ad} {B : Addr → Prop} {H : Hp} {ω : List Cell} {d e : D} {x y : V} (w : Wo g A B H ω) (hx : Dp g A B H x d) (hy : Dp g A B H y e) (h : kdS ω d e = true) : rSame H x y := by
  unfold kdS at h
  split at h
  · rename_i c fs e1
    split at h
    · rename_i c' gs e2
      obtain ⟨a1, C1, dx1, vs1, rfl, h1, h2, h3⟩ := Vw.of hx w e1
      obtain ⟨a2, C2, dx2, vs2, rfl, h4, h5, h6⟩ := Vw.of hy w e2
      rw [eq_of_beq h] at h2
      rw [h2] at h5
      cases h5
      exact ⟨a1, a2, C1, dx1, dx2, vs1, vs2, rfl, rfl, h1, h4⟩
    · cases h
  · cases h
theorem kdI_ok {g : G} {A : Ad} {B : Addr → Prop} {H : Hp} {ω : List Cell} {e : D} {y : V} (w : Wo g A B H ω) (hy : Dp g A B H y e) (h : kdI ω e = true) : ∃ i, y = .int i := by
  unfold kdI at h
  split at h
  · rename_i i e1
    exact ⟨i, Vw.of hy w e1⟩
  · cases h
theorem op_binO {op : Operator} {m : Str} (tk : Takes X W) (hm : m = PySem.dunder op.info.2) : OpRS X (binaryOp op) (fun σ x y H Q => OwnR X W m (fun v H' Q => Q v H') σ [x, y] H Q ∧ (∀ a C dx fs, x = .ref a → H a = some (.ins C dx fs) → OpC X.K C op) ∧ (rSame H x y ∨ ∃ i, y = .int i)) := by
  subst hm
  intro pins s σ H x y v u Q I rx ry ⟨⟨a, C, dx, fs, f, fd, ps, sp, k, ys, e1, hp, ⟨hme, _⟩, hb, F, hr, q⟩, hop, hs⟩
  cases e1
  cases (show v = Value.ref a from rx)
  have o := hop a C dx fs rfl hp
  obtain ⟨mA, J, _⟩ := ins_get I.hok hp
  obtain ⟨od, J, _⟩ := J.look
  obtain ⟨mm, hF⟩ := I.fr
  have run := wpAny_mono (run_at tk F (hr.mono (Nat.le_succ _)) I.env0 hb I (.cons (show RelV (.ref a) (.ref a) from rfl) (.cons ry .nil)) q) (fun u s' z => back_cmp z) fun _ _ x => x
  rcases hs with ⟨a', b, C', _, dy, _, gs, ea, rfl, ha, hb'⟩ | ⟨i, rfl⟩
  · cases ea
    rw [hp] at ha
    cases ha
    cases (show u = Value.ref b from ry)
    obtain ⟨mB, J', _⟩ := ins_get I.hok hb'
    obtain ⟨od', J', _⟩ := J'.look
    exact PySem.W.binop_K hF I.ok.mod.kin J J'.type o.first hme.at_ hme.fn run
  · obtain ⟨t, rfl⟩ := (show ∃ t, u = Value.int i t from ry)
    obtain ⟨fo, h1⟩ := o.int1
    obtain ⟨ro, h2⟩ := o.int2
    exact PySem.W.ksp_binT hF I.ok.mod.kin J rfl o.first hme.at_ hme.fn o.refl (.inl rfl) h1 h2 o.sub run
theorem own_cls {x y : V} {H : Hp} {Q : VK} {op : Operator} {g : G} {A : Ad} {B : Addr → Prop} {ω : List Cell} {ρ : Rho} {d e : D} {r : R D} (hg : g = ⟨X.K, X.mg⟩) (w : Wo g A B H ω) (hx : Dp g A B H x d) (ho : OpFs X.K X.mg op T) (h : ownM m T d [e] ρ ω = some r) : ∀ a C dx fs, x = .ref a → H a = some (.ins C dx fs) → OpC X.K C op := by
  subst hg
  intro a C dx fs ex hp
  unfold ownM at h
  split at h
  · rename_i c fl ev
    cases q2 : T.lookup c with
    | none => simp only [q2] at h; cases h
    | some Gf =>
      obtain ⟨a', C', dx', vs, e1, h1, h2, _⟩ := Vw.of hx w ev
      rw [ex] at e1
      cases e1
      rw [hp] at h1
      cases h1
      obtain ⟨C2, h3, h4⟩ := ho c Gf q2
      have : (some (Value.ref C2) : Option Value) = some (.ref C) := h3.symm.trans h2
      cases this
      exact h4
  · cases h
theorem de_binO {op : Operator} (tk : Takes X W) (hm : m = PySem.dunder op.info.2) (cm : CalMs X.prog X.w X.K X.mg X.base m k T) (ho : OpFs X.K X.mg op T) (hr : Room j X.A) (hj : k + 1 ≤ j) (ha : PE X a (tM ⟨X.K, X.mg⟩ rD W fa)) (hb : PE X b (tM ⟨X.K, X.mg⟩ rD W fb)) : PE X (.BinOp a op b pos) (tM ⟨X.K, X.mg⟩ rD W (binO m T fa fb)) := by
  refine (pe_opS (op_binO tk hm) ha hb).dl ?_
  rintro σ H Q ⟨H0, A, B, ρ, ω, r, fm, e, res⟩
  refine tM_mono (tM_bind fm e res) fun x H1 ⟨A1, B1, ω1, d1, t1, fm1, r1, e1, res1⟩ => ?_
  refine tM_mono (tM_bind fm1 e1 res1) fun y H2 ⟨A2, B2, ω2, d2, t2, fm2, r2, e2, res2⟩ => ?_
  have hx := Dp.mv (fm1.wo.mv t2) _ _ r1
  split at e2
  · rename_i hk
    refine ⟨own_at (W := W) rfl cm hr hj fm2 hx (.cons r2 .nil) e2 res2, own_cls (Q := Q) (y := y) rfl fm2.wo hx ho e2, ?_⟩
    rcases Bool.or_eq_true_iff.mp hk with hk | hk
    · exact .inl (kdS_ok fm2.wo hx r2 hk)
    · exact .inr (kdI_ok fm2.wo r2 hk)
  · cases e2
theorem op_eqO (tk : Takes X W) (hu : X.A.units < cLine) : OpRS X (compareOp .Eq) (fun σ x y H Q => OwnR X W "__eq__" (fun v H' Q => Q v H') σ [x, y] H Q ∧ rSame H x y) := by
  intro pins s σ H x y v u Q I rx ry ⟨⟨a, C, dx, fs, f, fd, ps, sp, k, ys, e1, hp, ⟨hme, _⟩, hb, F, hr, q⟩, hs⟩
  cases e1
  cases (show v = Value.ref a from rx)
  obtain ⟨mA, J, _⟩ := ins_get I.hok hp
  obtain ⟨od, J, _⟩ := J.look
  obtain ⟨mm, hF⟩ := I.fr
  have run := wpAny_mono (run_at tk F (hr.mono (Nat.le_succ _)) I.env0 hb I (.cons (show RelV (.ref a) (.ref a) from rfl) (.cons ry .nil)) q) (fun u s' z => back_cmp z) fun _ _ x => x
  obtain ⟨a', b, C', _, dy, _, gs, ea, rfl, ha, hb'⟩ := hs
  cases ea
  rw [hp] at ha
  cases ha
  cases (show u = Value.ref b from ry)
  obtain ⟨mB, J', _⟩ := ins_get I.hok hb'
  obtain ⟨od', J', _⟩ := J'.look
  exact PySem.W.cmp_K (op := .Eq) (tb := .ref C) hu hF I.ok.mod.kin J J'.type (by simp [PySem.W.notFirst]) hme.at_ hme.fn run
theorem Room.u0 {k : Nat} {A : Around} (hr : Room k A) : A.units < cLine := by have := hr.un; omega
theorem tM_eqO (cm : CalMs X.prog X.w X.K X.mg X.base "__eq__" k T) (hr : Room j X.A) (hj : k + 1 ≤ j) : ∀ σ H Q, tM ⟨X.K, X.mg⟩ rD W (cmpO "__eq__" T fa fb) σ H Q → tOpS (fun σ x y H Q => OwnR X W "__eq__" (fun v H' Q => Q v H') σ [x, y] H Q ∧ rSame H x y) (tM ⟨X.K, X.mg⟩ rD W fa) (tM ⟨X.K, X.mg⟩ rD W fb) σ H Q := by
  rintro σ H Q ⟨H0, A, B, ρ, ω, r, fm, e, res⟩
  refine tM_mono (tM_bind fm e res) fun x H1 ⟨A1, B1, ω1, d1, t1, fm1, r1, e1, res1⟩ => ?_
  refine tM_mono (tM_bind fm1 e1 res1) fun y H2 ⟨A2, B2, ω2, d2, t2, fm2, r2, e2, res2⟩ => ?_
  have hx := Dp.mv (fm1.wo.mv t2) _ _ r1
  split at e2
  · rename_i hk
    exact ⟨own_at (W := W) rfl cm hr hj fm2 hx (.cons r2 .nil) e2 res2, kdS_ok fm2.wo hx r2 hk⟩
  · cases e2
theorem de_eqO (tk : Takes X W) (cm : CalMs X.prog X.w X.K X.mg X.base "__eq__" k T) (hr : Room j X.A) (hj : k + 1 ≤ j) (ha : PE X a (tM ⟨X.K, X.mg⟩ rD W fa)) (hb : PE X b (tM ⟨X.K, X.mg⟩ rD W fb)) : PE X (.Compare a [.Eq] [b] pos) (tM ⟨X.K, X.mg⟩ rD W (cmpO "__eq__" T fa fb)) :=
  (pe_cmpRS (op_eqO tk (Room.u0 hr)) ha hb (nomark _)).dl (tM_eqO cm hr hj)
theorem dt_eqO (tk : Takes X W) (cm : CalMs X.prog X.w X.K X.mg X.base "__eq__" k T) (hr : Room j X.A) (hj : k + 1 ≤ j) (ha : PE X a (tM ⟨X.K, X.mg⟩ rD W fa)) (hb : PE X b (tM ⟨X.K, X.mg⟩ rD W fb)) : PT X (.Compare a [.Eq] [b] pos) (tM ⟨X.K, X.mg⟩ rB W (tst (cmpO "__eq__" T fa fb))) :=
  (pt_cmpRS (op_eqO tk (Room.u0 hr)) ha hb (nomark _)).dl fun σ H Q ⟨H0, A, B, ρ, ω, r, fm, e, res⟩ => by
    refine tM_eqO cm hr hj σ H _ (tM_mono (tM_bind fm e res) fun x H1 ⟨A1, B1, ω1, d1, t1, fm1, r1, e1, res1⟩ => ?_)
    unfold asB at e1
    cases d1 with
    | bl k =>
      cases e1
      cases r1
      exact ⟨k, rfl, res1 k A1 B1 H1 (.refl _ _ _) fm1.wo rfl⟩
    | _ => cases e1
end

/-! ### isinstance with an own class -/
def IsF (K : PySem.W.Frag) (mg : Str → Option Value) (c c' : Str) (b : Bool) : Prop := ∃ C C', mg c = some (.ref C) ∧ mg c' = some (.ref C') ∧ ClT K C' ∧ PySem.W.kitOne K (.ref C') (.ref C) = some b
def IsFs (K : PySem.W.Frag) (mg : Str → Option Value) (c : Str) (T : List (Str × Bool)) : Prop := ∀ c' b, T.lookup c' = some b → IsF K mg c c' b
theorem isf_nil {K : PySem.W.Frag} {mg : Str → Option Value} {c : Str} : IsFs K mg c [] := fun c Gf e => by cases e
theorem isf_cons {K : PySem.W.Frag} {mg : Str → Option Value} {c c1 : Str} {b : Bool} {T : List (Str × Bool)} (h : IsF K mg c c1 b) (t : IsFs K mg c T) : IsFs K mg c ((c1, b) :: T) := fun c' b' e => by
  rw [List.lookup_cons] at e
  cases q : c' == c1 with
  | true =>
    rw [q] at e
    cases e
    rw [eq_of_beq q]; exact h
  | false => rw [q] at e; exact t c' b' e
def isiO (T : List (Str × Bool)) : D → Option D
  | .obj c _ => (T.lookup c).map D.bl
  | _ => none
section
variable {X : Cx} {W : WX} {e : Expr} {p pos np : Pos} {fa : M D} {c : Str} {T : List (Str × Bool)}
theorem de_isiO (hF : IsFs X.K X.mg c T) (hg : Gl X "isinstance") (hm : X.mg "isinstance" = none) (hgx : Gl X c) (hc0 : ∃ C, X.mg c = some (.ref C)) (ha : PE X e (tM ⟨X.K, X.mg⟩ rW W fa)) (hdx : (c == ("__debug__" : Str)) = false := by decide)
    (he : starEach [e, .Name c np] X.env = (false, eval e X.env) :: starEach [.Name c np] X.env := by rfl) (he2 : starEach [.Name c np] X.env = (false, eval (.Name c np) X.env) :: starEach [] X.env := by rfl) (hpl : (backTo pos (starEach [.Name c np] X.env)).any (·.1) = false := by rfl) :
    PE X (.Call (.Name "isinstance" p) [e, .Name c np] [] pos) (tM ⟨X.K, X.mg⟩ rD W (uo (isiO T) fa)) := by
  obtain ⟨C, hc⟩ := hc0
  exact (pe_callB call_isi hg hm (by decide +kernel) (pa_cons ha (pa_cons (pe_glob (v := .ref C) hgx hc rfl hdx) pa_nil he2) he) (by decide) (by decide) he hpl).dl fun σ H Q h => tM_op1 (r := fun x H Q => rIsi X.K [x, .ref C] H Q) (fun A B H ω x a d Q w hv e q => by
    cases a with
    | obj c' fs =>
      simp only [isiO] at e
      cases q1 : T.lookup c' with
      | none => rw [q1] at e; cases e
      | some b =>
        rw [q1] at e
        cases e
        obtain ⟨a, C2, dx, vs, rfl, hp, hm2, l⟩ := hv
        obtain ⟨C1, C3, h1, h2, h3, h4⟩ := hF c' b q1
        rw [hc] at h1
        cases h1
        have : (some (Value.ref C3) : Option Value) = some (.ref C2) := h2.symm.trans hm2
        cases this
        exact ⟨.ref a, .ref C, .ref C2, .ref C, b, rfl, .own C, .base (.ins hp h3.cl h3.ha h3.hn h3.ht h3.hm), h4, q.now w (.bl b)⟩
    | _ => cases e) σ H Q h
end
section
variable {m c : Str} {T : List (Str × Fn)} {x y d : D} {ρ : Rho} {ω ω1 ω2 ω' : List Cell} {fl gl : List (Str × D)} {Gf : Fn} {fa fb : M D}
theorem binO_ev (ha : fa ρ ω = some (.val x ω1)) (hb : fb ρ ω1 = some (.val y ω2)) (hk : (kdS ω2 x y || kdI ω2 y) = true) (hv : view ω2 x = some (.obj c fl)) (hl : T.lookup c = some Gf) (h : Gf [x, y] ω2 = some (.val d ω')) : binO m T fa fb ρ ω = some (.val d ω') := by
  unfold binO
  rw [bind_ev ha, bind_ev hb, if_pos hk]
  exact ownM_ev hv hl h
theorem cmpO_ev (ha : fa ρ ω = some (.val x ω1)) (hb : fb ρ ω1 = some (.val y ω2)) (hk : kdS ω2 x y = true) (hv : view ω2 x = some (.obj c fl)) (hl : T.lookup c = some Gf) (h : Gf [x, y] ω2 = some (.val d ω')) : cmpO m T fa fb ρ ω = some (.val d ω') := by
  unfold cmpO
  rw [bind_ev ha, bind_ev hb, if_pos hk]
  exact ownM_ev hv hl h
end
end DL
/-! DL16: exceptions of own classes: made, raised, caught. -/
namespace DL
open PySem L2

/-! ### defs that may raise -/
theorem hf_X {N : List Str} {k : Nat} {F : MS} : ∀ ds ω r, fnOf N k F ds ω = some r → ds.length = k ∧ ∃ rs, F (startE N ds) ω = some rs ∧ retOf rs = some r := by
  intro ds ω r h
  unfold fnOf at h
  split at h
  · rename_i hl
    split at h
    · rename_i rs e
      exact ⟨hl, rs, e, h⟩
    · cases h
  · cases h
theorem hf_VX {F : MS} {N : List Str} {k : Nat} {Gf : Fn} (h : ∀ ds ω r, Gf ds ω = some r → ds.length = k ∧ ∃ d ω' rs, r = .val d ω' ∧ F (startE N ds) ω = some rs ∧ retOf rs = some r) : ∀ ds ω r, Gf ds ω = some r → ds.length = k ∧ ∃ rs, F (startE N ds) ω = some rs ∧ retOf rs = some r := fun ds ω r e => by
  obtain ⟨h1, d, ω', rs, h2, h3, h4⟩ := h ds ω r e
  exact ⟨h1, rs, h3, h4⟩
section
variable {N : List Str} {k : Nat} {F : MS} {ds : List D} {ω ω' : List Cell} {d : D} {ρ : Rho} {x : Exc}
theorem fn_rt (hl : ds.length = k) (h : F (startE N ds) ω = some (.rt d ω')) : fnOf N k F ds ω = some (.val d ω') := by unfold fnOf; rw [if_pos hl, h]; rfl
theorem fn_nx (hl : ds.length = k) (h : F (startE N ds) ω = some (.nx ρ ω')) : fnOf N k F ds ω = some (.val .non ω') := by unfold fnOf; rw [if_pos hl, h]; rfl
theorem fn_ex (hl : ds.length = k) (h : F (startE N ds) ω = some (.exc x ρ ω')) : fnOf N k F ds ω = some (.exc x ω') := by unfold fnOf; rw [if_pos hl, h]; rfl
end

/-! ### C.__init__(self, ..) of a class over ValueError -/
/-- the base class: its __init__ is ValueError's -/
structure SeI (K : PySem.W.Frag) (mg : Str → Option Value) (c : Str) : Prop where
  ex : ∃ C mc, mg c = some (.ref C) ∧ PySem.W.readsIn K C mc = true ∧ PySem.W.specialIn K (.ref C) "__getattribute__" = some (some (.builtin "type.__getattribute__")) ∧ PySem.W.findCls K (.ref C) mc "__init__" = some (.val (.builtin "ValueError.__init__"))
theorem pe_seinit {X : Cx} {c : Str} {e : Expr} {es : List Expr} {ta : TA} {p1 p2 pos : Pos} {pl : Sem Bool} (S : SeI X.K X.mg c) (hg : Gl X c) (ha : PA X (e :: es) ta) (hdb : (c == ("__debug__" : Str)) = false := by decide)
    (hc : eval (.Call (.Attribute (.Name c p1) "__init__" p2) (e :: es) [] pos) X.env = (do
      let ov ← eval (.Name c p1) X.env
      standAt p2.atName
      let (f, first) ← holding [ov] (getMethod ov "__init__" pl)
      callWith pos f first (backTo pos (starEach (e :: es) X.env)) (backToKw pos (keywordEach [] X.env))) := by rfl)
    (he : starEach (e :: es) X.env = (false, eval e X.env) :: starEach es X.env := by rfl) (hpl : (backTo pos (starEach es X.env)).any (·.1) = false := by rfl) :
    PE X (.Call (.Attribute (.Name c p1) "__init__" p2) (e :: es) [] pos) (tVeI X.K ta) := by
  obtain ⟨C0, mc, hm, rd, ga, at_⟩ := S.ex
  refine ⟨fun pins s σ H Q I h => ?_⟩
  refine PySem.W.methodCall_KW (pl := pl) (ld_glob I hg hm ?_ hdb) hc
  refine PySem.W.method_cls I.kIn ga (PySem.W.cls_value I.kIn rd at_ rfl ?_)
  show wpAny _ _ (callWith pos (Value.builtin "ValueError.__init__") [] (backTo pos (starEach (e :: es) X.env)) []) _ _ _
  refine PyProof.Rows.callWith_method1 (thn (ha.run pos pins _ σ H _ (I.tok _) h) fun us s1 ⟨vs, H1, I1, r1, a, C, ws, ev, hl, T, ea, q⟩ => ?_) he hpl
  subst ev
  cases r1 with
  | @cons _ u0 _ ur ra rw' =>
    obtain rfl : u0 = Value.ref a := ra
    have hlen : ur.length ≤ sizeLine := by
      rw [← Paired.length rw', sizeLine_eq]
      omega
    exact oinit_ok T I1 ea hlen fun s' J => ⟨.non, H1, J, rfl, q⟩
/-- what __init__(self, v) does with a new exception -/
def spXI (K : PySem.W.Frag) (C : Addr) (f : Str) : Sp := fun vs H Q _ => ∃ (a : Addr) (v : V), vs = [.ref a, v] ∧ H a = some (exo a C none) ∧ ∀ dx, H dx = none → dx ≠ a → Q .non (upd (upd H dx (exd dx [(f, v)])) a (exo a C (some dx)))
theorem xi_ans {K : PySem.W.Frag} {C : Addr} {f m : Str} {N : List Str} (T : OexC K C) (hno : PySem.W.findIn K (.ref C) f = some none) {vs : List V} {H : Hp} {Q : VK} {E : XK} (hN : N.length = 2) (h : spXI K C f vs H Q E) :
    (tSeq (tDrop (tVeI K (tCons (tVar 0) (tCons (tC (.str m)) tNil)))) (tOst K f (tVar 0) (tVar 1))) { nx := fun _ H' => Q .non H', rt := Q } (L2.start N vs) H := by
  obtain ⟨a, v, rfl, ha, q⟩ := h
  have e0 : (L2.start N [.ref a, v])[0]? = some (some (.ref a)) := by unfold L2.start; rfl
  have e1 : (L2.start N [.ref a, v])[1]? = some (some v) := by unfold L2.start; rfl
  refine ⟨_, e0, ?_⟩
  refine ⟨a, C, [.str m], rfl, Nat.le_add_left 1 999, T, ha, ?_⟩
  exact ⟨v, e1, _, e0, a, C, rfl, T, hno, .inl ⟨ha, fun dx hd ne => q dx hd ne⟩⟩
/-- the class c of exceptions, with one field f -/
structure CalX (P : Program) (w : World) (K : PySem.W.Frag) (mg : Str → Option Value) (base : Heap) (c f : Str) (ps : List Str) (k : Nat) : Prop where
  ex : ∃ C fI fd, mg c = some (.ref C) ∧ OexC K C ∧ PySem.W.findIn K (.ref C) "__init__" = some (some (.ref fI)) ∧ PySem.W.typeIn K (.ref fI) = some (.type "function") ∧ Binds K fd ps [] ∧ FnOk P w K mg base CX0 k fI fd ps (spXI K C f)
/-- raise c(e) -/
def raiS (c f : Str) (fm : M D) : MS := bindS fm fun d ρ ω => some (.exc ⟨c, [(f, d)]⟩ ρ ω)
section
variable {X : Cx} {n : En} {W : WX} {c f : Str} {e : Expr} {fm : M D} {p p2 pos : Pos} {ps : List Str} {k j : Nat}
theorem ds_raise (tk : Takes X W) (hc : X.calm = true) (cx : CalX X.prog X.w X.K X.mg X.base c f ps k) (hr : Room j X.A) (hj : k + 1 ≤ j) (hg : Gl X c) (ha : PE X e (tM ⟨X.K, X.mg⟩ rD W fm)) (hdb : (c == ("__debug__" : Str)) = false := by decide)
    (he : starEach [e] X.env = (false, eval e X.env) :: starEach [] X.env := by rfl) (hpl : (backTo pos (starEach [] X.env)).any (·.1) = false := by rfl) :
    PS X (.Raise (some (.Call (.Name c p) [e] [] pos)) none p2) (tS ⟨X.K, X.mg⟩ n W (raiS c f fm)) := by
  obtain ⟨C, fI, fd, h1, h2, h3, h4, h5, h6⟩ := cx.ex
  refine (ps_raise hc tk (pmk_oex h2 h3 h4 h6 (hr.mono hj) h5 .nil pass0 hg h1 (pa_cons ha pa_nil he) hdb he hpl)).dl fun D σ H ⟨A, B, ρ, ω, r, s, fm0, e0, res⟩ => ?_
  refine tM_mono (tS_bind s fm0 e0 res) fun v H1 ⟨A1, B1, ω1, d, t1, m1, s1, fm1, r1, e1, res1⟩ => ?_
  cases e1
  refine ⟨Nat.le_add_left 1 999, fun a hn => ⟨a, v, rfl, upd_same, fun dx hd ne => ⟨rfl, dx, [(f, v)], upd_same, ?_, ?_, ?_⟩⟩⟩
  · rw [upd_ne ne, upd_same]
  · rw [upd_ne ne] at hd; exact hd
  · rw [upd_ne ne] at hd
    have eh : upd (del (upd (upd (upd H1 a (exo a C none)) dx (exd dx [(f, v)])) a (exo a C (some dx))) a) dx (.xd [(f, v)]) = upd H1 dx (.xd [(f, v)]) := by
      funext b
      by_cases hb : b = dx
      · rw [hb, upd_same, upd_same]
      · rw [upd_ne hb, upd_ne hb]
        by_cases hba : b = a
        · rw [hba, del_same, hn]
        · rw [del_ne hba, upd_ne hba, upd_ne hb, upd_ne hba]
    rw [eh]
    have t2 : Stp A1 B1 H1 A1 B1 (upd H1 dx (.xd [(f, v)])) := Stp.grow hd
    exact res1 (.ref C) (some dx) σ A1 B1 _ (Mv.grow hd) (s1.trans t2) (fm1.up t2 (fm1.wo.grow hd)) ⟨h1, .inl ⟨dx, [(f, v)], rfl, fm1.wo.nb hd, upd_same, .cons (Dp.mv (Mv.grow hd) _ _ r1) .nil⟩⟩
end
end DL
/-! DL17: try with several clauses, each with or without a name. -/
namespace DL
open PySem L2
open PyProof.Rows hiding St

abbrev SuT := Addr → Value → Option Addr → TS
/-- behind a suite its name is gone -/
def offD (oi : Option Nat) (D : Ends) : Ends := match oi with
  | none => D
  | some i => { nx := fun σ' H' => D.nx (σ'.set i none) H', rt := D.rt, bk := fun σ' H' => D.bk (σ'.set i none) H', ct := fun σ' H' => D.ct (σ'.set i none) H' }
def onS (oi : Option Nat) (a : Addr) (σ : St) : St := match oi with
  | none => σ
  | some i => σ.set i (some (.ref a))
/-- what the clauses ask, one after the other -/
def wCls (K : PySem.W.Frag) (Wo : WX) (D : Ends) : List (Value × Option Nat × SuT) → WX
  | [] => Wo
  | (c, oi, ts) :: r => fun cls d σ H => ∃ b, PySem.W.exmOne K cls c = some b ∧ (b = true → ∀ a, H a = none → ts a cls d (offD oi D) (onS oi a σ) H) ∧ (b = false → wCls K Wo D r cls d σ H)
inductive ClsOk (X : Cx) : List ExceptHandler → List (Value × Option Nat × SuT) → Prop
  | nil : ClsOk X [] []
  | one {x : Str} {c : Value} {ts : SuT} {b₀ : Stmt} {su : List Stmt} {np p : Pos} {hds : List ExceptHandler} {l : List (Value × Option Nat × SuT)} (hc : Names X x c)
      (hsu : ∀ (a : Addr) (oe : Obj) (cls : Value) (d : Option Addr) (pn : List (Addr × Obj)), Zc cls d oe → (∃ vs, oe.data = .fields vs) → PSs (X.suite a ((a, oe) :: pn)) (b₀ :: su) (ts a cls d)) (r : ClsOk X hds l) :
      ClsOk X (.ExceptHandler (some (.Name x np)) none (b₀ :: su) p :: hds) ((c, none, ts) :: l)
  | as {x n : Str} {i : Nat} {c : Value} {ts : SuT} {b₀ : Stmt} {su : List Stmt} {np p : Pos} {hds : List ExceptHandler} {l : List (Value × Option Nat × SuT)} (hN : X.N.Nodup) (hi : X.N[i]? = some n) (hln : X.env.kindOf n = some .local) (hc : Names X x c)
      (hsu : ∀ (a : Addr) (oe : Obj) (cls : Value) (d : Option Addr) (pn : List (Addr × Obj)), Zc cls d oe → (∃ vs, oe.data = .fields vs) → PSs (X.suite a ((a, oe) :: pn)) (b₀ :: su) (ts a cls d)) (r : ClsOk X hds l) :
      ClsOk X (.ExceptHandler (some (.Name x np)) (some n) (b₀ :: su) p :: hds) ((c, some i, ts) :: l)
section
variable {X : Cx} {body : List Stmt} {h₀ : ExceptHandler} {hds : List ExceptHandler} {l : List (Value × Option Nat × SuT)} {pos : Pos} {tb : WX → TS} {Wout : WX}
theorem ps_try_cls (hs : X.stack = X.env :: X.outer) (hf : X.env.frame = some X.env.locals) (tk : Takes X Wout)
    (hb : ∀ (W : WX) (pn : List (Addr × Obj)) (xe : Value → Shared → Prop), Takes (X.tr pn xe) W → PassesOwn (model X.prog X.w) X.A X.env xe → PSs (X.tr pn xe) body (tb W))
    (hh : ClsOk X (h₀ :: hds) l) : PS X (.Try body (h₀ :: hds) [] [] pos) (fun D σ H => tb (wCls X.K Wout D l) D σ H) := by
  refine ⟨fun pins s σ H D I h => ?_⟩
  have ok := I.ok
  have hfr : X.A.frames = some (X.env :: X.outer) := by rw [ok.frames, hs]
  refine wpAny_Try_except (wpAny_mono ((hb (wCls X.K Wout D l) (X.pn ++ pins) (fun e s₁ => wpAny (model X.prog X.w) X.A (noteFrame e X.env) (fun _ s₂ => wpAny (model X.prog X.w) X.A (setFlight e none) (fun _ s₃ =>
    wpAny (model X.prog X.w) X.A (handleBy e X.env (h₀ :: hds)) (SP X pins D) X.xe s₃) X.xe s₂) X.xe s₁) (fun u s' xx => ?_) PassesOwn.looking).run [] s σ H D (I.toTry _) h) (fun f s1 hsp => ?_) (fun e s1 he => he))
  · obtain ⟨a, B, sI, pins', σ', H', cls, d, rfl, J', nb, up, sky, na, os, ag, w⟩ := xx
    have J : Inv X pins σ' H' sI := J'.ofTry ok
    have sky' : Sky B (X.env :: X.outer) a (Zc cls d) X.env.locals s'.heap := by rw [← hs]; exact sky
    show wpAny (model X.prog X.w) X.A (noteFrame (.ref a) X.env) _ _ _
    refine Sky.land Zc.steady hfr hf sky' fun h3 fl3 up3 => ?_
    have J3 : Inv X pins σ' H' { s' with heap := h3 } := J.landed nb fl3.1 (up.trans up3) os ag
    obtain ⟨oe3, vs3, he3, hz3, hd3⟩ := fl3.there
    have nfr : a ∉ frs (X.env :: X.outer) := fun hm => by
      obtain ⟨_, o', e', hnf⟩ := fl3.2.2.1.mem hm
      rw [he3] at e'; cases e'
      exact hnf _ hd3
    have nL : a ≠ X.env.locals := fun z => nfr (List.mem_filterMap.mpr ⟨X.env, List.mem_cons_self, by rw [hf, z]⟩)
    have nF : a ∉ X.fs := fun hm => by
      obtain ⟨e, he, q⟩ := List.mem_filterMap.mp hm
      exact nfr (List.mem_filterMap.mpr ⟨e, List.mem_cons_of_mem _ he, q⟩)
    have S3 := J3.suite he3 hd3 na nL nF
    have LT : PySem.W.Looks (model X.prog X.w) h3 (typeOf (.ref a)) cls := fun A Q E s k q => wpAny_typeOf_ref (k _ _ he3) (by rw [hz3.1]; exact q)
    have test : ∀ {x : Str} {c : Value} {np : Pos} {Q : Value → Shared → Prop} {E : Value → Shared → Prop}, Names X x c → Q c { s' with heap := h3 } → wpAny (model X.prog X.w) (X.A.mark (some (.ref a))) (eval (.Name x np) X.env) Q E { s' with heap := h3 } := fun {x c np Q E} hc q => by
      obtain ⟨hg, hdbg, hm | ⟨hm, hv, hnn⟩⟩ := hc
      · exact ld_glob (X := X.suite a ((a, oe3) :: (X.pn ++ pins))) S3 hg hm q hdbg
      · exact ld_blt (X := X.suite a ((a, oe3) :: (X.pn ++ pins))) S3 hg hm hv q hnn hdbg
    have go : ∀ {hds' : List ExceptHandler} {l' : List (Value × Option Nat × SuT)}, ClsOk X hds' l' → wCls X.K Wout D l' cls d σ' H' → wpAny (model X.prog X.w) X.A (handleBy (.ref a) X.env hds') (SP X pins D) X.xe { s' with heap := h3 } := by
      intro hds' l' hk
      induction hk with
      | nil =>
        intro w
        refine wpAny_handleBy_nil ?_
        obtain ⟨k1, k2, k3, oe, vs, T, oT, ts', he, hz, hd, h1, hr⟩ := id fl3
        unfold PySem.passOn
        refine wpAny_bind (wpAny_field he hd h1 ?_)
        rw [if_neg (show ¬ ((Value.ref T == Value.none) = true) from by simp)]
        have fin : wpAny (model X.prog X.w) X.A (setFlight (.ref a) X.env.frame) (fun _ s4 => wpAny (model X.prog X.w) X.A (throw (.ref a) : Sem Flow) (SP X pins D) X.xe s4) X.xe { s' with heap := h3 } := by
          rw [hf]
          exact HandSPX.setFlight_upZ fl3 fun h4 hh4 up4 => wpAny_throw (tk _ _ ⟨a, B, sI, pins, σ', H', cls, d, rfl, J, nb, (up.trans up3).trans up4, .inr (.inr (by rw [hs]; exact hh4)), na, os, ag, w⟩)
        first
          | exact wpAny_bind (wpAny_pure (wpAny_bind fin))
          | exact wpAny_bind fin
      | @one x c ts b₀ su np p hds2 l2 hc hsu r ih =>
        rintro ⟨b, hb1, hyes, hno⟩
        refine wpAny_handleBy_cons (codeAny_handlers_test (test hc ((PySem.W.exm_one (M := model X.prog X.w) (J3.kIn) LT hb1).here ?_))) (by intro q; cases q)
        cases b with
        | true =>
          refine codeAny_handlers_suite (HandSPX.lands_againZ fl3 fun h4 fl4 up4 => ?_)
          have J4 : Inv X pins σ' H' { s' with heap := h4 } := J.landed nb fl4.1 ((up.trans up3).trans up4) os ag
          obtain ⟨oe4, vs4, he4, hz4, hd4⟩ := fl4.there
          refine wpAny_mono ((hsu a oe4 cls d (X.pn ++ pins) hz4 ⟨_, hd4⟩).run [] _ _ H' _ (J4.suite he4 hd4 na nL nF) (hyes rfl a na)) (fun f s6 hsp => ?_) (fun _ _ z => False.elim z)
          cases f with
          | next => obtain ⟨σ6, H6, S6, q6⟩ := hsp; exact ⟨_, _, S6.unsuite ok, q6⟩
          | brk => obtain ⟨σ6, H6, S6, q6⟩ := hsp; exact ⟨_, _, S6.unsuite ok, q6⟩
          | cont => obtain ⟨σ6, H6, S6, q6⟩ := hsp; exact ⟨_, _, S6.unsuite ok, q6⟩
          | ret u => obtain ⟨v6, σ6, H6, S6, r6, q6⟩ := hsp; exact ⟨_, _, _, S6.unsuite ok, r6, q6⟩
        | false => exact ih (hno rfl)
      | @as x n i c ts b₀ su np p hds2 l2 hN hi hln hc hsu r ih =>
        rintro ⟨b, hb1, hyes, hno⟩
        refine wpAny_handleBy_cons (codeAny_handlers_test (test hc ((PySem.W.exm_one (M := model X.prog X.w) (J3.kIn) LT hb1).here ?_))) (by intro q; cases q)
        cases b with
        | true =>
          refine codeAny_handlers_suite_as (HandSPX.lands_againZ fl3 fun h4 fl4 up4 => ?_)
          have J4 : Inv X pins σ' H' { s' with heap := h4 } := J.landed nb fl4.1 ((up.trans up3).trans up4) os ag
          obtain ⟨oe4, vs4, he4, hz4, hd4⟩ := fl4.there
          have S4 := J4.suite he4 hd4 na nL nF
          refine store_ok (X := X.suite a ((a, oe4) :: (X.pn ++ pins))) (v := .ref a) S4 hN hi (.inl hln) rfl (fun s5 S5 => ?_) (.inr hln)
          refine wpAny_mono ((hsu a oe4 cls d (X.pn ++ pins) hz4 ⟨_, hd4⟩).run [] s5 _ H' _ S5 (hyes rfl a na)) (fun f s6 hsp => ?_) (fun _ _ z => False.elim z)
          have end_ : ∀ {σ6 : St} {H6 : Hp} {Q : Shared → Prop}, Inv (X.suite a ((a, oe4) :: (X.pn ++ pins))) [] σ6 H6 s6 → (∀ s7, Inv X pins (σ6.set i none) H6 s7 → Q s7) →
              wpAny (model X.prog X.w) X.A (do bindName X.env n .none; unbindBehindTheSuite X.env n p) (fun _ s7 => Q s7) X.xe s6 := fun {σ6 H6 Q} S6 hq => gone_ok (S6.unsuite ok) hN hi hln hq
          cases f with
          | next => obtain ⟨σ6, H6, S6, q6⟩ := hsp; exact end_ S6 fun s7 J7 => ⟨_, _, J7, q6⟩
          | brk => obtain ⟨σ6, H6, S6, q6⟩ := hsp; exact end_ S6 fun s7 J7 => ⟨_, _, J7, q6⟩
          | cont => obtain ⟨σ6, H6, S6, q6⟩ := hsp; exact end_ S6 fun s7 J7 => ⟨_, _, J7, q6⟩
          | ret u => obtain ⟨v6, σ6, H6, S6, r6, q6⟩ := hsp; exact end_ S6 fun s7 J7 => ⟨_, _, _, J7, r6, q6⟩
        | false => exact ih (hno rfl)
    exact go hh w
  · cases f with
    | next => obtain ⟨σ', H', J', q⟩ := hsp; exact wpAny_execs_nil ⟨σ', H', J'.ofTry ok, q⟩
    | brk => obtain ⟨σ', H', J', q⟩ := hsp; exact ⟨σ', H', J'.ofTry ok, q⟩
    | cont => obtain ⟨σ', H', J', q⟩ := hsp; exact ⟨σ', H', J'.ofTry ok, q⟩
    | ret u => obtain ⟨v, σ', H', J', r, q⟩ := hsp; exact ⟨v, σ', H', J'.ofTry ok, r, q⟩
end
end DL
/-! DL18: try as a function. -/
namespace DL
open PySem L2

/-- alike for every place of the exception -/
noncomputable def forP (F : XP → Option RS) : Option RS := open Classical in if h : ∃ r, ∀ p, F p = some r then some (Classical.choose h) else none
theorem forP_some {F : XP → Option RS} {r : RS} (h : forP F = some r) (p : XP) : F p = some r := by
  unfold forP at h
  split at h
  · rename_i q
    cases h
    exact Classical.choose_spec q p
  · cases h
theorem forP_ev {F : XP → Option RS} {r : RS} (h : ∀ p, F p = some r) : forP F = some r := by
  have q : ∃ r, ∀ p, F p = some r := ⟨r, h⟩
  unfold forP
  rw [dif_pos q]
  have := Classical.choose_spec q (0, .none, none)
  rw [h] at this
  exact this.symm
def setX (oi : Option Nat) (p : XP) (x : Exc) (ρ : Rho) : Rho := match oi with
  | none => ρ
  | some i => ρ.set i (.ex p x)
def unS (oi : Option Nat) : Option RS → Option RS
  | some (.nx ρ ω) => some (.nx (match oi with | none => ρ | some i => ρ.set i .no) ω)
  | some (.bk ρ ω) => some (.bk (match oi with | none => ρ | some i => ρ.set i .no) ω)
  | some (.ct ρ ω) => some (.ct (match oi with | none => ρ | some i => ρ.set i .no) ω)
  | some (.rt d ω) => some (.rt d ω)
  | _ => none
abbrev Cls1 := List (Str × Bool) × Option Nat × (XP → MS)
noncomputable def catS : List Cls1 → Exc → MS
  | [], x => fun ρ ω => some (.exc x ρ ω)
  | (T, oi, K) :: r, x => fun ρ ω => match T.lookup x.c with
    | none => none
    | some true => forP fun p => unS oi (K p (setX oi p x ρ) ω)
    | some false => catS r x ρ ω
noncomputable def tryS (F : MS) (cs : List Cls1) : MS := fun ρ ω => match F ρ ω with
  | some (.exc x ρ' ω') => catS cs x ρ' ω'
  | r => r
/-- which classes the clause takes -/
def ExF (K : PySem.W.Frag) (mg : Str → Option Value) (cv : Value) (T : List (Str × Bool)) : Prop := ∀ c b, T.lookup c = some b → ∃ C, mg c = some C ∧ PySem.W.exmOne K C cv = some b
theorem exf_nil {K : PySem.W.Frag} {mg : Str → Option Value} {cv : Value} : ExF K mg cv [] := fun c b e => by cases e
theorem exf_cons {K : PySem.W.Frag} {mg : Str → Option Value} {cv : Value} {c1 : Str} {b1 : Bool} {T : List (Str × Bool)} (h : ∃ C, mg c1 = some C ∧ PySem.W.exmOne K C cv = some b1) (t : ExF K mg cv T) : ExF K mg cv ((c1, b1) :: T) := fun c' b' e => by
  rw [List.lookup_cons] at e
  cases q : c' == c1 with
  | true =>
    rw [q] at e
    cases e
    rw [eq_of_beq q]; exact h
  | false => rw [q] at e; exact t c' b' e
section
variable {g : G} {A : Ad} {B : Addr → Prop} {H H0 : Hp} {ω : List Cell} {σ : St} {ρ : Rho}
theorem Slots.setX {i : Nat} {p : XP} {x : Exc} (h : Slots g H0 A B H σ ρ) (hx : XOk g A B H p.2.1 p.2.2 x) : Slots g H0 A B H (σ.set i (some (.ref p.1))) (ρ.set i (.ex p x)) := by
  refine ⟨by simp [h.len], fun j s e => ?_, fun a b ds es q ea eb sa sb => ?_⟩
  · rcases getElem?_set_cases e with ⟨rfl, hi, rfl⟩ | ⟨ne, e⟩
    · exact ⟨by rw [List.getElem?_set_self (by rw [← h.len]; exact hi)], hx⟩
    · rw [List.getElem?_set_ne ne]
      exact h.val j s e
  · rcases getElem?_set_cases ea with ⟨_, _, z⟩ | ⟨na, ea⟩
    · cases z
    · rcases getElem?_set_cases eb with ⟨_, _, z⟩ | ⟨nb, eb⟩
      · cases z
      · rw [List.getElem?_set_ne na] at sa
        rw [List.getElem?_set_ne nb] at sb
        exact h.own a b ds es q ea eb sa sb
end
/-- the clauses of a try -/
inductive CsOk (X : Cx) (n : En) : List ExceptHandler → List Cls1 → Prop
  | nil : CsOk X n [] []
  | one {x : Str} {c : Value} {T : List (Str × Bool)} {K : XP → MS} {b₀ : Stmt} {su : List Stmt} {np p : Pos} {hds : List ExceptHandler} {l : List Cls1} (hc : Names X x c) (hT : ExF X.K X.mg c T)
      (hsu : ∀ (a : Addr) (oe : Obj) (cls : Value) (d : Option Addr) (pn : List (Addr × Obj)), Zc cls d oe → (∃ vs, oe.data = .fields vs) → PSs (X.suite a ((a, oe) :: pn)) (b₀ :: su) (tS ⟨X.K, X.mg⟩ n W0 (K (a, cls, d)))) (r : CsOk X n hds l) :
      CsOk X n (.ExceptHandler (some (.Name x np)) none (b₀ :: su) p :: hds) ((T, none, K) :: l)
  | as {x nm : Str} {i : Nat} {c : Value} {T : List (Str × Bool)} {K : XP → MS} {b₀ : Stmt} {su : List Stmt} {np p : Pos} {hds : List ExceptHandler} {l : List Cls1} (hN : X.N.Nodup) (hi : X.N[i]? = some nm) (hln : X.env.kindOf nm = some .local) (hc : Names X x c) (hT : ExF X.K X.mg c T)
      (hsu : ∀ (a : Addr) (oe : Obj) (cls : Value) (d : Option Addr) (pn : List (Addr × Obj)), Zc cls d oe → (∃ vs, oe.data = .fields vs) → PSs (X.suite a ((a, oe) :: pn)) (b₀ :: su) (tS ⟨X.K, X.mg⟩ n W0 (K (a, cls, d)))) (r : CsOk X n hds l) :
      CsOk X n (.ExceptHandler (some (.Name x np)) (some nm) (b₀ :: su) p :: hds) ((T, some i, K) :: l)
section
variable {X : Cx} {n : En} {W : WX} {body : List Stmt} {h₀ : ExceptHandler} {hds : List ExceptHandler} {cs : List Cls1} {F : MS} {pos : Pos}
theorem ResS.noexc {g : G} {W W' : WX} {A : Ad} {B : Addr → Prop} {H : Hp} {D : Ends} {r : RS} (h : ResS g n W A B H D r) (hr : ∀ x ρ ω, r ≠ .exc x ρ ω) : ResS g n W' A B H D r := by
  cases r with
  | exc x ρ ω => exact absurd rfl (hr x ρ ω)
  | _ => exact h
theorem unS_back {oi : Option Nat} {o : Option RS} {r : RS} {g : G} {A : Ad} {B : Addr → Prop} {H : Hp} {D : Ends} (h : unS oi o = some r) (res : ResS g n W A B H D r) : ∃ r0, o = some r0 ∧ ResS g n W0 A B H (offD oi D) r0 := by
  cases o with
  | none => cases h
  | some r0 =>
    refine ⟨r0, rfl, ?_⟩
    cases oi with
    | none =>
      cases r0 with
      | exc x ρ ω => cases h
      | nx ρ ω => cases h; exact res
      | bk ρ ω => cases h; exact res
      | ct ρ ω => cases h; exact res
      | rt d ω => cases h; exact res
    | some i =>
      cases r0 with
      | exc x ρ ω => cases h
      | nx ρ ω => cases h; exact fun σ' A' B' H' m s fm => res (σ'.set i none) A' B' H' m s ⟨fm.wo, fm.sl.drop⟩
      | bk ρ ω => cases h; exact fun σ' A' B' H' m s fm => res (σ'.set i none) A' B' H' m s ⟨fm.wo, fm.sl.drop⟩
      | ct ρ ω => cases h; exact fun σ' A' B' H' m s fm => res (σ'.set i none) A' B' H' m s ⟨fm.wo, fm.sl.drop⟩
      | rt d ω => cases h; exact res
/-- the clauses over the layer -/
theorem CsOk.cls {hs : List ExceptHandler} {cs : List Cls1} (h : CsOk X n hs cs) : ∃ l, ClsOk X hs l ∧ ∀ (D : Ends) (x : Exc) (ρ' : Rho) (ω' : List Cell) (r : RS) (A : Ad) (B : Addr → Prop) (H : Hp), catS cs x ρ' ω' = some r → ResS ⟨X.K, X.mg⟩ n W A B H D r →
    ResS ⟨X.K, X.mg⟩ n (wCls X.K W D l) A B H D (.exc x ρ' ω') := by
  induction h with
  | nil =>
    refine ⟨[], .nil, fun D x ρ' ω' r A B H e res => ?_⟩
    cases e
    exact res
  | @one x c T K b₀ su np p hds l hc hT hsu r ih =>
    obtain ⟨l', ok, q⟩ := ih
    refine ⟨(c, none, fun a cls d => tS ⟨X.K, X.mg⟩ n W0 (K (a, cls, d))) :: l', .one hc hsu ok, fun D x ρ' ω' r A B H e res => ?_⟩
    intro cls dd σ' A' B' H' m st fm xo
    unfold catS at e
    cases hb : T.lookup x.c with
    | none => simp only [hb] at e; cases e
    | some b =>
      obtain ⟨C, hC, hx⟩ := hT x.c b hb
      have : C = cls := by
        have := hC.symm.trans xo.1
        cases this; rfl
      subst this
      refine ⟨b, hx, fun eb a ha => ?_, fun eb => ?_⟩
      · subst eb
        simp only [hb] at e
        have e1 := forP_some e (a, C, dd)
        obtain ⟨r0, e2, r2⟩ := unS_back e1 (res.mv m)
        exact ⟨A', B', ρ', ω', r0, st, fm, e2, r2⟩
      · subst eb
        simp only [hb] at e
        exact q D x ρ' ω' r A B H e res C dd σ' A' B' H' m st fm xo
  | @as x nm i c T K b₀ su np p hds l hN hi hln hc hT hsu r ih =>
    obtain ⟨l', ok, q⟩ := ih
    refine ⟨(c, some i, fun a cls d => tS ⟨X.K, X.mg⟩ n W0 (K (a, cls, d))) :: l', .as hN hi hln hc hsu ok, fun D x ρ' ω' r A B H e res => ?_⟩
    intro cls dd σ' A' B' H' m st fm xo
    unfold catS at e
    cases hb : T.lookup x.c with
    | none => simp only [hb] at e; cases e
    | some b =>
      obtain ⟨C, hC, hx⟩ := hT x.c b hb
      have : C = cls := by
        have := hC.symm.trans xo.1
        cases this; rfl
      subst this
      refine ⟨b, hx, fun eb a ha => ?_, fun eb => ?_⟩
      · subst eb
        simp only [hb] at e
        have e1 := forP_some e (a, C, dd)
        obtain ⟨r0, e2, r2⟩ := unS_back e1 (res.mv m)
        exact ⟨A', B', ρ'.set i (.ex (a, C, dd) x), ω', r0, st, ⟨fm.wo, fm.sl.setX (p := (a, C, dd)) xo⟩, e2, r2⟩
      · subst eb
        simp only [hb] at e
        exact q D x ρ' ω' r A B H e res C dd σ' A' B' H' m st fm xo
theorem ds_try (hs : X.stack = X.env :: X.outer) (hf : X.env.frame = some X.env.locals) (tk : Takes X W)
    (hb : ∀ (W' : WX) (pn : List (Addr × Obj)) (xe : Value → Shared → Prop), Takes (X.tr pn xe) W' → PassesOwn (model X.prog X.w) X.A X.env xe → PSs (X.tr pn xe) body (tS ⟨X.K, X.mg⟩ n W' F)) (hh : CsOk X n (h₀ :: hds) cs) :
    PS X (.Try body (h₀ :: hds) [] [] pos) (tS ⟨X.K, X.mg⟩ n W (tryS F cs)) := by
  obtain ⟨l, ok, q⟩ := hh.cls (W := W)
  refine (ps_try_cls hs hf tk hb ok).dl fun D σ H ⟨A, B, ρ, ω, r, s, fm, e, res⟩ => ?_
  unfold tryS at e
  cases hF : F ρ ω with
  | none => rw [hF] at e; cases e
  | some r0 =>
    refine ⟨A, B, ρ, ω, r0, s, fm, hF, ?_⟩
    rw [hF] at e
    cases r0 with
    | exc x ρ' ω' => exact q D x ρ' ω' r A B H e res
    | nx ρ' ω' => cases e; exact res
    | rt d ω' => cases e; exact res
    | bk ρ' ω' => cases e; exact res
    | ct ρ' ω' => cases e; exact res
end
/-! ### e.f in a suite -/
structure XfF (K : PySem.W.Frag) (mg : Str → Option Value) (c f : Str) : Prop where
  ex : ∃ C, mg c = some (.ref C) ∧ XfC K C ∧ PySem.W.findIn K (.ref C) f = some none
noncomputable def xfM (i : Nat) (c f : Str) (p : XP) : M D := fun ρ ω => match ρ[i]? with
  | some (.ex q x) => open Classical in if q = p ∧ x.c = c then (match x.fs.lookup f with | some d => some (.val d ω) | none => none) else none
  | _ => none
theorem de_xf {X : Cx} {W : WX} {a : Addr} {oe : Obj} {cls : Value} {d : Option Addr} {pn : List (Addr × Obj)} {np pos : Pos} {c f x : Str} (i : Nat) (T : XfF X.K X.mg c f) (hz : Zc cls d oe) (hf : ∃ vs, oe.data = .fields vs)
    (hN : (X.suite a ((a, oe) :: pn)).N[i]? = some x := by rfl) (hv : Vis (X.suite a ((a, oe) :: pn)).env.scope x := by first | exact Or.inl rfl | exact Or.inr (Or.inl rfl) | exact Or.inr (Or.inr rfl)) (hd : (x == ("__debug__" : Str)) = false := by decide)
    (hcd : (x == ("__classdict__" : Str)) = false := by decide) (hb : attributeBase (.Name x np) f X.env (eval (.Name x np) X.env) = eval (.Name x np) X.env := by rfl) :
    PE (X.suite a ((a, oe) :: pn)) (.Attribute (.Name x np) f pos) (tM ⟨X.K, X.mg⟩ rD W (xfM i c f (a, cls, d))) := by
  obtain ⟨C, h1, h2, h3⟩ := T.ex
  refine (pe_xf h2 h3 hz hf (pe_var hN hv hd hcd) hb).dl ?_
  rintro σ H Q ⟨H0, A, B, ρ, ω, r, fm, e, res⟩
  unfold xfM at e
  split at e
  · rename_i q y hi
    split at e
    · rename_i hq
      obtain ⟨rfl, hc⟩ := hq
      split at e
      · rename_i v hl
        cases e
        obtain ⟨hs, hx⟩ := fm.sl.val i _ hi
        refine ⟨_, hs, rfl, ?_⟩
        obtain ⟨g1, ⟨dd, vs, g2, g3, g4, g5⟩ | ⟨g2, g3⟩⟩ := hx
        · have : cls = .ref C := by
            have e1 : X.mg y.c = some cls := g1
            rw [hc, h1] at e1
            cases e1; rfl
          obtain ⟨u, hu, du⟩ := g5.look hl
          exact ⟨this, dd, vs, u, g2, g4, hu, res u A B H (.refl _ _ _) fm.wo du⟩
        · rw [g3] at hl; cases hl
      · cases e
    · cases e
  · cases e
/-! ### values -/
theorem raiS_ev {c f : Str} {fm : M D} {d : D} {ρ : Rho} {ω ω' : List Cell} (h : fm ρ ω = some (.val d ω')) : raiS c f fm ρ ω = some (.exc ⟨c, [(f, d)]⟩ ρ ω') := by unfold raiS; rw [bindS_ev h]
theorem seqS_ex {F K : MS} {ρ ρ' : Rho} {ω ω' : List Cell} {x : Exc} (h : F ρ ω = some (.exc x ρ' ω')) : seqS F K ρ ω = some (.exc x ρ' ω') := by unfold seqS; rw [h]
theorem tryS_nx {F : MS} {cs : List Cls1} {ρ ρ' : Rho} {ω ω' : List Cell} (h : F ρ ω = some (.nx ρ' ω')) : tryS F cs ρ ω = some (.nx ρ' ω') := by unfold tryS; rw [h]
theorem tryS_rt {F : MS} {cs : List Cls1} {ρ : Rho} {ω ω' : List Cell} {d : D} (h : F ρ ω = some (.rt d ω')) : tryS F cs ρ ω = some (.rt d ω') := by unfold tryS; rw [h]
theorem tryS_ex {F : MS} {cs : List Cls1} {ρ ρ' : Rho} {ω ω' : List Cell} {x : Exc} (h : F ρ ω = some (.exc x ρ' ω')) : tryS F cs ρ ω = catS cs x ρ' ω' := by unfold tryS; rw [h]
theorem catS_no {T : List (Str × Bool)} {oi : Option Nat} {K : XP → MS} {r : List Cls1} {x : Exc} {ρ : Rho} {ω : List Cell} (h : T.lookup x.c = some false) : catS ((T, oi, K) :: r) x ρ ω = catS r x ρ ω := by
  show (match T.lookup x.c with | none => none | some true => _ | some false => _) = _
  rw [h]
theorem catS_rt {T : List (Str × Bool)} {oi : Option Nat} {K : XP → MS} {r : List Cls1} {x : Exc} {ρ : Rho} {ω ω' : List Cell} {d : D} (h : T.lookup x.c = some true) (hK : ∀ p, K p (setX oi p x ρ) ω = some (.rt d ω')) : catS ((T, oi, K) :: r) x ρ ω = some (.rt d ω') := by
  show (match T.lookup x.c with | none => none | some true => _ | some false => _) = _
  rw [h]
  exact forP_ev fun p => by rw [hK p]; rfl
theorem bind_ex {α β : Type} {ρ : Rho} {ω ω1 : List Cell} {f : M α} {k : α → M β} {x : Exc} (h : f ρ ω = some (.exc x ω1)) : (f.bind k) ρ ω = some (.exc x ω1) := by unfold M.bind; rw [h]
theorem bindS_ex {α : Type} {ρ : Rho} {ω ω1 : List Cell} {f : M α} {s : α → MS} {x : Exc} (h : f ρ ω = some (.exc x ω1)) : bindS f s ρ ω = some (.exc x ρ ω1) := by unfold bindS; rw [h]
end DL
namespace DL
open PySem L2
/-! ### what the printer names -/
/-- the class x of a clause, and which classes it takes -/
def CatF (K : PySem.W.Frag) (mg : Str → Option Value) (x : Str) (T : List (Str × Bool)) : Prop := ∃ c, mg x = some c ∧ ExF K mg c T
section
variable {X : Cx} {n : En} {x nm : Str} {i : Nat} {T : List (Str × Bool)} {K : XP → MS} {b₀ : Stmt} {su : List Stmt} {np p : Pos} {hds : List ExceptHandler} {l : List Cls1}
theorem cs_one (h : CatF X.K X.mg x T) (hg : Gl X x)
    (hsu : ∀ (a : Addr) (oe : Obj) (cls : Value) (d : Option Addr) (pn : List (Addr × Obj)), Zc cls d oe → (∃ vs, oe.data = .fields vs) → PSs (X.suite a ((a, oe) :: pn)) (b₀ :: su) (tS ⟨X.K, X.mg⟩ n W0 (K (a, cls, d)))) (r : CsOk X n hds l) (hdb : (x == ("__debug__" : Str)) = false := by decide) :
    CsOk X n (.ExceptHandler (some (.Name x np)) none (b₀ :: su) p :: hds) ((T, none, K) :: l) := by
  obtain ⟨c, h1, h2⟩ := h
  exact .one ⟨hg, hdb, .inl h1⟩ h2 hsu r
theorem cs_as (i : Nat) (h : CatF X.K X.mg x T) (hg : Gl X x) (hN : X.N.Nodup)
    (hsu : ∀ (a : Addr) (oe : Obj) (cls : Value) (d : Option Addr) (pn : List (Addr × Obj)), Zc cls d oe → (∃ vs, oe.data = .fields vs) → PSs (X.suite a ((a, oe) :: pn)) (b₀ :: su) (tS ⟨X.K, X.mg⟩ n W0 (K (a, cls, d)))) (r : CsOk X n hds l)
    (hi : X.N[i]? = some nm := by rfl) (hln : X.env.kindOf nm = some .local := by rfl) (hdb : (x == ("__debug__" : Str)) = false := by decide) :
    CsOk X n (.ExceptHandler (some (.Name x np)) (some nm) (b₀ :: su) p :: hds) ((T, some i, K) :: l) := by
  obtain ⟨c, h1, h2⟩ := h
  exact .as hN hi hln ⟨hg, hdb, .inl h1⟩ h2 hsu r
end
/-- the text of an exception class: its place, its __init__ -/
structure FX (K : PySem.W.Frag) (mg : Str → Option Value) (c f qual : Str) (st : Stmt) : Prop where
  ex : ∃ C fI fd, mg c = some (.ref C) ∧ OexC K C ∧ PySem.W.findIn K (.ref C) "__init__" = some (some (.ref fI)) ∧ PySem.W.typeIn K (.ref fI) = some (.type "function") ∧ PySem.W.findIn K (.ref C) f = some none ∧ Fun K "__init__" qual st fI fd
theorem calX_of {P : Program} {w : World} {K : PySem.W.Frag} {mg : Str → Option Value} {base : Heap} {c f qual m : Str} {st : Stmt} {N ps : List Str} (T : FX K mg c f qual st) (S : FnScope N ps (defScope st)) (hN : N.length = 2) (hps : ps.length = 2) (b : ∀ a fd, Fun K "__init__" qual st a fd → Binds K fd ps [])
    (h : ∀ (fI : Addr) (cdv : Value) (A : Around) (outer : List PySem.Env) (s : Shared) (H : Hp) (E : XK), PSs (cxOf CX0 P w K mg base N qual (defScope st) fI cdv A outer s H E).nox (defBody st) (tSeq (tDrop (tVeI K (tCons (tVar 0) (tCons (tC (.str m)) tNil)))) (tOst K f (tVar 0) (tVar 1)))) :
    CalX P w K mg base c f ps 1 := by
  obtain ⟨C, fI, fd, h1, h2, h3, h4, h5, h6⟩ := T.ex
  refine ⟨C, fI, fd, h1, h2, h3, h4, b fI fd h6, h6.ok S (fun vs H Q E ⟨a, v, e, _⟩ => by rw [e, hps]; rfl) fun cdv A outer s H vs Q E hr hs => ⟨_, h fI cdv A outer s H E, xi_ans h2 h5 hN hs⟩⟩
end DL
/-! DL19: x[i] = e of an own list; list(range(..)). -/
namespace DL
open PySem L2
section
variable {X : Cx} {g : G} {n : En} {W : WX} {e k : Expr} {f fk : M D} {pos : Pos}
theorem ds_put (i : Nat) {x : Str} {p1 p2 : Pos} (he : PE X e (tM g rD W f)) (hk : PE X k (tM g rD W fk)) (hN : X.N[i]? = some x := by rfl) (hv : Vis X.env.scope x := by first | exact Or.inl rfl | exact Or.inr (Or.inl rfl) | exact Or.inr (Or.inr rfl)) (hd : (x == ("__debug__" : Str)) = false := by decide)
    (hcd : (x == ("__classdict__" : Str)) = false := by decide) (hs : swapsWithSole [.Subscript (.Name x p1) k p2] e pos.line X.env = pure false := by rfl) (hw : swappedStores [.Subscript (.Name x p1) k p2] e X.env = pure none := by rfl)
    (h1 : (assignEach [.Subscript (.Name x p1) k p2] X.env).map (·.2) = [assign (.Subscript (.Name x p1) k p2) X.env] := by rfl)
    (ha : ∀ v, assign (.Subscript (.Name x p1) k p2) X.env v = (do
      let ov ← holding [v] (eval (.Name x p1) X.env)
      let iv ← holding [v, ov] (eval k X.env)
      standAt p2
      holding [v, ov, iv] (setItem ov iv v)
      release [v, ov, iv] []) := by intro _; rfl) :
    PS X (.Assign [.Subscript (.Name x p1) k p2] e pos) (tS g n W (putS i fk f)) :=
  (ps_asg he (pg_sub (pe_var hN hv hd hcd) hk set_list ha) hs hw h1).dl fun D σ H ⟨A, B, ρ, ω, r, s, fm, e, res⟩ => by
    refine tM_mono (tS_bind s fm e res) fun v H1 ⟨A1, B1, ω1, d, t1, m1, s1, fm1, r1, e1, res1⟩ => ?_
    split at e1
    · rename_i ds hi
      obtain ⟨p, vs, q1, hp, l, hb, nl, h0⟩ := fm1.sl.val i _ hi
      refine ⟨.ref p, q1, ?_⟩
      refine tM_mono (tS_bind s1 fm1 e1 res1) fun u H2 ⟨A2, B2, ω2, d2, t2, m2, s2, fm2, r2, e2, res2⟩ => ?_
      split at e2
      · rename_i z
        split at e2
        · rename_i j hj
          cases e2
          cases r2
          obtain ⟨p', vs2, q2, hp2, l2, hb2, nl2, h02⟩ := fm2.sl.val i _ hi
          rw [q1] at q2
          cases q2
          refine ⟨p, vs2, z, j, rfl, rfl, hp2, by rw [l2.length]; exact hj, ?_⟩
          obtain ⟨fm3, m3⟩ := fm2.write hi q1 hp2 hb2 nl2 h02 (l2.set j (Dp.mv (fm1.wo.mv t2) _ _ r1))
          exact res2.next m3 (s2.own h02 nl2) fm3
        · cases e2
      · cases e2
    · cases e1
/-- list(range(n)), list(range(a, b)) -/
def rgD (i j : Int) : List D := rangeD i (j - i).toNat
theorem rg_dp {A : Ad} {B : Addr → Prop} {H : Hp} (i j : Int) : DpL g A B H (rgV i j) (rgD i j) := by
  unfold rgV rgD rangeD
  generalize (j - i).toNat = m
  have : ∀ l : List Nat, DpL g A B H (l.map fun k => V.int (i + (k : Nat))) (l.map fun k => D.int (i + (k : Nat))) := by
    intro l
    induction l with
    | nil => exact .nil
    | cons a l ih => exact .cons (.int _) ih
  exact this _
instance (a b : Int) : Decidable (RgOk a b) := by unfold RgOk; infer_instance
def rgL1 (d : D) : M (List D) := fun _ ω => match d with
  | .int j => if RgOk 0 j then some (.val (rgD 0 j) ω) else none
  | _ => none
theorem dn_rg1 {p p1 p2 : Pos} (hc : X.calm = true) (hg : Gl X "list") (hm : X.mg "list" = none) (hg2 : Gl X "range") (hm2 : X.mg "range" = none) (ha : PE X e (tM g rD W f)) (na : starEach [e] X.env = (false, eval e X.env) :: starEach [] X.env := by rfl)
    (nb : starEach [.Call (.Name "range" p1) [e] [] p2] X.env = (false, eval (.Call (.Name "range" p1) [e] [] p2) X.env) :: starEach [] X.env := by rfl) : PE X (.Call (.Name "list" p) [.Call (.Name "range" p1) [e] [] p2] [] pos) (tN g W (f.bind rgL1)) := by
  refine (pe_listRg hc hg hm (prg_1 hg2 hm2 ha na) nb).dl fun σ H Q ⟨H0, A, B, ρ, ω, r, fm, e, res⟩ => ?_
  refine tM_mono (tN_bind fm e res) fun x H1 ⟨A1, B1, ω1, d1, t1, fm1, r1, e1⟩ => ?_
  unfold rgL1 at e1
  split at e1
  · rename_i j
    split at e1
    · rename_i ok
      cases e1
      cases r1
      exact ⟨j, rfl, ok, res.of t1 fm1.wo (rg_dp 0 j)⟩
    · cases e1
  · cases e1
theorem rgL1_nat {m : Nat} {ρ : Rho} {ω : List Cell} (h : m ≤ 16777216) : rgL1 (.int (m : Int)) ρ ω = some (.val (rangeD 0 m) ω) := by
  unfold rgL1
  simp only
  rw [if_pos (RgOk.of_le (by omega) (by omega) (by omega) (by omega))]
  simp [rgD]
end
section
variable {m c : Str} {T : List (Str × Fn)} {o : D} {ds : List D} {ρ : Rho} {ω ω1 ω2 ω' : List Cell} {fl : List (Str × D)} {Gf : Fn} {fo fi : M D} {fs : M (List D)} {x : Exc}
theorem methM_ex (ho : fo ρ ω = some (.val o ω1)) (hv : view ω1 o = some (.obj c fl)) (hn : fl.lookup m = none) (hl : T.lookup c = some Gf) (ha : fs ρ ω1 = some (.val ds ω2)) (h : Gf (o :: ds) ω2 = some (.exc x ω')) : methM m T fo fs ρ ω = some (.exc x ω') := by
  unfold methM
  rw [bind_ev ho, bind_ev (a := c) (ω1 := ω1) (by unfold clsM; simp only [hv, hn])]
  unfold selM
  simp only [hl]
  rw [bind_ev ha]
  exact h
theorem ixO_ex {i : D} (ho : fo ρ ω = some (.val o ω1)) (hi : fi ρ ω1 = some (.val i ω2)) (hv : view ω2 o = some (.obj c fl)) (hl : T.lookup c = some Gf) (h : Gf [o, i] ω2 = some (.exc x ω')) : ixO T fo fi ρ ω = some (.exc x ω') := by
  unfold ixO
  rw [bind_ev ho, bind_ev hi]
  unfold ownM
  simp only [hv, hl]
  exact h
end
theorem ltD_t {i j : Int} (h : i < j) : ltD (.int i) (.int j) = some (.bl true) := by show some (D.bl (decide _)) = _; rw [decide_eq_true h]
theorem ltD_f {i j : Int} (h : ¬ i < j) : ltD (.int i) (.int j) = some (.bl false) := by show some (D.bl (decide _)) = _; rw [decide_eq_false h]
theorem leD_t {i j : Int} (h : i ≤ j) : leD (.int i) (.int j) = some (.bl true) := by show some (D.bl (decide _)) = _; rw [decide_eq_true h]
theorem leD_f {i j : Int} (h : ¬ i ≤ j) : leD (.int i) (.int j) = some (.bl false) := by show some (D.bl (decide _)) = _; rw [decide_eq_false h]
theorem gtD_t {i j : Int} (h : j < i) : gtD (.int i) (.int j) = some (.bl true) := by show some (D.bl (decide _)) = _; rw [decide_eq_true h]
theorem gtD_f {i j : Int} (h : ¬ j < i) : gtD (.int i) (.int j) = some (.bl false) := by show some (D.bl (decide _)) = _; rw [decide_eq_false h]
theorem geD_t {i j : Int} (h : j ≤ i) : geD (.int i) (.int j) = some (.bl true) := by show some (D.bl (decide _)) = _; rw [decide_eq_true h]
theorem geD_f {i j : Int} (h : ¬ j ≤ i) : geD (.int i) (.int j) = some (.bl false) := by show some (D.bl (decide _)) = _; rw [decide_eq_false h]
/-- x[lo:], x[:hi] of a list -/
theorem sl_to {ds : List D} {k : Nat} {fx fk : M D} {ρ : Rho} {ω : List Cell} (hx : fx ρ ω = some (.val (.lst ds) ω)) (hk : fk ρ ω = some (.val (.int k) ω)) : (fx.bind fun x => (M.pure none).bind fun l => (fk.bind asI).bind fun h => slM x l h) ρ ω = some (.val (.lst (ds.take k)) ω) := by
  rw [bind_ev hx, bind_ev (a := none) (ω1 := ω) rfl, bind_ev (a := some (k : Int)) (ω1 := ω) (by rw [bind_ev hk]; rfl)]
  show some (R.val (D.lst (cutD ds none (some (k : Int)))) ω) = _
  unfold cutD
  rw [HT.sIx_nat, HT.sIx_none]
  simp [List.take_eq_take_iff, Nat.min_comm]
theorem sl_from {ds : List D} {k : Nat} {fx fk : M D} {ρ : Rho} {ω : List Cell} (hx : fx ρ ω = some (.val (.lst ds) ω)) (hk : fk ρ ω = some (.val (.int k) ω)) : (fx.bind fun x => (fk.bind asI).bind fun l => (M.pure none).bind fun h => slM x l h) ρ ω = some (.val (.lst (ds.drop k)) ω) := by
  rw [bind_ev hx, bind_ev (a := some (k : Int)) (ω1 := ω) (by rw [bind_ev hk]; rfl), bind_ev (a := none) (ω1 := ω) rfl]
  show some (R.val (D.lst (cutD ds (some (k : Int)) none)) ω) = _
  unfold cutD
  rw [HT.sIx_nat, HT.sIx_none]
  by_cases h : k ≤ ds.length
  · rw [Nat.min_eq_left h, List.take_of_length_le (by simp)]
  · rw [Nat.min_eq_right (by omega), List.drop_of_length_le (by omega), List.drop_of_length_le (l := ds) (i := k) (by omega)]
    simp
theorem addD_lst {xs ys : List D} (h : xs.length + ys.length ≤ 1000) : addD (.lst xs) (.lst ys) = some (.lst (xs ++ ys)) := if_pos (by rw [sizeLine_eq]; omega)
theorem notM_ev {t : M Bool} {b : Bool} {ρ : Rho} {ω ω1 : List Cell} (h : t ρ ω = some (.val b ω1)) : DL.notM t ρ ω = some (.val (!b) ω1) := by unfold DL.notM; rw [bind_ev h]; rfl
theorem orM_f {t u : M Bool} {ρ : Rho} {ω ω1 ω2 : List Cell} {b : Bool} (h : t ρ ω = some (.val false ω1)) (h2 : u ρ ω1 = some (.val b ω2)) : DL.orM t u ρ ω = some (.val b ω2) := by
  unfold DL.orM
  rw [bind_ev h]
  exact h2
theorem orM_t {t u : M Bool} {ρ : Rho} {ω ω1 : List Cell} (h : t ρ ω = some (.val true ω1)) : DL.orM t u ρ ω = some (.val true ω1) := by
  unfold DL.orM
  rw [bind_ev h]
  rfl
theorem andM_t {t u : M Bool} {ρ : Rho} {ω ω1 ω2 : List Cell} {b : Bool} (h : t ρ ω = some (.val true ω1)) (h2 : u ρ ω1 = some (.val b ω2)) : DL.andM t u ρ ω = some (.val b ω2) := by
  unfold DL.andM
  rw [bind_ev h]
  exact h2
theorem andM_f {t u : M Bool} {ρ : Rho} {ω ω1 : List Cell} (h : t ρ ω = some (.val false ω1)) : DL.andM t u ρ ω = some (.val false ω1) := by
  unfold DL.andM
  rw [bind_ev h]
  rfl
/-- x != x of plain data is false -/
theorem ne_same {d : D} {fa fb : M D} {ρ : Rho} {ω ω1 ω2 : List Cell} (hf : fine d = true) (hd : ∀ ω, view ω d = some d) (ha : fa ρ ω = some (.val d ω1)) (hb : fb ρ ω1 = some (.val d ω2)) : tst (bo neD fa fb) ρ ω = some (.val false ω2) :=
  tst_ev (bo_ev ha hb (hd _) (hd _) (by rw [neD_fine hf hf, eqb_refl _ (fine_iff.mp hf).1]; rfl))
theorem tup_ev {ds : List D} {fs : M (List D)} {ρ : Rho} {ω ω1 : List Cell} (h : fs ρ ω = some (.val ds ω1)) (hl : ds.length ≤ 1000) : (fs.bind mkTup) ρ ω = some (.val (.tup ds) ω1) := by rw [bind_ev h]; exact mkTup_ev hl
theorem asgS_ev {f : M D} {T : TT1} {d : D} {ρ ρ' : Rho} {ω ω' : List Cell} (h : f ρ ω = some (.val d ω')) (hT : T d ρ ω' = some ρ') : asgS f T ρ ω = some (.nx ρ' ω') := by unfold asgS; rw [bindS_ev h, hT]
end DL
/-! DL20: static methods, chains, written tuples, max and min of two, lists of the store. -/
namespace DL
open PySem L2

/-! ### static methods -/
/-- the place of a static method -/
structure StF (K : PySem.W.Frag) (mg : Str → Option Value) (c m : Str) (f : Addr) : Prop where
  ex : ∃ C p rest, mg c = some (.ref C) ∧ PySem.W.readsIn K C (.type "type") = true ∧ PySem.W.specialIn K (.ref C) "__getattribute__" = some (some (.builtin "type.__getattribute__")) ∧
    PySem.W.findCls K (.ref C) (.type "type") m = some (.get (.builtin "staticmethod.__get__") (.ref p) .none (.ref C)) ∧ PySem.W.recIn K p "staticmethod" = some (.ref f :: rest)
structure CalS (P : Program) (w : World) (K : PySem.W.Frag) (mg : Str → Option Value) (base : Heap) (c m : Str) (ps : List Str) (k : Nat) (Gf : Fn) : Prop where
  ex : ∃ f fd, StF K mg c m f ∧ PySem.W.keepIn K (.ref f) = true ∧ Binds K fd ps [] ∧ FnOk P w K mg base (L2.CX P w) k f fd ps (spD ⟨K, mg⟩ Gf)
theorem CalS.mono {P : Program} {w : World} {K : PySem.W.Frag} {mg : Str → Option Value} {base : Heap} {c m : Str} {ps : List Str} {k j : Nat} {Gf : Fn} (x : CalS P w K mg base c m ps k Gf) (h : k ≤ j) : CalS P w K mg base c m ps j Gf := by
  obtain ⟨f, fd, h1, h2, h3, h4⟩ := x.ex
  exact ⟨f, fd, h1, h2, h3, h4.mono h⟩
structure FS (K : PySem.W.Frag) (mg : Str → Option Value) (c m qual : Str) (st : Stmt) : Prop where
  ex : ∃ f fd, StF K mg c m f ∧ Fun K m qual st f fd
theorem calS_of {P : Program} {w : World} {K : PySem.W.Frag} {mg : Str → Option Value} {base : Heap} {c m qual : Str} {st : Stmt} {ps : List Str} {k : Nat} {Gf : Fn} (T : FS K mg c m qual st) (b : ∀ a fd, Fun K m qual st a fd → Binds K fd ps [])
    (h : ∀ a fd, Fun K m qual st a fd → FnOk P w K mg base (L2.CX P w) k a fd ps (spD ⟨K, mg⟩ Gf)) : CalS P w K mg base c m ps k Gf := by
  obtain ⟨f, fd, h1, F⟩ := T.ex
  exact ⟨f, fd, h1, F.kp, b f fd F, h f fd F⟩
section
variable {X : Cx} {W : WX} {c m : Str} {p1 p2 pos : Pos} {e : Expr} {es : List Expr} {fs : M (List D)} {k j : Nat} {ps : List Str} {Gf : Fn}
/-- C.m, m static, is read -/
theorem stat_get {A : Around} {pins : List (Addr × Obj)} {s : Shared} {σ : St} {H : Hp} {f : Addr} {pl : Sem Bool} {Q : Value × List Value → Shared → Prop} {E : Value → Shared → Prop} {C : Addr} {p : Addr} {rest : List Value} (I : Inv X pins σ H s)
    (rd : PySem.W.readsIn X.K C (.type "type") = true) (ga : PySem.W.specialIn X.K (.ref C) "__getattribute__" = some (some (.builtin "type.__getattribute__"))) (fc : PySem.W.findCls X.K (.ref C) (.type "type") m = some (.get (.builtin "staticmethod.__get__") (.ref p) .none (.ref C)))
    (hp : PySem.W.recIn X.K p "staticmethod" = some (.ref f :: rest)) (h : Q (.ref f, []) { s with toks := s.toks + 1 }) : wpAny (model X.prog X.w) A (getMethod (.ref C) m pl) Q E s :=
  PySem.W.method_cls I.kIn ga (PySem.W.cls_bind I.kIn rd fc (wpAny_call (PySem.W.sm_get (s := { s with toks := s.toks + 1 }) I.kIn hp (PySem.W.handed_on rfl h))))
theorem de_stat (tk : Takes X W) (cs : CalS X.prog X.w X.K X.mg X.base c m ps k Gf) (hr : Room j X.A) (hj : k ≤ j) (hg : Gl X c) {pl : Sem Bool} (ha : PA X (e :: es) (tM ⟨X.K, X.mg⟩ rL W fs)) (hdb : (c == ("__debug__" : Str)) = false := by decide)
    (he : starEach (e :: es) X.env = (false, eval e X.env) :: starEach es X.env := by rfl) (hpl : (backTo pos (starEach es X.env)).any (·.1) = false := by rfl)
    (ht : eval (.Call (.Attribute (.Name c p1) m p2) (e :: es) [] pos) X.env = (do
      let ov ← eval (.Name c p1) X.env
      standAt p2.atName
      let (f, first) ← holding [ov] (getMethod ov m pl)
      callWith pos f first (backTo pos (starEach (e :: es) X.env)) (backToKw pos (keywordEach [] X.env))) := by rfl) :
    PE X (.Call (.Attribute (.Name c p1) m p2) (e :: es) [] pos) (tM ⟨X.K, X.mg⟩ rD W (calM Gf fs)) := by
  obtain ⟨f, fd, hs, h2, h3, h4⟩ := cs.ex
  obtain ⟨C, p, rest, h5, h6, h7, h8, h9⟩ := hs.ex
  refine PE.dl (t := tCallS (spD ⟨X.K, X.mg⟩ Gf) (WE W) (tM ⟨X.K, X.mg⟩ rL W fs)) ⟨fun pins s σ H Q I h => ?_⟩ tM_call
  refine PySem.W.methodCall_KW (pl := pl) (ld_glob I hg h5 ?_ hdb) ht
  refine stat_get I h6 h7 h8 h9 ?_
  exact PySem.W.callWith_K (h₀ := X.base) I.ok.mod.kin h2 (thn (ha.run pos pins _ σ H _ (I.tok _) h) fun us s1 ⟨vs, H1, I1, r, q⟩ => ⟨I1.kIn, run_fnS (E := WE W) h4 (hr.mono hj) h3 (passAt tk σ) I1 r q⟩) he hpl
theorem de_stat0 (tk : Takes X W) (cs : CalS X.prog X.w X.K X.mg X.base c m ps k Gf) (hr : Room j X.A) (hj : k ≤ j) (hg : Gl X c) {pl : Sem Bool} (hdb : (c == ("__debug__" : Str)) = false := by decide)
    (ht : eval (.Call (.Attribute (.Name c p1) m p2) [] [] pos) X.env = (do
      let ov ← eval (.Name c p1) X.env
      standAt p2.atName
      let (f, first) ← holding [ov] (getMethod ov m pl)
      callWith pos f first (backTo pos (starEach [] X.env)) (backToKw pos (keywordEach [] X.env))) := by rfl) :
    PE X (.Call (.Attribute (.Name c p1) m p2) [] [] pos) (tM ⟨X.K, X.mg⟩ rD W (calM Gf (M.pure []))) := by
  obtain ⟨f, fd, hs, h2, h3, h4⟩ := cs.ex
  obtain ⟨C, p, rest, h5, h6, h7, h8, h9⟩ := hs.ex
  refine PE.dl (t := tCallS (spD ⟨X.K, X.mg⟩ Gf) (WE W) tNil) ⟨fun pins s σ H Q I h => ?_⟩ fun σ H Q h => by
    obtain ⟨H0, A, B, ρ, ω, r, fm, e, res⟩ := tM_call σ H Q h
    cases e
    exact res [] A B H (.refl _ _ _) fm.wo .nil
  refine PySem.W.methodCall_KW (pl := pl) (ld_glob I hg h5 ?_ hdb) ht
  refine stat_get I h6 h7 h8 h9 ?_
  exact PySem.W.callWith_K0 (I.tok _).kIn h2 (run_fnS (us := []) (E := WE W) h4 (hr.mono hj) h3 (passAt tk σ) (I.tok _) .nil h)
end

/-! ### a < b < c -/
def chainV (f f' : D → D → Option D) (fa fb fc : M D) : M D := fa.bind fun x => fb.bind fun y => (op2 f x y).bind fun z => (asB z).bind fun k => if k = true then fc.bind (fun u => op2 f' y u) else M.pure (.bl false)
section
variable {X : Cx} {g : G} {W : WX} {a b c : Expr} {fa fb fc : M D} {f f' : D → D → Option D} {pos : Pos}
theorem de_chain {op op' : CmpOp} {r r' : R2} (ho : OpR X (compareOp op) r) (ho' : OpR X (compareOp op') r') (hv : V2 g r f) (hv' : V2 g r' f') (ha : PE X a (tM g rW W fa)) (hb : PE X b (tM g rW W fb)) (hc : PE X c (tM g rW W fc))
    (hm : lastMarks [op, op'] [b, c] = false := by with_unfolding_all rfl) : PE X (.Compare a [op, op'] [b, c] pos) (tM g rD W (chainV f f' fa fb fc)) :=
  (pe_chain ho ho' ha hb hc hm).dl fun σ H Q ⟨H0, A, B, ρ, ω, r, fm, e, res⟩ => by
    refine tM_mono (tM_bind fm e res) fun x H1 ⟨A1, B1, ω1, d1, t1, fm1, r1, e1, res1⟩ => ?_
    refine tM_mono (tM_bind fm1 e1 res1) fun y H2 ⟨A2, B2, ω2, d2, t2, fm2, r2, e2, res2⟩ => ?_
    unfold M.bind at e2
    cases q : op2 f d1 d2 ρ ω2 with
    | none => rw [q] at e2; cases e2
    | some z =>
      rw [q] at e2
      obtain ⟨x', y', z', h1, h2, h3, rfl⟩ := op2_some q
      replace e2 : ((asB z').bind fun k => if k = true then fc.bind (fun u => op2 f' d2 u) else M.pure (.bl false)) ρ ω2 = some r := e2
      obtain ⟨k, rfl, e3⟩ := asB_some e2
      refine hv A2 B2 H2 ω2 x y x' y' _ _ fm2.wo (view_ok fm2.wo (r1.up fm1.wo t2) h1) (view_ok fm2.wo r2 h2) h3 fun v A' B' H' t w dp => ?_
      cases dp
      refine ⟨k, rfl, ?_⟩
      have fm3 := fm2.up t w
      cases k with
      | false =>
        rw [if_neg Bool.false_ne_true] at e3 ⊢
        cases e3
        exact res2 _ A' B' H' t w (.bl false)
      | true =>
        rw [if_pos rfl] at e3 ⊢
        refine tM_mono (tM_bind fm3 e3 (res2.up t)) fun u H4 ⟨A4, B4, ω4, d4, t4, fm4, r4, e4, res4⟩ => ?_
        obtain ⟨y2, u2, z2, g1, g2, g3, rfl⟩ := op2_some e4
        exact hv' A4 B4 H4 ω4 y u y2 u2 z2 Q fm4.wo (view_ok fm4.wo ((r2.up fm2.wo t).up fm3.wo t4) g1) (view_ok fm4.wo r4 g2) g3 res4
theorem de_ltlt (ha : PE X a (tM g rW W fa)) (hb : PE X b (tM g rW W fb)) (hc : PE X c (tM g rW W fc)) (hm : lastMarks [.Lt, .Lt] [b, c] = false := by with_unfolding_all rfl) : PE X (.Compare a [.Lt, .Lt] [b, c] pos) (tM g rD W (chainV ltD ltD fa fb fc)) := de_chain op_lt op_lt v_lt v_lt ha hb hc hm
theorem de_lele (ha : PE X a (tM g rW W fa)) (hb : PE X b (tM g rW W fb)) (hc : PE X c (tM g rW W fc)) (hm : lastMarks [.LtE, .LtE] [b, c] = false := by with_unfolding_all rfl) : PE X (.Compare a [.LtE, .LtE] [b, c] pos) (tM g rD W (chainV leD leD fa fb fc)) := de_chain op_le op_le v_le v_le ha hb hc hm
theorem de_lelt (ha : PE X a (tM g rW W fa)) (hb : PE X b (tM g rW W fb)) (hc : PE X c (tM g rW W fc)) (hm : lastMarks [.LtE, .Lt] [b, c] = false := by with_unfolding_all rfl) : PE X (.Compare a [.LtE, .Lt] [b, c] pos) (tM g rD W (chainV leD ltD fa fb fc)) := de_chain op_le op_lt v_le v_lt ha hb hc hm
end

/-! ### a module's tuple of texts -/
def GlT (K : PySem.W.Frag) (mg : Str → Option Value) (x : Str) (ss : List Str) : Prop := ∃ a, mg x = some (.ref a) ∧ KT K a (ss.map V.str)
theorem DpL.strs {g : G} {A : Ad} {B : Addr → Prop} {H : Hp} : ∀ ss : List Str, DpL g A B H (ss.map V.str) (ss.map D.str)
  | [] => .nil
  | s :: ss => .cons (.str s) (DpL.strs ss)
theorem de_globT {X : Cx} {W : WX} {x : Str} {ss : List Str} {pos : Pos} (h : GlT X.K X.mg x ss) (hg : Gl X x) (hdb : (x == ("__debug__" : Str)) = false := by decide) : PE X (.Name x pos) (tM ⟨X.K, X.mg⟩ rD W (M.pure (.tup (ss.map D.str)))) := by
  obtain ⟨a, h1, h2⟩ := h
  refine (pe_glob (v := .ref a) hg h1 rfl hdb).dl ?_
  rintro σ H Q ⟨H0, A, B, ρ, ω, r, fm, e, res⟩
  cases e
  exact res (.ref a) A B H (.refl _ _ _) fm.wo (.tupK h2 (DpL.strs ss))

/-! ### max, min of two -/
def max2D : D → D → Option D
  | .int i, .int j => some (.int (if j > i then j else i))
  | _, _ => none
def min2D : D → D → Option D
  | .int i, .int j => some (.int (if j < i then j else i))
  | _, _ => none
section
variable {X : Cx} {g : G} {W : WX} {e e2 : Expr} {fa fb : M D} {p pos : Pos}
theorem v_max2 : V2 g (fun x y H Q => ∃ i j, [x, y] = [.int i, .int j] ∧ Q (.int (if j > i then j else i)) H) max2D := by
  intro A B H ω x y a b c Q w ha hb e q
  cases a with
  | int i =>
    cases b with
    | int j => cases ha; cases hb; cases e; exact ⟨i, j, rfl, q.now w (.int _)⟩
    | _ => cases e
  | _ => cases e
theorem v_min2 : V2 g (fun x y H Q => ∃ i j, [x, y] = [.int i, .int j] ∧ Q (.int (if j < i then j else i)) H) min2D := by
  intro A B H ω x y a b c Q w ha hb e q
  cases a with
  | int i =>
    cases b with
    | int j => cases ha; cases hb; cases e; exact ⟨i, j, rfl, q.now w (.int _)⟩
    | _ => cases e
  | _ => cases e
theorem de_max2 (hc : X.calm = true) (hg : Gl X "max") (hm : X.mg "max" = none) (ha : PE X e (tM g rW W fa)) (hb : PE X e2 (tM g rW W fb)) (he : starEach [e, e2] X.env = (false, eval e X.env) :: starEach [e2] X.env := by rfl) (he2 : starEach [e2] X.env = (false, eval e2 X.env) :: starEach [] X.env := by rfl)
    (hpl : (backTo pos (starEach [e2] X.env)).any (·.1) = false := by rfl) : PE X (.Call (.Name "max" p) [e, e2] [] pos) (tM g rD W (bo max2D fa fb)) := de_callB2 (call_max2 hc) v_max2 hg hm (by decide +kernel) ha hb (he := he) (he2 := he2) (hpl := hpl)
theorem de_min2 (hc : X.calm = true) (hg : Gl X "min") (hm : X.mg "min" = none) (ha : PE X e (tM g rW W fa)) (hb : PE X e2 (tM g rW W fb)) (he : starEach [e, e2] X.env = (false, eval e X.env) :: starEach [e2] X.env := by rfl) (he2 : starEach [e2] X.env = (false, eval e2 X.env) :: starEach [] X.env := by rfl)
    (hpl : (backTo pos (starEach [e2] X.env)).any (·.1) = false := by rfl) : PE X (.Call (.Name "min" p) [e, e2] [] pos) (tM g rD W (bo min2D fa fb)) := de_callB2 (call_min2 hc) v_min2 hg hm (by decide +kernel) ha hb (he := he) (he2 := he2) (hpl := hpl)
/-! ### == and != where no call is made (in a suite) -/
theorem de_eqU (hK : X.K = g.K) (hu : X.A.units + 64 < cLine) (ha : PE X e (tM g rW W fa)) (hb : PE X e2 (tM g rW W fb)) : PE X (.Compare e [.Eq] [e2] pos) (tM g rD W (bo eqD fa fb)) := de_cmp (op_eqD hu) (by rw [hK]; exact v_eq g) ha hb (nomark _)
theorem de_neU (hK : X.K = g.K) (hu : X.A.units + 64 < cLine) (ha : PE X e (tM g rW W fa)) (hb : PE X e2 (tM g rW W fb)) : PE X (.Compare e [.NotEq] [e2] pos) (tM g rD W (bo neD fa fb)) := de_cmp (op_neD hu) (by rw [hK]; exact v_ne g) ha hb (nomark _)
theorem dt_eqU (hK : X.K = g.K) (hu : X.A.units + 64 < cLine) (ha : PE X e (tM g rW W fa)) (hb : PE X e2 (tM g rW W fb)) : PT X (.Compare e [.Eq] [e2] pos) (tM g rB W (tst (bo eqD fa fb))) := dt_cmp (op_eqD hu) (by rw [hK]; exact v_eq g) ha hb (nomark _)
theorem dt_neU (hK : X.K = g.K) (hu : X.A.units + 64 < cLine) (ha : PE X e (tM g rW W fa)) (hb : PE X e2 (tM g rW W fb)) : PT X (.Compare e [.NotEq] [e2] pos) (tM g rB W (tst (bo neD fa fb))) := dt_cmp (op_neD hu) (by rw [hK]; exact v_ne g) ha hb (nomark _)
end

/-! ### lists of the store -/
/-- a list that has just been made becomes a thing of the store -/
theorem store_lst {g : G} {A : Ad} {B : Addr → Prop} {H : Hp} {ω : List Cell} {p : Addr} {vs : List V} {ds : List D} (w : Wo g A B H ω) (hp : H p = some (.lst vs)) (l : DpL g A B H vs ds) (hb : B p) (nl : ¬ Liv A p) :
    Wo g (A ++ [some p]) B H (ω ++ [.lst ds]) ∧ Mv A B H (A ++ [some p]) B H ∧ ∀ (A0 : Ad) (B0 : Addr → Prop) (H0 : Hp), Stp A0 B0 H0 A B H → H0 p = none → Stp A0 B0 H0 (A ++ [some p]) B H := by
  have ap : ∀ (k : Nat) (x : Option Addr), A[k]? = some x → (A ++ [some p])[k]? = some x := fun k x e => by rw [List.getElem?_append_left (List.getElem?_eq_some_iff.mp e).1]; exact e
  have m : Mv A B H (A ++ [some p]) B H := ⟨fun a o n e => ⟨e, n⟩, fun k x e => .inl (ap k x e), fun _ _ _ h => h⟩
  refine ⟨⟨by simp [w.len], fun i j a ei ej => ?_, fun a z => ?_, w.bnd, fun k c e => ?_⟩, m, fun A0 B0 H0 s h0 => ⟨s.keep, s.old, fun a z => ?_, fun k x e => ?_, s.trk, s.frz⟩⟩
  · have fix : ∀ (i : Nat) (a : Addr), (A ++ [some p])[i]? = some (some a) → (A[i]? = some (some a)) ∨ (i = A.length ∧ a = p) := fun i a e => by
      by_cases h : i < A.length
      · rw [List.getElem?_append_left h] at e; exact .inl e
      · rw [List.getElem?_append_right (Nat.le_of_not_lt h)] at e
        have hi : i - A.length = 0 := by
          cases q : i - A.length with
          | zero => rfl
          | succ n => rw [q] at e; simp at e
        rw [hi] at e
        have : p = a := by simpa using e
        exact .inr ⟨by omega, this.symm⟩
    rcases fix i a ei with h1 | ⟨h1, h2⟩
    · rcases fix j a ej with h3 | ⟨h3, h4⟩
      · exact w.inj i j a h1 h3
      · exact (nl (by rw [← h4]; exact Liv.of h1)).elim
    · rcases fix j a ej with h3 | ⟨h3, h4⟩
      · exact (nl (by rw [← h2]; exact Liv.of h3)).elim
      · rw [h1, h3]
  · rcases List.mem_append.mp z with z | z
    · exact w.liv a z
    · have : a = p := by simpa using z
      rw [this]; exact hb
  · by_cases h : k < ω.length
    · rw [List.getElem?_append_left h] at e
      rcases w.cell k c e with ⟨h1, h2⟩ | ⟨a, h1, h2⟩
      · exact .inl ⟨h1, ap _ _ h2⟩
      · exact .inr ⟨a, ap _ _ h1, h2.mv m fun o e => e⟩
    · rw [List.getElem?_append_right (Nat.le_of_not_lt h)] at e
      have hk : k - ω.length = 0 := by
        cases q : k - ω.length with
        | zero => rfl
        | succ n => rw [q] at e; simp at e
      rw [hk] at e
      have ec : Cell.lst ds = c := by simpa using e
      subst ec
      have ek : k = A.length := by rw [w.len]; omega
      exact .inr ⟨p, by rw [ek]; simp, vs, hp, DpL.mv m _ _ l⟩
  · rcases List.mem_append.mp z with z | z
    · exact s.new a z
    · have : a = p := by simpa using z
      exact .inr (by rw [this]; exact h0)
  · rcases s.ids k x e with q | q
    · exact .inl (ap _ _ q)
    · exact .inr (ap _ _ q)
/-- x = a new list, kept in the store -/
def setN (i : Nat) (f : M (List D)) : MS := bindS f fun ds ρ ω => some (.nx (ρ.set i (.fz (.oid ω.length))) (ω ++ [.lst ds]))
section
variable {X : Cx} {g : G} {n : En} {W : WX} {e : Expr} {f : M D} {fs : M (List D)} {pos : Pos}
theorem tN_setN {i : Nat} {D : Ends} {σ : St} {H : Hp} (h : tS g n W (setN i fs) D σ H) : tN g W fs σ H fun x H1 => gName i x σ H1 D.nx := by
  obtain ⟨A, B, ρ, ω, r, s, fm, e, res⟩ := h
  unfold setN bindS at e
  cases q : fs ρ ω with
  | none => rw [q] at e; cases e
  | some z =>
    rw [q] at e
    cases z with
    | exc x ω' =>
      cases e
      exact ⟨n.H, A, B, ρ, ω, _, fm, q, fun cls dd A' B' H' t w x => res cls dd σ A' B' H' (fm.wo.mv t) (s.trans t) (fm.up t w) x⟩
    | val ds ω' =>
      cases e
      refine ⟨n.H, A, B, ρ, ω, _, fm, q, fun p vs A' B' H' t w hp l hb nl h1 => ?_⟩
      obtain ⟨w2, m2, s2⟩ := store_lst w hp l hb nl
      have st := s2 n.A n.B n.H (s.trans t) (s.none h1)
      have t2 : Stp A B H (A' ++ [some p]) B' H' := s2 A B H t h1
      refine res.next (fm.wo.mv t2) st ((fm.up t2 w2).setF (.oid ?_))
      rw [← w.len]
      simp
theorem ds_setN {i : Nat} {x : Str} {pos' : Pos} (hN : X.N.Nodup) (he : PE X e (tN g W fs)) (hi : X.N[i]? = some x := by rfl) (hx : Loc X.env.scope x := by first | exact Or.inl rfl | exact Or.inr rfl) (hs : swapsWith e (some (.Name x pos')) pos.line X.env = pure false := by rfl)
    (hf : X.fn x = true ∨ X.env.scope.names.lookup x = some .local := by first | exact .inl rfl | exact .inr rfl | assumption) : PS X (.Assign [.Name x pos'] e pos) (tS g n W (setN i fs)) :=
  (ps_set hN hi hx he hs hf).dl fun D σ H h => tN_setN h
/-- x + y, a new list -/
def catL (x y : D) : M (List D) := fun _ ω => match view ω x, view ω y with
  | some (.lst xs), some (.lst ys) => if xs.length + ys.length ≤ sizeLine then some (.val (xs ++ ys) ω) else none
  | _, _ => none
theorem dn_cat {a b : Expr} {fa fb : M D} (ha : PE X a (tM g rW W fa)) (hb : PE X b (tM g rW W fb)) : PE X (.BinOp a .Add b pos) (tN g W (fa.bind fun x => fb.bind fun y => catL x y)) :=
  (pe_op op_cat ha hb).dl fun σ H Q ⟨H0, A, B, ρ, ω, r, fm, e, res⟩ => by
    refine tM_mono (tN_bind fm e res) fun x H1 ⟨A1, B1, ω1, d1, t1, fm1, r1, e1⟩ => ?_
    have res1 : ResN g W σ A1 B1 H1 Q r := by
      cases r with
      | val ds ω' => exact fun p vs A' B' H' t w h1 h2 h3 h4 h5 => res p vs A' B' H' (t1.trans t) w h1 h2 h3 h4 (t1.none h5)
      | exc x ω' => exact fun cls dd A' B' H' t => res cls dd A' B' H' (t1.trans t)
    refine tM_mono (tN_bind fm1 e1 res1) fun y H2 ⟨A2, B2, ω2, d2, t2, fm2, r2, e2⟩ => ?_
    unfold catL at e2
    split at e2
    · rename_i xs ys v1 v2
      split at e2
      · rename_i hz
        cases e2
        obtain ⟨p, vs, rfl, hp, l⟩ := view_ok fm2.wo (r1.up fm1.wo t2) v1
        obtain ⟨p', ws, rfl, hp', l'⟩ := view_ok fm2.wo r2 v2
        exact ⟨p, p', vs, ws, rfl, rfl, hp, hp', by rw [l.length, l'.length]; exact hz, res1.of t2 fm2.wo (l.append l')⟩
      · cases e2
    · cases e2
/-- x.append(e), x a list of the store -/
def appO (i : Nat) (f : M D) : MS := fun ρ ω => match ρ[i]? with
  | some (.fz (.oid k)) => (match ω[k]? with
    | some (.lst _) => bindS f (fun d ρ ω => match ω[k]? with
      | some (.lst ds) => if ds.length < sizeLine then some (.nx ρ (ω.set k (.lst (ds ++ [d])))) else none
      | _ => none) ρ ω
    | _ => none)
  | _ => none
theorem ds_appO {i : Nat} {x : Str} {p1 p2 p3 : Pos} (he : PE X e (tM g rD W f)) (hN : X.N[i]? = some x := by rfl) (hv : Vis X.env.scope x := by first | exact Or.inl rfl | exact Or.inr (Or.inl rfl) | exact Or.inr (Or.inr rfl)) (hd : (x == ("__debug__" : Str)) = false := by decide)
    (hcd : (x == ("__classdict__" : Str)) = false := by decide) (hbase : attributeBase (.Name x p1) "append" X.env (eval (.Name x p1) X.env) = eval (.Name x p1) X.env := by rfl)
    (hfew : ((backTo p3 (starEach [e] X.env)).all (fun x => !x.1) && (backToKw p3 (keywordEach [] X.env)).all (fun x => x.1.isSome)
      && decide ([e].length + ([] : List Keyword).length + (if ([] : List Keyword).isEmpty then 0 else 1) < 30)) = true := by rfl)
    (hline : (p2.endLine == p3.line) = true := by rfl) (hst : starEach [e] X.env = (false, eval e X.env) :: starEach [] X.env := by rfl) (hplain : (backTo p3 (starEach [] X.env)).any (·.1) = false := by rfl)
    (hs : swapsWith (.Call (.Attribute (.Name x p1) "append" p2) [e] [] p3) none pos.line X.env = pure false := by rfl) :
    PS X (.Expr (.Call (.Attribute (.Name x p1) "append" p2) [e] [] p3) pos) (tS g n W (appO i f)) :=
  (ps_expr (pe_bm PySem.F.plainAttrs_list PySem.F.slot_list_append PySem.F.type_list_append mt_append (pe_var hN hv hd hcd) (pa_cons he pa_nil hst) hbase hfew hline hst hplain) hs).dl fun D σ H ⟨A, B, ρ, ω, r, s, fm, e, res⟩ => by
    unfold appO at e
    split at e
    · rename_i k hi
      split at e
      · rename_i ds0 hk
        have cellAt : ∀ {A : Ad} {B : Addr → Prop} {H : Hp} {ω : List Cell} {ds : List DL.D} {v : V}, Wo g A B H ω → ω[k]? = some (.lst ds) → Dp g A B H v (.oid k) → ∃ a vs, v = .ref a ∧ A[k]? = some (some a) ∧ H a = some (.lst vs) ∧ DpL g A B H vs ds := by
          intro A B H ω ds v w hw dv
          rcases w.cell k _ hw with ⟨z, _⟩ | ⟨a, ha, vs, h1, h2⟩
          · cases z
          · cases dv with
            | oid e => rw [ha] at e; cases e; exact ⟨a, vs, rfl, ha, h1, h2⟩
            | ded e => rw [ha] at e; cases e
        obtain ⟨v, hv1, dv⟩ := fm.sl.val i _ hi
        obtain ⟨a, vs, rfl, ha, hp, l⟩ := cellAt fm.wo hk dv
        refine ⟨.ref a, hv1, .inl ⟨rfl, vs, SqL.of hp⟩, ?_⟩
        refine tM_mono (tS_bind s fm e res) fun u H1 ⟨A1, B1, ω1, d, t1, m1, s1, fm1, r1, e2, res1⟩ => ?_
        split at e2
        · rename_i ds1 hk1
          split at e2
          · rename_i hz
            cases e2
            obtain ⟨v', hv2, dv'⟩ := fm1.sl.val i _ hi
            rw [hv1] at hv2
            cases hv2
            obtain ⟨a', vs1, ea, ha1, hp1, l1⟩ := cellAt fm1.wo hk1 dv'
            cases ea
            refine ⟨a, vs1, u, rfl, rfl, hp1, by rw [l1.length]; exact hz, ?_⟩
            obtain ⟨fm2, m2⟩ := fm1.cellW (u := .lst (vs1 ++ [u])) (c := .lst (ds1 ++ [d])) ha1 (frz_not hp1) fun H' _ hu m => ⟨_, hu, DpL.mv m _ _ (l1.append (.cons r1 .nil))⟩
            exact res1.next m2 (s1.cellW (Liv.of ha1) (frz_not hp1)) fm2
          · cases e2
        · cases e2
      · cases e
    · cases e
end
end DL
/-! DL21: things made by their own __init__, which is read like any def. -/
namespace DL
open PySem L2

structure CalG (P : Program) (w : World) (K : PySem.W.Frag) (mg : Str → Option Value) (base : Heap) (c : Str) (ps : List Str) (k : Nat) (Gf : Fn) : Prop where
  ex : ∃ C f fd, mg c = some (.ref C) ∧ Mk K C f ∧ Binds K fd ps [] ∧ FnOk P w K mg base (L2.CX P w) k f fd ps (spD ⟨K, mg⟩ Gf)
theorem calG_of {P : Program} {w : World} {K : PySem.W.Frag} {mg : Str → Option Value} {base : Heap} {c qual : Str} {st : Stmt} {ps : List Str} {k : Nat} {Gf : Fn} (T : FI K mg c qual st) (b : ∀ a fd, Fun K "__init__" qual st a fd → Binds K fd ps [])
    (h : ∀ a fd, Fun K "__init__" qual st a fd → FnOk P w K mg base (L2.CX P w) k a fd ps (spD ⟨K, mg⟩ Gf)) : CalG P w K mg base c ps k Gf := by
  obtain ⟨C, f, fd, h1, h2, F⟩ := T.ex
  exact ⟨C, f, fd, h1, h2, b f fd F, h f fd F⟩
/-- a thing that does not change: made by __init__, then a datum -/
noncomputable def mkG (c : Str) (Gf : Fn) (ds : List D) : M D := fun _ ω => open Classical in match Gf (.oid ω.length :: ds) (ω ++ [.obj c []]) with
  | some (.val .non ω') => if h : ∃ fs, ω' = ω ++ [.obj c fs] ∧ noOF fs = true then some (.val (.obj c (Classical.choose h)) ω) else none
  | some (.exc x ω') => if ∃ fs, ω' = ω ++ [.obj c fs] ∧ noOF fs = true ∧ noOF x.fs = true then some (.exc x ω) else none
  | _ => none
/-- a thing of the store -/
def mkN (c : Str) (Gf : Fn) (ds : List D) : M D := fun _ ω => match Gf (.oid ω.length :: ds) (ω ++ [.obj c []]) with
  | some (.val .non ω') => some (.val (.oid ω.length) ω')
  | some (.exc x ω') => some (.exc x ω')
  | _ => none
section
variable {X : Cx} {W : WX} {c x : Str} {p pos : Pos} {e : Expr} {es : List Expr} {fs : M (List D)} {k j : Nat} {ps : List Str} {Gf : Fn} {C f : Addr} {fd : FuncData} {sp : Sp}
theorem run_makeS {pins : List (Addr × Obj)} {σ : St} {H : Hp} {s : Shared} {Q : VK} {us : List Value} {vs : List V} (tk : Takes X W) (Mm : Mk X.K C f) (F : FnOk X.prog X.w X.K X.mg X.base (L2.CX X.prog X.w) k f fd ps sp) (hr : Room (k + 1) X.A) (hb : Binds X.K fd ps [])
    (I : Inv X pins σ H s) (r : Vals vs us) (h : ∀ x dx, H x = none → H dx = none → dx ≠ x → sp (.ref x :: vs) (upd (upd H dx (.own x)) x (.ins C dx [])) (fun v H2 => v = .non ∧ Q (.ref x) H2) (WE W σ)) :
    wpAny (model X.prog X.w) X.A (call (.ref C) us) (EP X pins σ Q) X.xe s := by
  have hq := h (s.heap.objs.size + 1) s.heap.objs.size (I.hok.fresh (Nat.le_succ _)) (I.hok.fresh (Nat.le_refl _)) (Nat.ne_of_lt (Nat.lt_succ_self _))
  have I2 := Inv.made (C := C) I
  have r2 : Vals (V.ref (s.heap.objs.size + 1) :: vs) (Value.ref (s.heap.objs.size + 1) :: us) := .cons rfl r
  have hl : (Value.ref (s.heap.objs.size + 1) :: us ++ []).length = ps.length := by
    rw [List.append_nil, ← r2.length]
    exact F.len _ _ _ _ hq
  have bb := hb _ (Value.ref (s.heap.objs.size + 1) :: us) I2.kIn hl
  rw [List.append_nil] at bb
  refine wpAny_call (make_map (f := f) I.kIn Mm.makes Mm.init (beq_iff_eq.mp Mm.fn) (codeAny_mono (F.run _ X.stack _ _ ⟨Value.ref (s.heap.objs.size + 1) :: us, []⟩ (Value.ref (s.heap.objs.size + 1) :: us) _ _ (WE W σ) (hr.make C us []) (I2.env0.make C us []) bb r2 hq) fun r s' hq' => ?_))
  cases r with
  | error e => exact passAt tk σ pins _ _ e s' I2 hq'
  | ok fl =>
    cases fl with
    | ret u =>
      obtain ⟨v, H', I3, rv, ev, q3⟩ := I2.after hq'
      subst ev
      exact ⟨rv, ⟨V.ref (s.heap.objs.size + 1), H', I3, rfl, q3⟩⟩
    | next => exact False.elim hq'
    | brk => exact False.elim hq'
    | cont => exact False.elim hq'
def tMakeS (C : Addr) (sp : Sp) (W : WX) (t : TA) : TE := fun σ H Q => t σ H fun vs H1 => ∀ x dx, H1 x = none → H1 dx = none → dx ≠ x → sp (.ref x :: vs) (upd (upd H1 dx (.own x)) x (.ins C dx [])) (fun v H2 => v = .non ∧ Q (.ref x) H2) (WE W σ)
theorem pe_makeS {t : TA} (tk : Takes X W) (Mm : Mk X.K C f) (F : FnOk X.prog X.w X.K X.mg X.base (L2.CX X.prog X.w) k f fd ps sp) (hr : Room (k + 1) X.A) (hg : Gl X x) (hm : X.mg x = some (.ref C)) (hb : Binds X.K fd ps []) (ha : PA X (e :: es) t) (hdb : (x == ("__debug__" : Str)) = false := by decide)
    (he : starEach (e :: es) X.env = (false, eval e X.env) :: starEach es X.env := by rfl) (hpl : (backTo pos (starEach es X.env)).any (·.1) = false := by rfl) : PE X (.Call (.Name x p) (e :: es) [] pos) (tMakeS C sp W t) :=
  ⟨fun pins s σ H Q I h => wpAny_Call_Name_kw (ld_glob I hg hm (PySem.W.callWith_K (h₀ := X.base) I.ok.mod.kin Mm.kp (thn (ha.run pos pins s σ H _ I h) fun us s1 ⟨vs, H1, I1, r, q⟩ => ⟨I1.kIn, run_makeS tk Mm F hr hb I1 r q⟩) he hpl) hdb)⟩
theorem pe_makeS0 (tk : Takes X W) (Mm : Mk X.K C f) (F : FnOk X.prog X.w X.K X.mg X.base (L2.CX X.prog X.w) k f fd ps sp) (hr : Room (k + 1) X.A) (hg : Gl X x) (hm : X.mg x = some (.ref C)) (hb : Binds X.K fd ps []) (hdb : (x == ("__debug__" : Str)) = false := by decide) : PE X (.Call (.Name x p) [] [] pos) (tMakeS C sp W tNil) :=
  ⟨fun pins s σ H Q I h => wpAny_Call_Name_kw (ld_glob I hg hm (PySem.W.callWith_K0 I.kIn Mm.kp (run_makeS (us := []) tk Mm F hr hb I .nil h)) hdb)⟩
theorem XOk.cut {g : G} {A : Ad} {B B' : Addr → Prop} {H : Hp} {cls : Value} {dd : Option Addr} {y : Exc} {n : Nat} (hB : ∀ a, B' a → B a) (no : noOF y.fs = true) (h : XOk g A B H cls dd y) : XOk g (A.take n) B' H cls dd y := by
  obtain ⟨h1, ⟨d, vs, h2, h3, h4, h5⟩ | h⟩ := h
  · exact ⟨h1, .inl ⟨d, vs, h2, fun z => h3 (hB _ z), h4, DpF.cut hB _ _ (noOF_bel _ no) h5⟩⟩
  · exact ⟨h1, .inr h⟩
theorem tM_makeG (hC : X.mg c = some (.ref C)) : ∀ σ H Q, tM ⟨X.K, X.mg⟩ rD W (fs.bind (mkG c Gf)) σ H Q → tMakeS C (spD ⟨X.K, X.mg⟩ Gf) W (tM ⟨X.K, X.mg⟩ rL W fs) σ H Q := by
  rintro σ H Q ⟨H0, A, B, ρ, ω, r, fm, e, res⟩
  refine tM_mono (tM_bind fm e res) fun vs H1 ⟨A1, B1, ω1, ds, t1, fm1, r1, e1, res1⟩ => ?_
  intro y dy hy hd ne
  obtain ⟨st, wo⟩ := store_new (c := c) fm1.wo hy hd ne hC
  have hlen : A1.length = ω1.length := fm1.wo.len
  have hid : (A1 ++ [some y])[ω1.length]? = some (some y) := by rw [← hlen]; simp
  have keepId : ∀ {A' : Ad} {B' : Addr → Prop} {H' : Hp} {fl : List (Str × D)}, Stp (A1 ++ [some y]) (fun a => B1 a ∨ a = y) (upd (upd H1 dy (.own y)) y (.ins C dy [])) A' B' H' → Wo ⟨X.K, X.mg⟩ A' B' H' (ω1 ++ [.obj c fl]) → A'[ω1.length]? = some (some y) := fun {A' B' H' fl} t w => by
    rcases t.ids _ _ hid with z | z
    · exact z
    · rcases w.cell ω1.length (.obj c fl) (by simp) with ⟨z', _⟩ | ⟨a, h, _⟩
      · cases z'
      · rw [z] at h; cases h
  unfold mkG at e1
  cases q : Gf (.oid ω1.length :: ds) (ω1 ++ [.obj c []]) with
  | none => simp only [q] at e1; cases e1
  | some z =>
    refine ⟨_, _, ω1 ++ [.obj c []], .oid ω1.length :: ds, z, wo, .cons (.oid hid) (DpL.mv (fm1.wo.mv st) _ _ r1), q, ?_⟩
    cases z with
    | val d ω2 =>
      cases d with
      | non =>
        simp only [q] at e1
        split at e1
        · rename_i h
          cases e1
          obtain ⟨hw, no⟩ := Classical.choose_spec h
          intro v A' B' H' t w dp
          have ev : v = .non := by cases dp; rfl
          rw [hw] at w
          obtain ⟨s9, w9, d9⟩ := store_take fm1.wo (st.trans t) w (keepId t w) hy no
          exact ⟨ev, res1 (.ref y) _ _ H' s9 w9 d9⟩
        · cases e1
      | _ => simp only [q] at e1; cases e1
    | exc x' ω2 =>
      simp only [q] at e1
      split at e1
      · rename_i h
        cases e1
        obtain ⟨fl, hw, no, nx⟩ := h
        intro cls dd A' B' H' t w xo
        rw [hw] at w
        obtain ⟨s9, w9, d9⟩ := store_take fm1.wo (st.trans t) w (keepId t w) hy no
        exact res1 cls dd _ _ H' s9 w9 (xo.cut (fun _ z => z.1) nx)
      · cases e1
theorem tM_makeN (hC : X.mg c = some (.ref C)) : ∀ σ H Q, tM ⟨X.K, X.mg⟩ rD W (fs.bind (mkN c Gf)) σ H Q → tMakeS C (spD ⟨X.K, X.mg⟩ Gf) W (tM ⟨X.K, X.mg⟩ rL W fs) σ H Q := by
  rintro σ H Q ⟨H0, A, B, ρ, ω, r, fm, e, res⟩
  refine tM_mono (tM_bind fm e res) fun vs H1 ⟨A1, B1, ω1, ds, t1, fm1, r1, e1, res1⟩ => ?_
  intro y dy hy hd ne
  obtain ⟨st, wo⟩ := store_new (c := c) fm1.wo hy hd ne hC
  have hlen : A1.length = ω1.length := fm1.wo.len
  have hid : (A1 ++ [some y])[ω1.length]? = some (some y) := by rw [← hlen]; simp
  unfold mkN at e1
  cases q : Gf (.oid ω1.length :: ds) (ω1 ++ [.obj c []]) with
  | none => simp only [q] at e1; cases e1
  | some z =>
    refine ⟨_, _, ω1 ++ [.obj c []], .oid ω1.length :: ds, z, wo, .cons (.oid hid) (DpL.mv (fm1.wo.mv st) _ _ r1), q, ?_⟩
    cases z with
    | val d ω2 =>
      cases d with
      | non =>
        simp only [q] at e1
        cases e1
        intro v A' B' H' t w dp
        have ev : v = .non := by cases dp; rfl
        refine ⟨ev, res1 (.ref y) A' B' H' (st.trans t) w ?_⟩
        rcases t.ids _ _ hid with z | z
        · exact .oid z
        · exact .ded z
      | _ => simp only [q] at e1; cases e1
    | exc x' ω2 =>
      simp only [q] at e1
      cases e1
      exact fun cls dd A' B' H' t w xo => res1 cls dd A' B' H' (st.trans t) w xo
theorem de_makeG (tk : Takes X W) (cg : CalG X.prog X.w X.K X.mg X.base c ps k Gf) (hr : Room j X.A) (hj : k + 1 ≤ j) (hg : Gl X c) (ha : PA X (e :: es) (tM ⟨X.K, X.mg⟩ rL W fs)) (hdb : (c == ("__debug__" : Str)) = false := by decide)
    (he : starEach (e :: es) X.env = (false, eval e X.env) :: starEach es X.env := by rfl) (hpl : (backTo pos (starEach es X.env)).any (·.1) = false := by rfl) : PE X (.Call (.Name c p) (e :: es) [] pos) (tM ⟨X.K, X.mg⟩ rD W (fs.bind (mkG c Gf))) := by
  obtain ⟨C, f, fd, h1, h2, h3, h4⟩ := cg.ex
  exact (pe_makeS tk h2 h4 (hr.mono hj) hg h1 h3 ha hdb he hpl).dl (tM_makeG h1)
theorem de_makeN (tk : Takes X W) (cg : CalG X.prog X.w X.K X.mg X.base c ps k Gf) (hr : Room j X.A) (hj : k + 1 ≤ j) (hg : Gl X c) (ha : PA X (e :: es) (tM ⟨X.K, X.mg⟩ rL W fs)) (hdb : (c == ("__debug__" : Str)) = false := by decide)
    (he : starEach (e :: es) X.env = (false, eval e X.env) :: starEach es X.env := by rfl) (hpl : (backTo pos (starEach es X.env)).any (·.1) = false := by rfl) : PE X (.Call (.Name c p) (e :: es) [] pos) (tM ⟨X.K, X.mg⟩ rD W (fs.bind (mkN c Gf))) := by
  obtain ⟨C, f, fd, h1, h2, h3, h4⟩ := cg.ex
  exact (pe_makeS tk h2 h4 (hr.mono hj) hg h1 h3 ha hdb he hpl).dl (tM_makeN h1)
end
/-! ### values -/
theorem mkG_ev {c : Str} {Gf : Fn} {fs : M (List D)} {ds : List D} {fl : List (Str × D)} {ρ : Rho} {ω ω1 : List Cell} (ha : fs ρ ω = some (.val ds ω1)) (h : Gf (.oid ω1.length :: ds) (ω1 ++ [.obj c []]) = some (.val .non (ω1 ++ [.obj c fl]))) (no : noOF fl = true) : (fs.bind (mkG c Gf)) ρ ω = some (.val (.obj c fl) ω1) := by
  rw [bind_ev ha]
  unfold mkG
  simp only [h]
  have q : ∃ fs, ω1 ++ [Cell.obj c fl] = ω1 ++ [.obj c fs] ∧ noOF fs = true := ⟨fl, rfl, no⟩
  rw [dif_pos q]
  have e := (Classical.choose_spec q).1
  have e2 := List.append_cancel_left e
  simp only [List.cons.injEq, Cell.obj.injEq, true_and, and_true] at e2
  rw [← e2]
theorem mkG_ex {c : Str} {Gf : Fn} {fs : M (List D)} {ds : List D} {fl : List (Str × D)} {x : Exc} {ρ : Rho} {ω ω1 : List Cell} (ha : fs ρ ω = some (.val ds ω1)) (h : Gf (.oid ω1.length :: ds) (ω1 ++ [.obj c []]) = some (.exc x (ω1 ++ [.obj c fl]))) (no : noOF fl = true) (nx : noOF x.fs = true) : (fs.bind (mkG c Gf)) ρ ω = some (.exc x ω1) := by
  rw [bind_ev ha]
  unfold mkG
  simp only [h]
  rw [if_pos ⟨fl, rfl, no, nx⟩]
theorem last_cell (ω : List Cell) (c : Cell) : (ω ++ [c])[ω.length]? = some c := by simp
theorem set_last (ω : List Cell) (c d : Cell) : (ω ++ [c]).set ω.length d = ω ++ [d] := by simp
/-- the law's own def, whatever is left in the store -/
theorem law_fnE {P : Program} {w : World} {K : PySem.W.Frag} {mg : Str → Option Value} {base : Heap} {f : Addr} {fd : FuncData} {y : Str} {k : Nat} {Gf : Fn} (F : FnOk P w K mg base CX0 k f fd [y] (spD ⟨K, mg⟩ Gf)) (h : ∀ ns : List Int, ns.length ≤ 63 → ∃ ω', Gf [.scr ns] [] = some (.val (.bl true) ω')) : FnOk P w K mg base CX0 k f fd [y] (spLaw K) := by
  refine F.imp fun vs H Q E ⟨b, ns, e, s, l, q⟩ => ?_
  subst e
  obtain ⟨ω', hg⟩ := h ns l
  refine ⟨[], fun _ => False, [], [.scr ns], _, wo0, .cons ?_ .nil, hg, fun v A' B' H' t w dp => ?_⟩
  · rcases s with s | s
    · exact .scr (fun z => z) s
    · exact .scrK s
  · cases dp
    exact q H'
/-! ### a module's ints and texts -/
theorem de_globI {X : Cx} {g : G} {W : WX} {x : Str} {i : Int} {pos : Pos} (h : ∃ t, X.mg x = some (.int i t)) (hg : Gl X x) (hdb : (x == ("__debug__" : Str)) = false := by decide) : PE X (.Name x pos) (tM g rD W (M.pure (.int i))) := by
  obtain ⟨t, h⟩ := h
  exact de_glob (v := .int i) hg h ⟨t, rfl⟩ (fun _ _ _ _ => .int i) hdb
theorem de_globS {X : Cx} {g : G} {W : WX} {x z : Str} {pos : Pos} (h : ∃ t, X.mg x = some (.str z t)) (hg : Gl X x) (hdb : (x == ("__debug__" : Str)) = false := by decide) : PE X (.Name x pos) (tM g rD W (M.pure (.str z))) := by
  obtain ⟨t, h⟩ := h
  exact de_glob (v := .str z) hg h ⟨t, rfl⟩ (fun _ _ _ _ => .str z) hdb
theorem u64_mk {k : Nat} {A : Around} {v : Option Value} (hr : Room k A) : (A.mark v).units + 64 < cLine := hr.units
end DL
/-! DL22: values of readings, more of them. -/
namespace DL
open PySem L2
section
variable {fa fb fc : M D} {ρ : Rho} {ω ω1 ω2 ω3 : List Cell} {d : D}
theorem andV_t (h : fa ρ ω = some (.val (.bl true) ω1)) : andV fa fb ρ ω = fb ρ ω1 := by unfold andV; rw [bind_ev (bind_ev h)]; rfl
theorem andV_f (h : fa ρ ω = some (.val (.bl false) ω1)) : andV fa fb ρ ω = some (.val (.bl false) ω1) := by unfold andV; rw [bind_ev (bind_ev h)]; rfl
theorem orV_t (h : fa ρ ω = some (.val (.bl true) ω1)) : orV fa fb ρ ω = some (.val (.bl true) ω1) := by unfold orV; rw [bind_ev (bind_ev h)]; rfl
theorem orV_f (h : fa ρ ω = some (.val (.bl false) ω1)) : orV fa fb ρ ω = fb ρ ω1 := by unfold orV; rw [bind_ev (bind_ev h)]; rfl
theorem notV_ev {b : Bool} (h : fa ρ ω = some (.val (.bl b) ω1)) : notV fa ρ ω = some (.val (.bl !b) ω1) := by unfold notV; rw [bind_ev (bind_ev h)]; rfl
theorem andV_ev {b c : Bool} (h : fa ρ ω = some (.val (.bl b) ω)) (h2 : fb ρ ω = some (.val (.bl c) ω)) : andV fa fb ρ ω = some (.val (.bl (b && c)) ω) := by
  cases b with
  | true => rw [andV_t h, h2]; rfl
  | false => rw [andV_f h]; rfl
theorem orV_ev {b c : Bool} (h : fa ρ ω = some (.val (.bl b) ω)) (h2 : fb ρ ω = some (.val (.bl c) ω)) : orV fa fb ρ ω = some (.val (.bl (b || c)) ω) := by
  cases b with
  | true => rw [orV_t h]; rfl
  | false => rw [orV_f h, h2]; rfl
theorem orM_ev {t u : M Bool} {b c : Bool} (h : t ρ ω = some (.val b ω)) (h2 : u ρ ω = some (.val c ω)) : DL.orM t u ρ ω = some (.val (b || c) ω) := by
  cases b with
  | true => exact orM_t h
  | false => exact orM_f h h2
theorem andM_ev {t u : M Bool} {b c : Bool} (h : t ρ ω = some (.val b ω)) (h2 : u ρ ω = some (.val c ω)) : DL.andM t u ρ ω = some (.val (b && c) ω) := by
  cases b with
  | true => exact andM_t h h2
  | false => exact andM_f h
theorem chain_int {i j k : Int} (ha : fa ρ ω = some (.val (.int i) ω)) (hb : fb ρ ω = some (.val (.int j) ω)) (hc : fc ρ ω = some (.val (.int k) ω)) : chainV ltD ltD fa fb fc ρ ω = some (.val (.bl (decide (i < j) && decide (j < k))) ω) := by
  unfold chainV
  rw [bind_ev ha, bind_ev hb, bind_ev (a := .bl (decide (i < j))) (ω1 := ω) rfl, bind_ev (a := decide (i < j)) (ω1 := ω) rfl]
  cases decide (i < j) with
  | true => rw [if_pos rfl, bind_ev hc]; rfl
  | false => rfl
end
theorem kit_ss : kitB "str" "str" = some true := by decide +kernel
theorem kit_si : kitB "str" "int" = some false := by decide +kernel
theorem kit_ii : kitB "int" "int" = some true := by decide +kernel
theorem kit_is : kitB "int" "str" = some false := by decide +kernel
theorem kit_ib : kitB "int" "bool" = some false := by decide +kernel
theorem kit_tt : kitB "tuple" "tuple" = some true := by decide +kernel
theorem isi_ss (x : Str) : isiB "str" (.str x) = some (.bl true) := by show (kitB "str" "str").map D.bl = _; rw [kit_ss]; rfl
theorem isi_si (x : Str) : isiB "int" (.str x) = some (.bl false) := by show (kitB "str" "int").map D.bl = _; rw [kit_si]; rfl
theorem isi_ii (x : Int) : isiB "int" (.int x) = some (.bl true) := by show (kitB "int" "int").map D.bl = _; rw [kit_ii]; rfl
theorem isi_is (x : Int) : isiB "str" (.int x) = some (.bl false) := by show (kitB "int" "str").map D.bl = _; rw [kit_is]; rfl
theorem isi_ib (x : Int) : isiB "bool" (.int x) = some (.bl false) := by show (kitB "int" "bool").map D.bl = _; rw [kit_ib]; rfl
theorem isi_tt (x : List D) : isiB "tuple" (.tup x) = some (.bl true) := by show (kitB "tuple" "tuple").map D.bl = _; rw [kit_tt]; rfl
theorem eqD_int (i j : Int) : eqD (.int i) (.int j) = some (.bl (decide (i = j))) := by
  rw [eqD_fine rfl rfl]
  by_cases h : i = j <;> simp [eqb, h]
theorem neD_int (i j : Int) : neD (.int i) (.int j) = some (.bl !(decide (i = j))) := by
  rw [neD_fine rfl rfl]
  by_cases h : i = j <;> simp [eqb, h]
theorem fineS {x : Str} (h : PySem.PyData.strOk x = true) : fine (.str x) = true := by
  rw [fine_iff]
  exact ⟨h, Nat.zero_le _⟩
theorem eqD_str {x y : Str} (hx : PySem.PyData.strOk x = true) (hy : PySem.PyData.strOk y = true) : eqD (.str x) (.str y) = some (.bl (x == y)) := by rw [eqD_fine (fineS hx) (fineS hy)]; rfl
theorem neD_str {x y : Str} (hx : PySem.PyData.strOk x = true) (hy : PySem.PyData.strOk y = true) : neD (.str x) (.str y) = some (.bl !(x == y)) := by rw [neD_fine (fineS hx) (fineS hy)]; rfl
/-! ### texts -/
theorem in_sign (z : Str) (c : Nat) : inD (.str ⟨#[c]⟩) (.str z) = some (.bl (decide (c ∈ z.cps.toList))) := by
  show (some (!(Builtin.Str.occurrences z ⟨#[c]⟩ 0 z.length 1).isEmpty)).map D.bl = _
  have e : (!(Builtin.Str.occurrences z ⟨#[c]⟩ 0 z.length 1).isEmpty) = decide (c ∈ z.cps.toList) := StrLaws.found_one z c
  rw [e]
  rfl
theorem notin_sign (z : Str) (c : Nat) : notInD (.str ⟨#[c]⟩) (.str z) = some (.bl !(decide (c ∈ z.cps.toList))) := by
  show (some (!(Builtin.Str.occurrences z ⟨#[c]⟩ 0 z.length 1).isEmpty)).map (fun b => D.bl !b) = _
  have e : (!(Builtin.Str.occurrences z ⟨#[c]⟩ 0 z.length 1).isEmpty) = decide (c ∈ z.cps.toList) := StrLaws.found_one z c
  rw [e]
  rfl
theorem any_strs (x : Str) (ss : List Str) : ((ss.map D.str).any fun z => eqb z (.str x)) = ss.contains x := by
  induction ss with
  | nil => rfl
  | cons s ss ih =>
    rw [List.map_cons, List.any_cons, ih]
    show ((s == x) || _) = _
    rw [List.contains_cons, Bool.beq_comm]
theorem flat_strs (ss : List Str) : (ss.map D.str).all flat = true := by
  induction ss with
  | nil => rfl
  | cons s ss ih => rw [List.map_cons, List.all_cons, ih]; rfl
theorem in_strs (x : Str) (ss : List Str) : inD (.str x) (.tup (ss.map D.str)) = some (.bl (ss.contains x)) := by
  show (if (flat (.str x) && (ss.map D.str).all flat) = true then some ((ss.map D.str).any fun z => eqb z (.str x)) else none).map D.bl = _
  rw [flat_strs, any_strs]
  rfl
theorem len_cps (x : Str) : x.length = x.cps.toList.length := by simp [Str.length]
theorem len_str {x : Str} (h : x.length ≤ 1000) : lenD (.str x) = some (.int x.length) := if_pos (by rw [sizeLine_eq]; omega)
theorem ix_strN {x : Str} {i : Nat} {c : Nat} (h : x.length ≤ 1000) (hc : x.cps.toList[i]? = some c) : ixD (.str x) (.int i) = some (.str ⟨#[c]⟩) := by
  show (if x.length ≤ sizeLine then (atI x.cps.toList i).map fun c => D.str ⟨#[c]⟩ else none) = _
  rw [if_pos (by rw [sizeLine_eq]; omega), atI_nat hc]
  rfl
theorem ix_str0 {x : Str} (h : x.length ≤ 1000) (h0 : 1 ≤ x.length) : ixD (.str x) (.int 0) = some (.str ⟨#[x.cps.toList.headD 0]⟩) := by
  rw [len_cps] at h0
  exact ix_strN (i := 0) h (by
    cases hx : x.cps.toList with
    | nil => rw [hx] at h0; simp at h0
    | cons a l => rfl)
/-- all(f(c) for the signs c of a text) -/
theorem all_signs {x : Str} {p : Nat → Bool} {f : M D} {i j : Nat} {ρ : Rho} {ω : List Cell} (h : x.length ≤ 1000) (hx : vW i ρ ω = some (.val (.str x) ω)) (hf : ∀ c ∈ x.cps.toList, f ((wipeE ρ [j]).set j (.fz (.str ⟨#[c]⟩))) ω = some (.val (.bl (p c)) ω)) :
    (uo allD ((lcM [j] ((vW i).bind itemsOf) (nmT j) (M.pure true) f).bind fun ds => M.pure (.lst ds))) ρ ω = some (.val (.bl (x.cps.toList.all p)) ω) := by
  have e := lcM_map (vs := [j]) (src := (vW i).bind itemsOf) (T := nmT j) (f := f) (ρ := ρ) (ω := ω) (ω1 := ω) (xs := x.cps.toList) (fun c => D.str ⟨#[c]⟩) (fun c => .bl (p c))
    (by rw [bind_ev hx]; rfl) (by rw [sizeLine_eq, ← len_cps]; omega) (fun c hc => ⟨_, rfl, hf c hc⟩)
  refine uo_ev (bind_ev e) rfl ?_
  rw [show x.cps.toList.map (fun c => D.bl (p c)) = (x.cps.toList.map p).map D.bl by simp, allD_bls]
  simp [List.all_map, Function.comp_def]
theorem addD_str {x y : Str} (h : x.length + y.length ≤ 1000) : addD (.str x) (.str y) = some (.str (x ++ y)) := if_pos (by rw [sizeLine_eq]; omega)
/-- a thing's field -/
theorem fld_ev {cs : List Str} {c f : Str} {fl : List (Str × D)} {d : D} {fa : M D} {ρ : Rho} {ω ω1 : List Cell} (h : fa ρ ω = some (.val (.obj c fl) ω1)) (hc : cs.contains c = true) (hl : fl.lookup f = some d) : (uo (fldD cs f) fa) ρ ω = some (.val d ω1) :=
  uo_ev h rfl (by show (if _ then _ else _) = _; rw [if_pos hc, hl])
theorem exprS_ev {f : M D} {d : D} {ρ : Rho} {ω ω1 : List Cell} (h : f ρ ω = some (.val d ω1)) : exprS f ρ ω = some (.nx ρ ω1) := by unfold exprS; rw [bindS_ev h]
theorem exprS_ex {f : M D} {x : Exc} {ρ : Rho} {ω ω1 : List Cell} (h : f ρ ω = some (.exc x ω1)) : exprS f ρ ω = some (.exc x ρ ω1) := by unfold exprS; rw [bindS_ex h]
theorem setS_ex {f : M D} {i : Nat} {x : Exc} {ρ : Rho} {ω ω1 : List Cell} (h : f ρ ω = some (.exc x ω1)) : setS i f ρ ω = some (.exc x ρ ω1) := by unfold setS; rw [bindS_ex h]
theorem retS_ex {f : M D} {x : Exc} {ρ : Rho} {ω ω1 : List Cell} (h : f ρ ω = some (.exc x ω1)) : retS f ρ ω = some (.exc x ρ ω1) := by unfold retS; rw [bindS_ex h]
theorem calM_ex {Gf : Fn} {fs : M (List D)} {ds : List D} {x : Exc} {ρ : Rho} {ω ω1 ω' : List Cell} (ha : fs ρ ω = some (.val ds ω1)) (h : Gf ds ω1 = some (.exc x ω')) : calM Gf fs ρ ω = some (.exc x ω') := by
  unfold calM
  rw [bind_ev ha]
  exact h
theorem catS_nx {T : List (Str × Bool)} {i : Nat} {K : XP → MS} {r : List Cls1} {x : Exc} {ρ ρ' : Rho} {ω ω' : List Cell} (h : T.lookup x.c = some true) (hK : ∀ p, ∃ q, K p (ρ.set i (.ex p x)) ω = some (.nx q ω') ∧ q.set i .no = ρ') : catS ((T, some i, K) :: r) x ρ ω = some (.nx ρ' ω') := by
  show (match T.lookup x.c with | none => none | some true => _ | some false => _) = _
  rw [h]
  refine forP_ev fun p => ?_
  obtain ⟨q, e1, e2⟩ := hK p
  show unS (some i) (K p (ρ.set i (.ex p x)) ω) = _
  rw [e1, ← e2]
  rfl
theorem xfM_ev {i : Nat} {c f : Str} {p : XP} {x : Exc} {d : D} {ρ : Rho} {ω : List Cell} (h : ρ[i]? = some (.ex p x)) (hc : x.c = c) (hl : x.fs.lookup f = some d) : xfM i c f p ρ ω = some (.val d ω) := by
  unfold xfM
  simp [h, hc, hl]
end DL
/-! DL23: len(set(xs)), xs a list or a tuple of texts or of ints. -/
namespace DL
open PySem L2
open PyProof.Rows hiding St

/-! ### unlike ones, in the order in which they come -/
def addNew {K : Type} [DecidableEq K] (acc : List K) (k : K) : List K := if k ∈ acc then acc else acc ++ [k]
def unlike {K : Type} [DecidableEq K] (ks : List K) : List K := ks.foldl addNew []
section
variable {K : Type} [DecidableEq K]
theorem addNew_mem (acc : List K) (k x : K) : x ∈ addNew acc k ↔ x ∈ acc ∨ x = k := by
  unfold addNew
  split
  · rename_i h
    exact ⟨.inl, fun z => z.elim id fun e => e ▸ h⟩
  · simp
theorem unlike_snoc (ks : List K) (k : K) : unlike (ks ++ [k]) = addNew (unlike ks) k := by simp [unlike]
theorem unlike_take {ks : List K} {i : Nat} {k : K} (h : ks[i]? = some k) : unlike (ks.take (i + 1)) = addNew (unlike (ks.take i)) k := by
  rw [← unlike_snoc, List.take_succ, h]
  rfl
theorem addNew_le (acc : List K) (k : K) : (addNew acc k).length ≤ acc.length + 1 := by
  unfold addNew
  split
  · omega
  · simp
theorem foldl_le : ∀ (ks acc : List K), (ks.foldl addNew acc).length ≤ acc.length + ks.length
  | [], acc => by simp
  | k :: ks, acc => by
    have h1 := foldl_le ks (addNew acc k)
    have h2 := addNew_le acc k
    simp only [List.foldl_cons, List.length_cons]
    omega
theorem unlike_le (ks : List K) : (unlike ks).length ≤ ks.length := by
  have := foldl_le ks []
  simpa [unlike] using this
theorem foldl_nodup : ∀ (ks acc : List K), (acc ++ ks).Nodup → ks.foldl addNew acc = acc ++ ks
  | [], acc, _ => by simp
  | k :: ks, acc, h => by
    have hk : k ∉ acc := fun z => by
      have := (List.nodup_append.mp h).2.2 k z k List.mem_cons_self
      exact this rfl
    simp only [List.foldl_cons]
    rw [show addNew acc k = acc ++ [k] from if_neg hk, foldl_nodup ks (acc ++ [k]) (by simpa using h)]
    simp
theorem unlike_nodup {ks : List K} (h : ks.Nodup) : unlike ks = ks := by
  have := foldl_nodup ks [] (by simpa using h)
  simpa [unlike] using this
theorem addNew_nodup {acc : List K} (h : acc.Nodup) (k : K) : (addNew acc k).Nodup := by
  unfold addNew
  split
  · exact h
  · rename_i hk
    rw [List.nodup_append]
    exact ⟨h, by simp, fun a ha b hb e => hk (by rw [← List.mem_singleton.mp hb, ← e]; exact ha)⟩
theorem foldl_lt : ∀ (ks acc : List K), acc.Nodup → ¬ (acc ++ ks).Nodup → (ks.foldl addNew acc).length < acc.length + ks.length
  | [], acc, h, n => (n (by simpa using h)).elim
  | k :: ks, acc, h, n => by
    simp only [List.foldl_cons, List.length_cons]
    by_cases hk : k ∈ acc
    · rw [show addNew acc k = acc from if_pos hk]
      have := foldl_le ks acc
      omega
    · rw [show addNew acc k = acc ++ [k] from if_neg hk]
      have h2 : (acc ++ [k]).Nodup := by
        have := addNew_nodup h k
        rwa [show addNew acc k = acc ++ [k] from if_neg hk] at this
      have := foldl_lt ks (acc ++ [k]) h2 (by simpa using n)
      simp only [List.length_append, List.length_cons, List.length_nil] at this
      omega
theorem unlike_iff (ks : List K) : (unlike ks).length = ks.length ↔ ks.Nodup := by
  constructor
  · intro h
    by_cases n : ks.Nodup
    · exact n
    · have := foldl_lt ks [] (by simp) (by simpa using n)
      simp only [List.length_nil, Nat.zero_add] at this
      have e : (unlike ks).length = (ks.foldl addNew []).length := rfl
      omega
  · intro h
    rw [unlike_nodup h]
end

/-! ### the machine's loop -/
section
variable {prog : Program} {w : World} {K : Type} [DecidableEq K] (knd : KeyKind prog w K)
theorem upd_loop {A : Around} {R : Result → Shared → Prop} {I : Addr} {fp wr : List Addr} {Gn : Array GenState → Array GenState → Prop} {n : Nat} {P : Nat → Value → Prop} {Sn : Nat → Shared → Prop} (Wk : WalksS prog w A.in1 I fp wr Gn n P Sn) (S : Addr) (hSf : S ∉ fp) (ks : List K) (hb : n + 1 < scanBound)
    (hval : ∀ i v, P i v → ∃ k, ks[i]? = some k ∧ knd.is k v = true ∧ v.scannable = true) : ∀ (m i : Nat) (s : Shared), n - i = m → i ≤ n → Sn i s →
      s.heap.SetOf knd S (fun x => decide (x ∈ unlike (ks.take i))) (unlike (ks.take i)).length →
      (∀ s', Moved (S :: wr) Gn s s' → s'.heap.SetOf knd S (fun x => decide (x ∈ unlike (ks.take n))) (unlike (ks.take n)).length → R (.ok (.ret .none)) s') →
      codeAny (model prog w) A (.builtin "set.update.loop" ⟨[.ref S, .ref I], []⟩) R s := by
  have hSw : S ∉ wr := fun h => hSf (Wk.sub _ h)
  have more : ∀ b ∈ wr, b ∈ S :: wr := fun b z => List.mem_cons_of_mem _ z
  have still : ∀ {s s' : Shared} {T : K → Bool} {c : Nat}, Moved wr Gn s s' → s.heap.SetOf knd S T c → s'.heap.SetOf knd S T c := fun hm ⟨o, es, ep, t, ho, q⟩ => ⟨o, es, ep, t, hm.heap S _ hSw ho, q⟩
  intro m
  induction m with
  | zero =>
    intro i s hk hi st hS hR
    obtain rfl : i = n := by omega
    refine codeAny_builtin PyProof.Rows.F.entry_set_update_loop ?_
    rw [Around.under_plainId PyProof.Rows.F.plain_set_update_loop _]
    exact wpAny_bind (Wk.done s _ _ st fun s' hm => wpAny_pure (hR s' (hm.mono more) (still hm hS)))
  | succ m ih =>
    intro i s hk hi st hS hR
    have lt : i < n := by omega
    refine codeAny_builtin PyProof.Rows.F.entry_set_update_loop ?_
    rw [Around.under_plainId PyProof.Rows.F.plain_set_update_loop _]
    refine wpAny_bind (Wk.item i s _ _ lt st fun v s' hP st' hm => ?_)
    obtain ⟨k, hki, is_, sc⟩ := hval i v hP
    show wpAny _ A.in1 (holding [v] (setAdd S v) >>= _) _ _ s'
    refine wpAny_bind (wpAny_holding ?_)
    unfold setAdd
    refine wpAny_holding (wpAny_bind (knd.pyHash is_ ?_))
    have room : (unlike (ks.take i)).length + 1 < scanBound := by
      have h1 := unlike_le (ks.take i)
      have h2 : (ks.take i).length ≤ i := by rw [List.length_take]; exact Nat.min_le_left _ _
      omega
    have hS1 := still hm hS
    refine wpAny_setAddHashed_of (knd := knd) (s := { s' with toks := s'.toks + 1 }) is_ sc hS1 room fun h' hsb hS2 => ?_
    have hSi : h'.SetOf knd S (fun x => decide (x ∈ unlike (ks.take (i + 1)))) (unlike (ks.take (i + 1))).length := by
      rw [unlike_take hki]
      have e1 : (fun x => decide (x ∈ addNew (unlike (ks.take i)) k)) = fun x => decide (x ∈ unlike (ks.take i)) || decide (x = k) := by
        funext x
        rw [Bool.eq_iff_iff]
        simp [addNew_mem]
      have e2 : (addNew (unlike (ks.take i)) k).length = if decide (k ∈ unlike (ks.take i)) = true then (unlike (ks.take i)).length else (unlike (ks.take i)).length + 1 := by
        unfold addNew
        by_cases h : k ∈ unlike (ks.take i) <;> simp [h]
      rw [e1, e2]
      exact hS2
    refine wpAny_pure ⟨plainId_quiet PyProof.Rows.F.plain_set_update_loop _, ih (i + 1) _ (by omega) lt (Wk.frame _ s' _ _ st' (Nat.le_succ _) fun b hb o e => ?_) hSi fun s2 hm2 hS3 => ?_⟩
    · rw [hsb.2 b (fun z : b = S => hSf (by rw [← z]; exact hb))]; exact e
    · refine hR s2 (Moved.trans Wk.gtrans ((hm.mono more).then_heap (Nat.le_succ _) fun b o hb e => ?_) hm2) hS3
      rw [hsb.2 b (fun z : b = S => hb (by rw [z]; exact List.mem_cons_self))]; exact e
/-- set(xs), xs a list -/
theorem set_of_list {A : Around} {E : Value → Shared → Prop} {s : Shared} {l : Addr} {items : Array Value} (ks : List K) {Q : Value → Shared → Prop} (hh : A.handled = none) (hl : s.heap.IsList l items) (hn : items.size + 1 < scanBound)
    (hv : ∀ (i : Nat) (v : Value), items[i]? = some v → ∃ k, ks[i]? = some k ∧ knd.is k v = true ∧ v.scannable = true)
    (h : ∀ (h' : Heap) (tk : Nat), h'.SetOf knd s.heap.objs.size (fun x => decide (x ∈ unlike (ks.take items.size))) (unlike (ks.take items.size)).length → (∀ b o, b < s.heap.objs.size → s.heap.get? b = some o → h'.get? b = some o) → Q (.ref s.heap.objs.size) { s with heap := h', toks := tk }) :
    wpAny (model prog w) A (call (.type "set") [.ref l]) Q E s := by
  obtain ⟨c, tl, hmro⟩ := PySem.F.called_set.mro
  have hmade := PySem.F.called_set.made
  have hsub := PySem.F.called_set.sub
  have h1 := PySem.F.called_set.notType
  have h2 := PySem.F.called_set.canCreate
  have hct := PySem.F.typeCall_set_1 (.ref l)
  refine wpAny_call (codeAny_of_tree ?_)
  show wpAny _ _ (callAny (.type "set") _) _ _ _
  refine wpAny_pure ⟨Code.quiet_builtin _ (by decide +kernel), codeAny_builtin PySem.F.entry_type_call ?_⟩
  rw [Around.under_plain (weight_type_call_type "set" [.ref l] []) rfl]
  repeat (any_goals (first | assumption | wp_step))
  refine codeAny_mono (code_set_new_1 (.ref l) (E := E) (Q₁ := fun ob s₁ => ∃ led : Bool, ob = .ref s.heap.objs.size ∧ s₁ = { s with heap := s.heap.push { cls := .type "set", dict := none, data := .set #[] 0 (.fresh 0 0 led) } }) fun led => ⟨led, rfl, rfl⟩) fun r s₁ hr => ?_
  cases r with
  | error e => exact hr
  | ok fl =>
    cases fl with
    | ret ob =>
      obtain ⟨led, rfl, rfl⟩ := hr
      have hS : (s.heap.push { cls := .type "set", dict := none, data := .set #[] 0 (.fresh 0 0 led) }).get? s.heap.objs.size = some { cls := .type "set", dict := none, data := .set #[] 0 (.fresh 0 0 led) } := Heap.get?_push_size _ rfl
      have hT : Shared.TypeIs { s with heap := s.heap.push { cls := .type "set", dict := none, data := .set #[] 0 (.fresh 0 0 led) } } (.ref s.heap.objs.size) "set" := ⟨_, hS, rfl⟩
      have hli := PySem.F.called_set.init.lookup
      have hbi := PySem.F.called_set.init.bind (.ref s.heap.objs.size)
      repeat (any_goals (first | assumption | wp_step))
      refine codeAny_mono (codeAny_call_builtin (R := wants (fun r s₂ => r = .none ∧ ∃ h' tk, s₂ = { s with heap := h', toks := tk } ∧ h'.SetOf knd s.heap.objs.size (fun x => decide (x ∈ unlike (ks.take items.size))) (unlike (ks.take items.size)).length ∧
          (∀ b o, b < s.heap.objs.size → s.heap.get? b = some o → h'.get? b = some o)) E) PySem.F.called_set.init.plain PySem.F.entry_set_init (check_set_init_1 hT ?_)) fun r₂ s₂ hr₂ => ?_
      · obtain ⟨⟨oc, od, odt, osl⟩, hol, hcl, nl, hdl⟩ := hl
        simp only at hcl hdl
        subst hcl; subst hdl
        have hol' : (s.heap.push { cls := .type "set", dict := none, data := .set #[] 0 (.fresh 0 0 led) }).get? l = some { cls := .type "list", dict := od, data := .seq items nl, slots := osl } := Heap.get?_push_of_some _ hol
        have hsls := PySem.F.sub_list_set
        have hslf := PySem.F.sub_list_frozenset
        have hne : (Value.type "list" == Value.type "dict") = false := by decide
        have hl1 : (s.heap.push { cls := .type "set", dict := none, data := .set #[] 0 (.fresh 0 0 led) }).IsList l items := ⟨_, hol', rfl, nl, rfl⟩
        unfold Builtin.«set.__init__» noKeywords Builtin.Frozenset.updateFrom
        generalize hPI : pyIter = PI
        wp_walk
        subst hPI
        refine wpAny_pyIter_list hl1 ?_
        refine wpAny_bind (wpAny_runValue ?_)
        have lS : l < s.heap.objs.size := Heap.lt_size hol
        have sz : (s.heap.push { cls := .type "set", dict := none, data := .set #[] 0 (.fresh 0 0 led) }).objs.size = s.heap.objs.size + 1 := Heap.size_push _ _
        have hneI : l ≠ (s.heap.push { cls := .type "set", dict := none, data := .set #[] 0 (.fresh 0 0 led) }).objs.size := by rw [sz]; exact Nat.ne_of_lt (Nat.lt_succ_of_lt lS)
        have hSf : s.heap.objs.size ∉ [(s.heap.push { cls := .type "set", dict := none, data := .set #[] 0 (.fresh 0 0 led) }).objs.size, l] := fun z => by
          rcases List.mem_cons.mp z with z | z
          · rw [sz] at z; exact absurd z (Nat.ne_of_lt (Nat.lt_succ_self _))
          · exact absurd (List.mem_singleton.mp z) (Nat.ne_of_gt lS)
        refine upd_loop knd ((Walks.list (show A.in1.in1.in1.handled = none by simp [hh]) _ l hneI items).toS) s.heap.objs.size hSf ks hn (fun i v hP => hv i v hP) (items.size - 0) 0 _ (by omega) (Nat.zero_le _) ⟨⟨_, Heap.get?_push_size _ rfl, rfl, rfl⟩, hl1.push _⟩ ?start ?stop
        case start =>
          exact PyProof.Rows.SetOf_congr ((PyProof.Rows.setObjOf_fresh (knd := knd) led).setOf (Heap.get?_push_of_some _ hS) (by unfold scanBound; omega)) (fun _ => rfl) rfl
        case stop =>
          rintro ⟨h', g', d', tk', os'⟩ hm hS'
          obtain rfl : g' = s.gens := hm.gens
          obtain rfl : d' = s.drawn := hm.drawn
          obtain rfl : os' = s.os := hm.os
          refine wpAny_pure (wpAny_pure ⟨rfl, h', tk', rfl, hS', fun b o hb e => hm.heap b o (fun z => ?_) (Heap.get?_push_of_some _ (Heap.get?_push_of_some _ e))⟩)
          rcases List.mem_cons.mp z with z | z
          · exact absurd z (Nat.ne_of_lt hb)
          · have := List.mem_singleton.mp z
            rw [this, sz] at hb
            exact absurd hb (Nat.not_lt.mpr (Nat.le_succ _))
      · cases r₂ with
        | error e => exact hr₂
        | ok fl₂ =>
          cases fl₂ with
          | ret r =>
            obtain ⟨rfl, h', tk, rfl, hS', hk'⟩ := hr₂
            repeat (any_goals (first | assumption | wp_step))
            exact h _ _ hS' hk'
          | _ => exact hr₂.elim
    | _ => exact hr.elim
/-- set(xs), xs a tuple -/
theorem set_of_tuple {A : Around} {E : Value → Shared → Prop} {s : Shared} {l : Addr} {items : Array Value} (ks : List K) {Q : Value → Shared → Prop} (hh : A.handled = none) (hl : s.heap.IsTuple l items) (hn : items.size + 1 < scanBound)
    (hv : ∀ (i : Nat) (v : Value), items[i]? = some v → ∃ k, ks[i]? = some k ∧ knd.is k v = true ∧ v.scannable = true)
    (h : ∀ (h' : Heap) (tk : Nat), h'.SetOf knd s.heap.objs.size (fun x => decide (x ∈ unlike (ks.take items.size))) (unlike (ks.take items.size)).length → (∀ b o, b < s.heap.objs.size → s.heap.get? b = some o → h'.get? b = some o) → Q (.ref s.heap.objs.size) { s with heap := h', toks := tk }) :
    wpAny (model prog w) A (call (.type "set") [.ref l]) Q E s := by
  obtain ⟨c, tl, hmro⟩ := PySem.F.called_set.mro
  have hmade := PySem.F.called_set.made
  have hsub := PySem.F.called_set.sub
  have h1 := PySem.F.called_set.notType
  have h2 := PySem.F.called_set.canCreate
  have hct := PySem.F.typeCall_set_1 (.ref l)
  refine wpAny_call (codeAny_of_tree ?_)
  show wpAny _ _ (callAny (.type "set") _) _ _ _
  refine wpAny_pure ⟨Code.quiet_builtin _ (by decide +kernel), codeAny_builtin PySem.F.entry_type_call ?_⟩
  rw [Around.under_plain (weight_type_call_type "set" [.ref l] []) rfl]
  repeat (any_goals (first | assumption | wp_step))
  refine codeAny_mono (code_set_new_1 (.ref l) (E := E) (Q₁ := fun ob s₁ => ∃ led : Bool, ob = .ref s.heap.objs.size ∧ s₁ = { s with heap := s.heap.push { cls := .type "set", dict := none, data := .set #[] 0 (.fresh 0 0 led) } }) fun led => ⟨led, rfl, rfl⟩) fun r s₁ hr => ?_
  cases r with
  | error e => exact hr
  | ok fl =>
    cases fl with
    | ret ob =>
      obtain ⟨led, rfl, rfl⟩ := hr
      have hS : (s.heap.push { cls := .type "set", dict := none, data := .set #[] 0 (.fresh 0 0 led) }).get? s.heap.objs.size = some { cls := .type "set", dict := none, data := .set #[] 0 (.fresh 0 0 led) } := Heap.get?_push_size _ rfl
      have hT : Shared.TypeIs { s with heap := s.heap.push { cls := .type "set", dict := none, data := .set #[] 0 (.fresh 0 0 led) } } (.ref s.heap.objs.size) "set" := ⟨_, hS, rfl⟩
      have hli := PySem.F.called_set.init.lookup
      have hbi := PySem.F.called_set.init.bind (.ref s.heap.objs.size)
      repeat (any_goals (first | assumption | wp_step))
      refine codeAny_mono (codeAny_call_builtin (R := wants (fun r s₂ => r = .none ∧ ∃ h' tk, s₂ = { s with heap := h', toks := tk } ∧ h'.SetOf knd s.heap.objs.size (fun x => decide (x ∈ unlike (ks.take items.size))) (unlike (ks.take items.size)).length ∧
          (∀ b o, b < s.heap.objs.size → s.heap.get? b = some o → h'.get? b = some o)) E) PySem.F.called_set.init.plain PySem.F.entry_set_init (check_set_init_1 hT ?_)) fun r₂ s₂ hr₂ => ?_
      · obtain ⟨⟨oc, od, odt, osl⟩, hol, hcl, nl, hdl⟩ := hl
        simp only at hcl hdl
        subst hcl; subst hdl
        have hol' : (s.heap.push { cls := .type "set", dict := none, data := .set #[] 0 (.fresh 0 0 led) }).get? l = some { cls := .type "tuple", dict := od, data := .seq items nl, slots := osl } := Heap.get?_push_of_some _ hol
        have hsls := PySem.F.sub_tuple_set
        have hslf := PySem.F.sub_tuple_frozenset
        have hne : (Value.type "tuple" == Value.type "dict") = false := by decide
        have hl1 : (s.heap.push { cls := .type "set", dict := none, data := .set #[] 0 (.fresh 0 0 led) }).IsTuple l items := ⟨_, hol', rfl, nl, rfl⟩
        unfold Builtin.«set.__init__» noKeywords Builtin.Frozenset.updateFrom
        generalize hPI : pyIter = PI
        wp_walk
        subst hPI
        refine wpAny_pyIter_tuple hl1 ?_
        refine wpAny_bind (wpAny_runValue ?_)
        have lS : l < s.heap.objs.size := Heap.lt_size hol
        have sz : (s.heap.push { cls := .type "set", dict := none, data := .set #[] 0 (.fresh 0 0 led) }).objs.size = s.heap.objs.size + 1 := Heap.size_push _ _
        have hneI : l ≠ (s.heap.push { cls := .type "set", dict := none, data := .set #[] 0 (.fresh 0 0 led) }).objs.size := by rw [sz]; exact Nat.ne_of_lt (Nat.lt_succ_of_lt lS)
        have hSf : s.heap.objs.size ∉ [(s.heap.push { cls := .type "set", dict := none, data := .set #[] 0 (.fresh 0 0 led) }).objs.size, l] := fun z => by
          rcases List.mem_cons.mp z with z | z
          · rw [sz] at z; exact absurd z (Nat.ne_of_lt (Nat.lt_succ_self _))
          · exact absurd (List.mem_singleton.mp z) (Nat.ne_of_gt lS)
        refine upd_loop knd ((Walks.tuple (show A.in1.in1.in1.handled = none by simp [hh]) _ l hneI items).toS) s.heap.objs.size hSf ks hn (fun i v hP => hv i v hP) (items.size - 0) 0 _ (by omega) (Nat.zero_le _) ⟨⟨_, Heap.get?_push_size _ rfl, rfl, rfl⟩, hl1.push _⟩ ?start ?stop
        case start =>
          exact PyProof.Rows.SetOf_congr ((PyProof.Rows.setObjOf_fresh (knd := knd) led).setOf (Heap.get?_push_of_some _ hS) (by unfold scanBound; omega)) (fun _ => rfl) rfl
        case stop =>
          rintro ⟨h', g', d', tk', os'⟩ hm hS'
          obtain rfl : g' = s.gens := hm.gens
          obtain rfl : d' = s.drawn := hm.drawn
          obtain rfl : os' = s.os := hm.os
          refine wpAny_pure (wpAny_pure ⟨rfl, h', tk', rfl, hS', fun b o hb e => hm.heap b o (fun z => ?_) (Heap.get?_push_of_some _ (Heap.get?_push_of_some _ e))⟩)
          rcases List.mem_cons.mp z with z | z
          · exact absurd z (Nat.ne_of_lt hb)
          · have := List.mem_singleton.mp z
            rw [this, sz] at hb
            exact absurd hb (Nat.not_lt.mpr (Nat.le_succ _))
      · cases r₂ with
        | error e => exact hr₂
        | ok fl₂ =>
          cases fl₂ with
          | ret r =>
            obtain ⟨rfl, h', tk, rfl, hS', hk'⟩ := hr₂
            repeat (any_goals (first | assumption | wp_step))
            exact h _ _ hS' hk'
          | _ => exact hr₂.elim
    | _ => exact hr.elim
end
/-! ### len(set(xs)) -/
def strsOf : List D → Option (List Str)
  | [] => some []
  | .str x :: r => (strsOf r).map (x :: ·)
  | _ :: _ => none
theorem strsOf_map (xs : List Str) : strsOf (xs.map D.str) = some xs := by
  induction xs with
  | nil => rfl
  | cons x xs ih => simp [strsOf, ih]
theorem strsOf_dp {g : G} {A : Ad} {B : Addr → Prop} {H : Hp} : ∀ {ds : List D} {vs : List V} {xs : List Str}, strsOf ds = some xs → DpL g A B H vs ds → vs = xs.map V.str
  | [], _, _, e, l => by cases e; cases l; rfl
  | d :: ds, _, xs, e, l => by
    cases l with
    | cons h1 h2 =>
      cases d with
      | str x =>
        simp only [strsOf] at e
        cases q : strsOf ds with
        | none => rw [q] at e; cases e
        | some ys =>
          rw [q] at e
          cases e
          cases h1
          simp [strsOf_dp q h2]
      | _ => simp [strsOf] at e
/-- len(set(xs)) of texts -/
def lenSetD : D → Option D
  | .tup ds => match strsOf ds with
    | some xs => if xs.length ≤ 1000 then some (.int (unlike xs).length) else none
    | none => none
  | .lst ds => match strsOf ds with
    | some xs => if xs.length ≤ 1000 then some (.int (unlike xs).length) else none
    | none => none
  | _ => none
def tLenSetS (K : PySem.W.Frag) (ta : TE) : TE := fun σ H Q => ta σ H fun x H1 => ∃ (l : Addr) (xs : List Str), x = .ref l ∧ (SqL K H1 l (xs.map V.str) ∨ SqT K H1 l (xs.map V.str)) ∧ xs.length ≤ 1000 ∧ Q (.int (unlike xs).length) H1
theorem strs_vals : ∀ {xs : List Str} {us : List Value}, Vals (xs.map V.str) us → ∀ (i : Nat) (v : Value), us[i]? = some v → ∃ k t, xs[i]? = some k ∧ v = .str k t
  | [], _, .nil, i, v, h => by simp at h
  | x :: xs, _, .cons r t, 0, v, h => by
    obtain ⟨tk, rfl⟩ := r
    simp at h
    exact ⟨x, tk, rfl, h.symm⟩
  | x :: xs, _, .cons r t, i + 1, v, h => by
    obtain ⟨k, tk, h1, h2⟩ := strs_vals t i v (by simpa using h)
    exact ⟨k, tk, by simpa using h1, h2⟩
theorem pe_lenSetS {X : Cx} {a : Expr} {ta : TE} {p p2 q pos : Pos} (hc : X.calm = true) (hg : Gl X "len") (hm : X.mg "len" = none) (hg2 : Gl X "set") (hm2 : X.mg "set" = none) (ha : PE X a ta)
    (na : starEach [a] X.env = (false, eval a X.env) :: starEach [] X.env := by rfl) : PE X (.Call (.Name "len" p) [.Call (.Name "set" p2) [a] [] q] [] pos) (tLenSetS X.K ta) := by
  refine ⟨fun pins s σ H Q I h => ?_⟩
  refine Call_ (ld_blt I hg hm boot_len (PyProof.Rows.callWith_builtin1 (PyProof.Rows.args_cons ?_ rfl) rfl rfl))
  refine Call_ (ld_blt I hg2 hm2 boot_set (PyProof.Rows.callWith_type1 (PyProof.Rows.args_cons (thn (ha.run pins s σ H _ I h) fun v s1 ⟨x, H1, I1, r1, q1⟩ => PyProof.Rows.args_nil ?_) na) na rfl))
  obtain ⟨l, xs, rfl, hq, hl, q1⟩ := q1
  cases (show v = Value.ref l from r1)
  have fin : ∀ (its : List Value), Vals (xs.map V.str) its → ∀ (h' : Heap) (tk : Nat), h'.SetOf (PySem.strKind X.prog X.w) s1.heap.objs.size (fun x => decide (x ∈ unlike (xs.take its.toArray.size))) (unlike (xs.take its.toArray.size)).length →
      (∀ b o, b < s1.heap.objs.size → s1.heap.get? b = some o → h'.get? b = some o) → wpAny (model X.prog X.w) X.A (evalAll []) (fun us s₂ => wpAny (model X.prog X.w) X.A (call (.builtin "len") (.ref s1.heap.objs.size :: us)) (EP X pins σ Q) X.xe s₂) X.xe { s1 with heap := h', toks := tk } := by
    intro its r h' tk hS hk
    have e : its.toArray.size = xs.length := by rw [List.size_toArray, ← r.length, List.length_map]
    rw [e, List.take_length] at hS
    obtain ⟨o, es, ep, t, ho, hex, hd, _, _, _, hf, hn⟩ := hS
    have I2 : Inv X pins σ H1 { s1 with heap := h', toks := tk } := I1.kept fun b o e => hk b o (Heap.lt_size e) e
    have hu := unlike_le xs
    exact wpAny_evalAll_nil (call_len_set ho hex hd hf (by rw [hn]; omega) ⟨.int (unlike xs).length, H1, I2.tok _, ⟨_, by rw [hn]⟩, q1⟩)
  have vl : ∀ (its : List Value), Vals (xs.map V.str) its → ∀ (i : Nat) (v : Value), its.toArray[i]? = some v → ∃ k, xs[i]? = some k ∧ (PySem.strKind X.prog X.w).is k v = true ∧ v.scannable = true := fun its r i v h => by
    obtain ⟨k, t, h1, rfl⟩ := strs_vals r i v (by simpa using h)
    exact ⟨k, h1, strKind_is _ _ _ _, rfl⟩
  rcases hq with hq | hq
  · obtain ⟨its, r, pl, hz⟩ := I1.list hq
    have e : its.toArray.size = xs.length := by rw [List.size_toArray, ← r.length, List.length_map]
    exact set_of_list (PySem.strKind X.prog X.w) xs (I1.ok.hd hc) pl.isList (by rw [e]; unfold scanBound; omega) (vl its r) (fin its r)
  · obtain ⟨its, r, pl, hz⟩ := I1.tuple hq
    have e : its.toArray.size = xs.length := by rw [List.size_toArray, ← r.length, List.length_map]
    exact set_of_tuple (PySem.strKind X.prog X.w) xs (I1.ok.hd hc) (show s1.heap.IsTuple l its.toArray from pl) (by rw [e]; unfold scanBound; omega) (vl its r) (fin its r)
theorem de_lenSet {X : Cx} {W : WX} {a : Expr} {fa : M D} {p p2 q pos : Pos} {g : G} (hK : X.K = g.K) (hc : X.calm = true) (hg : Gl X "len") (hm : X.mg "len" = none) (hg2 : Gl X "set") (hm2 : X.mg "set" = none) (ha : PE X a (tM g rW W fa))
    (na : starEach [a] X.env = (false, eval a X.env) :: starEach [] X.env := by rfl) : PE X (.Call (.Name "len" p) [.Call (.Name "set" p2) [a] [] q] [] pos) (tM g rD W (uo lenSetD fa)) :=
  (pe_lenSetS hc hg hm hg2 hm2 ha na).dl fun σ H Q h => by
    rw [hK]
    refine tM_op1 (r := fun x H1 Q => ∃ (l : Addr) (xs : List Str), x = .ref l ∧ (SqL g.K H1 l (xs.map V.str) ∨ SqT g.K H1 l (xs.map V.str)) ∧ xs.length ≤ 1000 ∧ Q (.int (unlike xs).length) H1) ?_ σ H Q h
    intro A B H ω x a c Q w ha e q
    cases a with
    | tup ds =>
      simp only [lenSetD] at e
      split at e
      · rename_i xs hx
        split at e
        · rename_i hl
          cases e
          obtain ⟨l, vs, rfl, hs, ll⟩ := Dp.seq ha
          rw [strsOf_dp hx ll] at hs
          exact ⟨l, xs, rfl, .inr hs, hl, q.now w (.int _)⟩
        · cases e
      · cases e
    | lst ds =>
      simp only [lenSetD] at e
      split at e
      · rename_i xs hx
        split at e
        · rename_i hl
          cases e
          obtain ⟨l, vs, rfl, hs, ll⟩ := ha
          rw [strsOf_dp hx ll] at hs
          exact ⟨l, xs, rfl, .inl (SqL.of hs), hl, q.now w (.int _)⟩
        · cases e
      · cases e
    | _ => cases e
theorem lenSet_strs {xs : List Str} (h : xs.length ≤ 1000) : lenSetD (.tup (xs.map D.str)) = some (.int (unlike xs).length) := by
  show (match strsOf (xs.map D.str) with | some xs => _ | none => _) = _
  rw [strsOf_map]
  exact if_pos h
end DL
/-! DL24: a slice as a new list. -/
namespace DL
open PySem L2
section
variable {X : Cx} {g : G} {W : WX} {e : Expr} {lo hi : Option Expr} {f : M D} {fl fh : M (Option Int)} {pos p2 : Pos}
def slL (x : D) (lo hi : Option Int) : M (List D) := fun _ ω => match view ω x with
  | some (.lst ds) => some (.val (cutD ds lo hi) ω)
  | _ => none
theorem ResN.up {A A1 : Ad} {B B1 : Addr → Prop} {H H1 : Hp} {σ : St} {Q : VK} {r : R (List D)} (res : ResN g W σ A B H Q r) (t1 : Stp A B H A1 B1 H1) : ResN g W σ A1 B1 H1 Q r := by
  cases r with
  | val ds ω' => exact fun p vs A' B' H' t w h1 h2 h3 h4 h5 => res p vs A' B' H' (t1.trans t) w h1 h2 h3 h4 (t1.none h5)
  | exc x ω' => exact fun cls dd A' B' H' t => res cls dd A' B' H' (t1.trans t)
theorem dn_slice (hK : X.K = g.K) (he : PE X e (tM g rW W f)) (hl : PO X lo (tM g rO W fl)) (hh : PO X hi (tM g rO W fh)) :
    PE X (.Subscript e (.Slice lo hi none p2) pos) (tN g W (f.bind fun x => fl.bind fun l => fh.bind fun h => slL x l h)) :=
  (pe_slice sl_list he hl hh).dl fun σ H Q ⟨H0, A, B, ρ, ω, r, fm, e, res⟩ => by
    refine tM_mono (tN_bind fm e res) fun x H1 ⟨A1, B1, ω1, d1, t1, fm1, r1, e1⟩ => ?_
    have res1 := res.up t1
    refine tM_mono (tN_bind fm1 e1 res1) fun l H2 ⟨A2, B2, ω2, l2, t2, fm2, r2, e2⟩ => ?_
    have res2 := res1.up t2
    refine tM_mono (tN_bind fm2 e2 res2) fun u H3 ⟨A3, B3, ω3, u3, t3, fm3, r3, e3⟩ => ?_
    have res3 := res2.up t3
    cases r2
    cases r3
    unfold slL at e3
    split at e3
    · rename_i ds q
      cases e3
      obtain ⟨p, vs, rfl, hp, ll⟩ := view_ok fm3.wo ((r1.up fm1.wo t2).up fm2.wo t3) q
      rw [hK]
      exact ⟨p, vs, rfl, SqL.of hp, res3.of (.refl _ _ _) fm3.wo (cut_dp ll l u)⟩
    · cases e3
theorem slL_to {ds : List D} {k : Nat} {fx fk : M D} {ρ : Rho} {ω : List Cell} (hx : fx ρ ω = some (.val (.lst ds) ω)) (hk : fk ρ ω = some (.val (.int k) ω)) : (fx.bind fun x => (M.pure none).bind fun l => (fk.bind asI).bind fun h => slL x l h) ρ ω = some (.val (ds.take k) ω) := by
  rw [bind_ev hx, bind_ev (a := none) (ω1 := ω) rfl, bind_ev (a := some (k : Int)) (ω1 := ω) (by rw [bind_ev hk]; rfl)]
  show some (R.val (cutD ds none (some (k : Int))) ω) = _
  unfold cutD
  rw [HT.sIx_nat, HT.sIx_none]
  simp [List.take_eq_take_iff, Nat.min_comm]
end
/-- a comprehension of two turns, the store going along -/
theorem lcM_two {vs : List Nat} {src : M (List D)} {T : TT1} {f : M D} {ρ ρ1 ρ2 : Rho} {ω ω1 ω2 ω3 : List Cell} {a b x y : D} (hs : src ρ ω = some (.val [a, b] ω1)) (h1 : T a (wipeE ρ vs) ω1 = some ρ1) (e1 : f ρ1 ω1 = some (.val x ω2)) (h2 : T b (wipeE ρ vs) ω2 = some ρ2) (e2 : f ρ2 ω2 = some (.val y ω3)) :
    lcM vs src T (M.pure true) f ρ ω = some (.val [x, y] ω3) := by
  unfold lcM
  rw [bind_ev hs]
  simp only [lcGo, h1, h2, e1, e2, M.pure]
  rw [if_pos (by rw [sizeLine_eq]; simp), if_pos (by rw [sizeLine_eq]; simp)]
  rfl
end DL
/-! DL25: max and min of a list of numbers. -/
namespace DL
open PySem L2
def intsOf : List D → Option (List Int)
  | [] => some []
  | .int b :: r => (intsOf r).map (b :: ·)
  | _ => none
section
variable {X : Cx} {g : G} {W : WX} {e : Expr} {fa : M D} {p pos : Pos}
theorem intsOf_dp {A : Ad} {B : Addr → Prop} {H : Hp} : ∀ {ds : List D} {vs : List V} {bs : List Int}, intsOf ds = some bs → DpL g A B H vs ds → vs = bs.map V.int
  | [], _, _, e, h => by cases h; cases e; rfl
  | d :: ds, _, bs, e, h => by
    cases h with
    | cons h1 h2 =>
      cases d with
      | int b =>
        cases h1
        simp only [intsOf] at e
        cases q : intsOf ds with
        | none => rw [q] at e; cases e
        | some bs' =>
          rw [q] at e
          cases e
          simp [intsOf_dp q h2]
      | _ => simp [intsOf] at e
theorem intsOf_map (bs : List Int) : intsOf (bs.map D.int) = some bs := by
  induction bs with
  | nil => rfl
  | cons b bs ih => simp [intsOf, ih]
def maxI : List Int → Option Int
  | [] => none
  | i :: r => some (r.foldl (fun a b => if b > a then b else a) i)
def minI : List Int → Option Int
  | [] => none
  | i :: r => some (r.foldl (fun a b => if b < a then b else a) i)
theorem fold_max : ∀ (r : List Int) (i : Int), (r.foldl (fun a b => if b > a then b else a) i ∈ i :: r) ∧ ∀ y ∈ i :: r, y ≤ r.foldl (fun a b => if b > a then b else a) i
  | [], i => ⟨by simp, by simp⟩
  | b :: r, i => by
    obtain ⟨h1, h2⟩ := fold_max r (if b > i then b else i)
    refine ⟨?_, fun y hy => ?_⟩
    · rcases List.mem_cons.mp h1 with h | h
      · show List.foldl _ (if b > i then b else i) r ∈ _
        rw [h]
        split <;> simp
      · exact List.mem_cons_of_mem _ (List.mem_cons_of_mem _ h)
    · show y ≤ List.foldl _ (if b > i then b else i) r
      have h3 := h2 _ List.mem_cons_self
      rcases List.mem_cons.mp hy with h | h
      · subst h; exact Int.le_trans (by split <;> omega) h3
      · rcases List.mem_cons.mp h with h | h
        · subst h; exact Int.le_trans (by split <;> omega) h3
        · exact h2 y (List.mem_cons_of_mem _ h)
theorem fold_min : ∀ (r : List Int) (i : Int), (r.foldl (fun a b => if b < a then b else a) i ∈ i :: r) ∧ ∀ y ∈ i :: r, r.foldl (fun a b => if b < a then b else a) i ≤ y
  | [], i => ⟨by simp, by simp⟩
  | b :: r, i => by
    obtain ⟨h1, h2⟩ := fold_min r (if b < i then b else i)
    refine ⟨?_, fun y hy => ?_⟩
    · rcases List.mem_cons.mp h1 with h | h
      · show List.foldl _ (if b < i then b else i) r ∈ _
        rw [h]
        split <;> simp
      · exact List.mem_cons_of_mem _ (List.mem_cons_of_mem _ h)
    · show List.foldl _ (if b < i then b else i) r ≤ y
      have h3 := h2 _ List.mem_cons_self
      rcases List.mem_cons.mp hy with h | h
      · subst h; exact Int.le_trans h3 (by split <;> omega)
      · rcases List.mem_cons.mp h with h | h
        · subst h; exact Int.le_trans h3 (by split <;> omega)
        · exact h2 y (List.mem_cons_of_mem _ h)
def maxLD : D → Option D
  | .lst ds => ((intsOf ds).bind maxI).map D.int
  | _ => none
def minLD : D → Option D
  | .lst ds => ((intsOf ds).bind minI).map D.int
  | _ => none
theorem v_maxL (g : G) : V1 g (fun x H Q => rMax g.K [x] H Q) maxLD := by
  intro A B H ω x a c Q w ha e q
  cases a with
  | lst ds =>
    obtain ⟨p, vs, rfl, hp, l⟩ := ha
    simp only [maxLD] at e
    cases k : intsOf ds with
    | none => rw [k] at e; cases e
    | some bs =>
      rw [k] at e
      have := intsOf_dp k l
      subst this
      cases bs with
      | nil => cases e
      | cons i r =>
        cases e
        refine ⟨p, i :: r, rfl, SqL.of hp, by simp, fun m h1 h2 => ?_⟩
        obtain ⟨h3, h4⟩ := fold_max r i
        have : m = r.foldl (fun a b => if b > a then b else a) i := Int.le_antisymm (h4 m h1) (h2 _ h3)
        rw [this]
        exact q.now w (.int _)
  | _ => cases e
theorem v_minL (g : G) : V1 g (fun x H Q => rMin g.K [x] H Q) minLD := by
  intro A B H ω x a c Q w ha e q
  cases a with
  | lst ds =>
    obtain ⟨p, vs, rfl, hp, l⟩ := ha
    simp only [minLD] at e
    cases k : intsOf ds with
    | none => rw [k] at e; cases e
    | some bs =>
      rw [k] at e
      have := intsOf_dp k l
      subst this
      cases bs with
      | nil => cases e
      | cons i r =>
        cases e
        refine ⟨p, i :: r, rfl, SqL.of hp, by simp, fun m h1 h2 => ?_⟩
        obtain ⟨h3, h4⟩ := fold_min r i
        have : m = r.foldl (fun a b => if b < a then b else a) i := Int.le_antisymm (h2 _ h3) (h4 m h1)
        rw [this]
        exact q.now w (.int _)
  | _ => cases e
theorem de_maxL (hK : X.K = g.K) (hc : X.calm = true) (hg : Gl X "max") (hm : X.mg "max" = none) (ha : PE X e (tM g rW W fa)) (he : starEach [e] X.env = (false, eval e X.env) :: starEach [] X.env := by rfl) : PE X (.Call (.Name "max" p) [e] [] pos) (tM g rD W (uo maxLD fa)) :=
  de_callB1 (cr_max hc) (by rw [hK]; exact v_maxL g) hg hm (by decide +kernel) ha (he := he)
theorem de_minL (hK : X.K = g.K) (hc : X.calm = true) (hg : Gl X "min") (hm : X.mg "min" = none) (ha : PE X e (tM g rW W fa)) (he : starEach [e] X.env = (false, eval e X.env) :: starEach [] X.env := by rfl) : PE X (.Call (.Name "min" p) [e] [] pos) (tM g rD W (uo minLD fa)) :=
  de_callB1 (cr_min hc) (by rw [hK]; exact v_minL g) hg hm (by decide +kernel) ha (he := he)
end
end DL
/-! DL26: steps of readings in the form that a stepper applies. -/
namespace DL
open PySem L2
section
variable {F K A B : MS} {ρ ρ' ρ1 : Rho} {ω ω' ω1 ω2 : List Cell} {r : Option RS} {f fa fb : M D} {fs : M (List D)} {d : D} {ds es xs : List D} {i : Nat} {t u : M Bool} {b c : Bool}
theorem z_nx (h : F ρ ω = some (.nx ρ' ω')) (k : K ρ' ω' = r) : seqS F K ρ ω = r := (seqS_nx h).trans k
theorem z_asc (k : seqS F (seqS A K) ρ ω = r) : seqS (seqS F A) K ρ ω = r := by
  rw [← k]
  unfold seqS
  cases F ρ ω with
  | none => rfl
  | some x => cases x <;> rfl
theorem z_skp (k : K ρ ω = r) : seqS (fun ρ ω => some (.nx ρ ω)) K ρ ω = r := k
theorem z_set (h : f ρ ω = some (.val d ω')) (s : ρ.set i (.fz d) = ρ') (k : K ρ' ω' = r) : seqS (setS i f) K ρ ω = r := (seqS_nx (setS_ev h)).trans (s ▸ k)
theorem e_set (h : f ρ ω = some (.val d ω')) (s : ρ.set i (.fz d) = ρ') : setS i f ρ ω = some (.nx ρ' ω') := s ▸ setS_ev h
theorem z_setO (h : fs ρ ω = some (.val ds ω')) (s : ρ.set i (.ow ds) = ρ') (k : K ρ' ω' = r) : seqS (setO i fs) K ρ ω = r := (seqS_nx (setO_ev h)).trans (s ▸ k)
theorem e_setO (h : fs ρ ω = some (.val ds ω')) (s : ρ.set i (.ow ds) = ρ') : setO i fs ρ ω = some (.nx ρ' ω') := s ▸ setO_ev h
theorem z_app (hi : ρ[i]? = some (.ow es)) (h : f ρ ω = some (.val d ω')) (hz : es.length ≤ 1000000) (s : ρ.set i (.ow (es ++ [d])) = ρ') (k : K ρ' ω' = r) : seqS (appS i f) K ρ ω = r := (seqS_nx (appS_ev hi h (by rw [sizeLine_eq]; omega))).trans (s ▸ k)
theorem e_app (hi : ρ[i]? = some (.ow es)) (h : f ρ ω = some (.val d ω')) (hz : es.length ≤ 1000000) (s : ρ.set i (.ow (es ++ [d])) = ρ') : appS i f ρ ω = some (.nx ρ' ω') := s ▸ appS_ev hi h (by rw [sizeLine_eq]; omega)
theorem z_ext (hi : ρ[i]? = some (.ow es)) (h : f ρ ω = some (.val d ω')) (hv : view ω' d = some (.lst xs)) (hz : es.length + xs.length ≤ 1000) (s : ρ.set i (.ow (es ++ xs)) = ρ') (k : K ρ' ω' = r) : seqS (extS i f) K ρ ω = r := (seqS_nx (extS_ev hi h hv (by rw [sizeLine_eq]; omega))).trans (s ▸ k)
theorem e_ext (hi : ρ[i]? = some (.ow es)) (h : f ρ ω = some (.val d ω')) (hv : view ω' d = some (.lst xs)) (hz : es.length + xs.length ≤ 1000) (s : ρ.set i (.ow (es ++ xs)) = ρ') : extS i f ρ ω = some (.nx ρ' ω') := s ▸ extS_ev hi h hv (by rw [sizeLine_eq]; omega)
theorem z_asg {T : TT1} (h : f ρ ω = some (.val d ω')) (s : T d ρ ω' = some ρ') (k : K ρ' ω' = r) : seqS (asgS f T) K ρ ω = r := (seqS_nx (asgS_ev h s)).trans k
theorem z_exp (h : f ρ ω = some (.val d ω')) (k : K ρ ω' = r) : seqS (exprS f) K ρ ω = r := (seqS_nx (exprS_ev h)).trans k
theorem z_ret (h : f ρ ω = some (.val d ω')) (k : some (.rt d ω') = r) : seqS (retS f) K ρ ω = r := (seqS_rt (retS_ev h)).trans k
theorem z_retR (h : f ρ ω = some (.val d ω')) (k : some (.rt d ω') = r) : retS f ρ ω = r := (retS_ev h).trans k
theorem z_rai {cl fl : Str} (h : f ρ ω = some (.val d ω')) (k : some (.exc ⟨cl, [(fl, d)]⟩ ρ ω') = r) : seqS (raiS cl fl f) K ρ ω = r := (seqS_ex (raiS_ev h)).trans k
theorem z_raiR {cl fl : Str} (h : f ρ ω = some (.val d ω')) (k : some (.exc ⟨cl, [(fl, d)]⟩ ρ ω') = r) : raiS cl fl f ρ ω = r := (raiS_ev h).trans k
theorem z_if (h : t ρ ω = some (.val b ω')) (k : seqS (cond b A B) K ρ ω' = r) : seqS (ifS t A B) K ρ ω = r := by
  rw [← k]
  cases b with
  | true => unfold seqS; rw [ifS_t h]; rfl
  | false => unfold seqS; rw [ifS_f h]; rfl
theorem z_ifR (h : t ρ ω = some (.val b ω')) (k : (cond b A B) ρ ω' = r) : ifS t A B ρ ω = r := by
  rw [← k]
  cases b with
  | true => rw [ifS_t h]; rfl
  | false => rw [ifS_f h]; rfl
theorem z_ct (hb : b = true) (k : seqS A K ρ ω = r) : seqS (cond b A B) K ρ ω = r := by rw [hb]; exact k
theorem z_cf (hb : b = false) (k : seqS B K ρ ω = r) : seqS (cond b A B) K ρ ω = r := by rw [hb]; exact k
theorem z_ctR (hb : b = true) (k : A ρ ω = r) : (cond b A B) ρ ω = r := by rw [hb]; exact k
theorem z_cfR (hb : b = false) (k : B ρ ω = r) : (cond b A B) ρ ω = r := by rw [hb]; exact k
theorem z_for {src : M (List D)} {T : TT1} {items : List D} (h1 : src ρ ω = some (.val items ω1)) (h2 : forGo T F items ρ ω1 = some (.nx ρ' ω')) (k : K ρ' ω' = r) : seqS (forS src T F) K ρ ω = r := (seqS_nx (forS_nx h1 h2)).trans k
theorem e_for {src : M (List D)} {T : TT1} {items : List D} (h1 : src ρ ω = some (.val items ω1)) (h2 : forGo T F items ρ ω1 = some (.nx ρ' ω')) : forS src T F ρ ω = some (.nx ρ' ω') := forS_nx h1 h2
theorem z_forE {src : M (List D)} {T : TT1} {items : List D} {s : RS} (h1 : src ρ ω = some (.val items ω1)) (h2 : forGo T F items ρ ω1 = some s) (k : seqS (fun _ _ => unbk (some s)) K ρ ω = r) : seqS (forS src T F) K ρ ω = r := by
  rw [← k]
  unfold seqS forS
  rw [bindS_ev h1, h2]
/-- bind with what comes behind -/
theorem y_bind {α β : Type} {f : M α} {k : α → M β} {a : α} {r : Option (R β)} (h : f ρ ω = some (.val a ω1)) (h2 : k a ρ ω1 = r) : (f.bind k) ρ ω = r := (bind_ev h).trans h2
theorem y_andF (h : t ρ ω = some (.val b ω1)) (hb : b = false) : DL.andM t u ρ ω = some (.val false ω1) := andM_f (hb ▸ h)
theorem y_andT (h : t ρ ω = some (.val b ω1)) (hb : b = true) (h2 : u ρ ω1 = some (.val c ω2)) : DL.andM t u ρ ω = some (.val c ω2) := andM_t (hb ▸ h) h2
theorem y_orT (h : t ρ ω = some (.val b ω1)) (hb : b = true) : DL.orM t u ρ ω = some (.val true ω1) := orM_t (hb ▸ h)
theorem y_orF (h : t ρ ω = some (.val b ω1)) (hb : b = false) (h2 : u ρ ω1 = some (.val c ω2)) : DL.orM t u ρ ω = some (.val c ω2) := orM_f (hb ▸ h) h2
theorem y_andVF (h : fa ρ ω = some (.val (.bl b) ω1)) (hb : b = false) : andV fa fb ρ ω = some (.val (.bl false) ω1) := andV_f (hb ▸ h)
theorem y_andVT (h : fa ρ ω = some (.val (.bl b) ω1)) (hb : b = true) (h2 : fb ρ ω1 = some (.val d ω2)) : andV fa fb ρ ω = some (.val d ω2) := (andV_t (hb ▸ h)).trans h2
theorem y_orVT (h : fa ρ ω = some (.val (.bl b) ω1)) (hb : b = true) : orV fa fb ρ ω = some (.val (.bl true) ω1) := orV_t (hb ▸ h)
theorem y_orVF (h : fa ρ ω = some (.val (.bl b) ω1)) (hb : b = false) (h2 : fb ρ ω1 = some (.val d ω2)) : orV fa fb ρ ω = some (.val d ω2) := (orV_f (hb ▸ h)).trans h2
theorem y_ifT {α : Type} {x y : M α} {r : Option (R α)} (h : t ρ ω = some (.val b ω1)) (hb : b = true) (k : x ρ ω1 = r) : DL.ifM t x y ρ ω = r := by
  subst hb; unfold DL.ifM; rw [bind_ev h]; exact k
theorem y_ifF {α : Type} {x y : M α} {r : Option (R α)} (h : t ρ ω = some (.val b ω1)) (hb : b = false) (k : y ρ ω1 = r) : DL.ifM t x y ρ ω = r := by
  subst hb; unfold DL.ifM; rw [bind_ev h]; exact k
theorem y_fz (h : ρ[i]? = some (.fz d)) : vW i ρ ω = some (.val d ω) := by unfold vW; rw [h]
theorem y_ow (h : ρ[i]? = some (.ow ds)) : vW i ρ ω = some (.val (.lst ds) ω) := by unfold vW; rw [h]
theorem y_fF (h : ρ[i]? = some (.fz d)) : vF i ρ ω = some (.val d ω) := by unfold vF; rw [h]
theorem y_lenOk (h : ds.length ≤ 1000) : lenOk ds ρ ω = some (.val ds ω) := lenOk_ev h
theorem y_mkTup (h : ds.length ≤ 1000) : mkTup ds ρ ω = some (.val (.tup ds) ω) := mkTup_ev h
theorem y_mkLst (h : ds.length ≤ 1000) : mkLst ds ρ ω = some (.val (.lst ds) ω) := by unfold mkLst; rw [if_pos (by rw [sizeLine_eq]; omega)]
end
/-! ### operators -/
theorem ltD_d (i j : Int) : ltD (.int i) (.int j) = some (.bl (decide (i < j))) := rfl
theorem leD_d (i j : Int) : leD (.int i) (.int j) = some (.bl (decide (i ≤ j))) := rfl
theorem gtD_d (i j : Int) : gtD (.int i) (.int j) = some (.bl (decide (j < i))) := rfl
theorem geD_d (i j : Int) : geD (.int i) (.int j) = some (.bl (decide (j ≤ i))) := rfl
theorem addD_int (i j : Int) : addD (.int i) (.int j) = some (.int (i + j)) := rfl
theorem intD_int (i : Int) : intD (.int i) = some (.int i) := rfl
theorem intD_bl (b : Bool) : intD (.bl b) = some (.int (if b then 1 else 0)) := by cases b <;> rfl
theorem fldD_ev {cs : List Str} {c f : Str} {fl : List (Str × D)} {d : D} (hc : cs.contains c = true) (hl : fl.lookup f = some d) : fldD cs f (.obj c fl) = some d := by show (if _ then _ else _) = _; rw [if_pos hc, hl]
theorem ixD_ints {xs : List Int} {k : Int} (h0 : 0 ≤ k) (h : k < xs.length) : ixD (.lst (xs.map D.int)) (.int k) = some (.int (xs.getD k.toNat 0)) := by
  have h' : k.toNat < xs.length := by omega
  exact ixD_lstI h0 (by simp [h'])
theorem lenD_lst {ds : List D} : lenD (.lst ds) = some (.int ds.length) := rfl
theorem lenD_tup {ds : List D} : lenD (.tup ds) = some (.int ds.length) := rfl
theorem addD_tup {xs ys : List D} (h : xs.length + ys.length ≤ 1000) : addD (.tup xs) (.tup ys) = some (.tup (xs ++ ys)) := if_pos (by rw [sizeLine_eq]; omega)

/-! ### unpacking a list -/
def lstT (k : Nat) (T : TTs) : TT1 := fun d ρ ω => match view ω d with
  | some (.lst ds) => if ds.length = k then T ds ρ ω else none
  | _ => none
section
variable {X : Cx} {g : G} {e : Expr} {es : List Expr} {T : TT1} {Ts : TTs} {is js : List Nat} {pos : Pos}
theorem dg_unl {k n : Nat} (hK : X.K = g.K) (hc : X.calm = true) (h : PGs X es (tGs g is Ts)) (hn : (assignEach es X.env).length = n := by rfl) (hst : (assignEach es X.env).findIdx? (·.1) = none := by rfl) : PG X (.Tuple es k pos) (tGM g is (lstT n Ts)) :=
  (pg_unl hc h hn hst).dl fun v σ H Q ⟨H0, A, B, ρ, ω, d, ρ', fm, hd, e, q⟩ => by
    unfold lstT at e
    cases q1 : view ω d with
    | none => simp only [q1] at e; cases e
    | some d' =>
      cases d' with
      | lst ds =>
        simp only [q1] at e
        split at e
        · rename_i hl
          obtain ⟨a, vs, rfl, hs, l⟩ := Vw.of hd fm.wo q1
          exact ⟨a, vs, rfl, by rw [hK]; exact SqL.of hs, by rw [l.length]; exact hl, H0, A, B, ρ, ω, ds, ρ', fm, l, e, q⟩
        · cases e
      | _ => simp only [q1] at e; cases e
end
end DL
/-! DL27: == of tuples and lists that hold things of an own class, both answers. -/
namespace GQB
open PySem PySem.SeqAt
open AutoSeq1 (wpAny_loadPart')
open MeetsSeq MeetsSeq2 MeetsSeq3 SeqRoads2 GQ
section
variable {prog : Program} {w : World} {A : Around} {R : Result → Shared → Prop}
theorem tuple_eqB (l b : Addr) (items items2 : Array Value) (n n2 : Nat) (dd dd2 : Option Addr) (sl sl2 : Array (Option Value)) (I : Nat → Shared → Prop)
    (turn : ∀ i (h1 : i < items.size) (h2 : i < items2.size) s, I i s → wpAny (model prog w) A.in1 (eqBool items[i] items2[i]) (fun r s' => (r = true ∧ I (i + 1) s') ∨ (r = false ∧ R (.ok (.ret (.bool false))) s')) (fun e s' => R (.error e) s') s)
    (fin : ∀ s i, i = min items.size items2.size → I i s → R (.ok (.ret (.bool (items.size == items2.size)))) s) {s : Shared} (hl1 : s.heap.get? l = some { cls := .type "tuple", dict := dd, data := .seq items n, slots := sl }) (hb1 : s.heap.get? b = some { cls := .type "tuple", dict := dd2, data := .seq items2 n2, slots := sl2 }) (h : I 0 s) :
    wpAny (model prog w) A.in1 (Builtin.«tuple.__eq__» ⟨[.ref l, .ref b], []⟩) (FinOf prog w A R) (fun e s' => R (.error e) s') s := by
  have f2 := AutoSeq1.sub_tuple_tuple
  have hZ : (items.toList.zip items2.toList).length = min items.size items2.size := by simp
  have h0 := h
  obtain ⟨hp, g, d, tk, os⟩ := s
  wp_walk using wpAny_loadPart' hl1, wpAny_loadPart' hb1, wpAny_forIn_list _ (fun rest b s' => b.1 = none ∧ ∃ i, rest = (items.toList.zip items2.toList).drop i ∧ i ≤ min items.size items2.size ∧ I i s') _
  case turn =>
    rintro ⟨y, x⟩ rest b s' ⟨hb', i, hz, hi, hI⟩
    have hlt : i < (items.toList.zip items2.toList).length := by
      rcases Nat.lt_or_ge i (items.toList.zip items2.toList).length with h' | h'
      · exact h'
      · rw [List.drop_of_length_le h'] at hz; cases hz
    have hm : i < min items.size items2.size := hZ ▸ hlt
    have h1 : i < items.size := Nat.lt_of_lt_of_le hm (Nat.min_le_left _ _)
    have h2 : i < items2.size := Nat.lt_of_lt_of_le hm (Nat.min_le_right _ _)
    rw [List.drop_eq_getElem_cons hlt] at hz
    injection hz with hyx hrest
    have hy : y = items[i] := by have := congrArg Prod.fst hyx; simpa using this
    have hx : x = items2[i] := by have := congrArg Prod.snd hyx; simpa using this
    subst hy hx
    refine wpAny_bind (wpAny_mono (turn i h1 h2 s' hI) (fun r s2 q2 => ?_) fun _ _ x => x)
    rcases q2 with ⟨hr, q2⟩ | ⟨hr, q2⟩
    · subst hr
      wp_walk
      exact ⟨rfl, i + 1, hrest, hm, q2⟩
    · subst hr
      wp_walk
      first | exact q2 | exact ⟨_, rfl, q2⟩ | simpa using q2
  case fin =>
    rintro ⟨b1, b2⟩ s' ⟨hb', i, hz, hi, hI⟩
    simp only at hb'
    subst hb'
    have hge : min items.size items2.size ≤ i := by
      rcases Nat.lt_or_ge i (items.toList.zip items2.toList).length with h' | h'
      · rw [List.drop_eq_getElem_cons h'] at hz; cases hz
      · exact hZ ▸ h'
    have hR : R (.ok (.ret (.bool (items.size == items2.size)))) s' := fin s' i (by omega) hI
    wp_walk
    simpa [Builtin.Tuple.tupleCompareSizes] using hR
  case h =>
    exact ⟨rfl, 0, rfl, Nat.zero_le _, h0⟩
/-- at each turn the two lists are read anew -/
def ListB (prog : Program) (w : World) (A : Around) (R : Result → Shared → Prop) (l b : Addr) (N : Nat) (I : Nat → Shared → Prop) : Prop :=
  ∀ i s, I i s → ∃ (items items2 : Array Value) (n n2 : Nat), s.heap.get? l = some { cls := .type "list", data := .seq items n } ∧ s.heap.get? b = some { cls := .type "list", data := .seq items2 n2 } ∧ items.size = N ∧ items2.size = N ∧
    ∀ (h1 : i < items.size) (h2 : i < items2.size), wpAny (model prog w) A.in1 (eqBool items[i] items2[i]) (fun r s' => (r = true ∧ I (i + 1) s') ∨ (r = false ∧ R (.ok (.ret (.bool false))) s' ∧ ∃ (its its2 : Array Value) (m m2 : Nat), s'.heap.get? l = some { cls := .type "list", data := .seq its m } ∧ s'.heap.get? b = some { cls := .type "list", data := .seq its2 m2 } ∧ its.size = N ∧ its2.size = N)) (fun e s' => R (.error e) s') s
theorem eq_loopB (l b : Addr) (N : Nat) (I : Nat → Shared → Prop) (hl : ListB prog w A R l b N I)
    (fin : ∀ s, I N s → R (.ok (.ret (.bool true))) s) (k : Nat) :
    ∀ i : Nat, N - i = k → i ≤ N → ∀ s, I i s →
      wpAny (model prog w) A.in1 (Builtin.«list.__eq__.loop» ⟨[.ref l, .ref b, rawInt i, rawInt 2], []⟩) (FinOf prog w A R) (fun e s' => R (.error e) s') s := by
  induction k with
  | zero =>
    intro i hk hi s h
    obtain ⟨items, items2, n, n2, hl1, hb1, hs1, hs2, _⟩ := hl _ _ h
    have hi' : i = N := by omega
    have hR : R (.ok (.ret (.bool true))) s := fin s (hi' ▸ h)
    obtain ⟨hp, g, d, tk, os⟩ := s
    wp_walk using wpAny_loadPart' hl1, wpAny_loadPart' hb1
    have hi1 : items[((i : Nat) : Int).toNat]? = none := by simp; omega
    have hi2 : items2[((i : Nat) : Int).toNat]? = none := by simp; omega
    rw [hi1, hi2]
    wp_walk using wpAny_loadPart' hl1, wpAny_loadPart' hb1
    show R (.ok (.ret (.bool (items.size == items2.size)))) _
    rw [hs1, hs2]
    simpa using hR
  | succ k ih =>
    intro i hk hi s h
    obtain ⟨items, items2, n, n2, hl1, hb1, hs1, hs2, turn⟩ := hl _ _ h
    have hlt : i < items.size := by omega
    have hlt2 : i < items2.size := by omega
    have ht := turn hlt hlt2
    obtain ⟨hp, g, d, tk, os⟩ := s
    wp_walk using wpAny_loadPart' hl1, wpAny_loadPart' hb1
    have hi1 : items[((i : Nat) : Int).toNat]? = some items[i] := by simp [hlt]
    have hi2 : items2[((i : Nat) : Int).toNat]? = some items2[i] := by simp [hlt2]
    have hc : ((i : Int) + 1) = ((i + 1 : Nat) : Int) := by omega
    rw [hi1, hi2]
    refine wpAny_bind (wpAny_mono ht (fun r s2 h2 => ?_) fun _ _ x => x)
    rcases h2 with ⟨hr, h2⟩ | ⟨hr, h2, its, its2, m, m2, gl, gb, z1, z2⟩
    · subst hr
      have hrec := ih (i + 1) (by omega) (by omega) s2 h2
      obtain ⟨hp2, g2, d2, tk2, os2⟩ := s2
      wp_walk
      rw [hc]
      exact ⟨plainId_quiet plain_eq_loop _, codeAny_builtin entry_eq_loop (by
        rw [Around.under_plainId plain_eq_loop _]
        exact hrec)⟩
    · subst hr
      obtain ⟨hp2, g2, d2, tk2, os2⟩ := s2
      have hq1 : its[((i : Nat) : Int).toNat]? = some (its[i]'(by omega)) := by simp
      have hq2 : its2[((i : Nat) : Int).toNat]? = some (its2[i]'(by omega)) := by simp
      wp_walk using wpAny_loadPart' gl, wpAny_loadPart' gb
      rw [hq1, hq2]
      wp_walk
      first | exact h2 | exact ⟨_, rfl, h2⟩ | simpa using h2
theorem list_eqB (l b : Addr) (N : Nat) (I : Nat → Shared → Prop) (hl : ListB prog w A R l b N I)
    (fin : ∀ s, I N s → R (.ok (.ret (.bool true))) s) {s : Shared} (h : I 0 s) :
    wpAny (model prog w) A.in1 (Builtin.«list.__eq__» ⟨[.ref l, .ref b], []⟩) (FinOf prog w A R) (fun e s' => R (.error e) s') s := by
  obtain ⟨items, items2, n, n2, hl1, hb1, hs1, hs2, _⟩ := hl _ _ h
  have hrec := eq_loopB (A := A) (R := R) l b N I hl fin _ 0 rfl (Nat.zero_le _) s h
  obtain ⟨hp, g, d, tk, os⟩ := s
  have f3 := AutoSeq1.sub_list_list
  have hne : ¬ (items.size != items2.size) = true := by simp [hs1, hs2]
  wp_walk using wpAny_loadPart' hl1, wpAny_loadPart' hb1
  exact ⟨plainId_quiet plain_eq_loop _, codeAny_builtin entry_eq_loop (by
    rw [Around.under_plainId plain_eq_loop _]
    exact hrec)⟩
theorem list_neB (l b : Addr) {items items2 : Array Value} {n n2 : Nat} {s : Shared} (hl1 : s.heap.get? l = some { cls := .type "list", data := .seq items n }) (hb1 : s.heap.get? b = some { cls := .type "list", data := .seq items2 n2 }) (hs : items.size ≠ items2.size)
    (h : R (.ok (.ret (.bool false))) s) : wpAny (model prog w) A.in1 (Builtin.«list.__eq__» ⟨[.ref l, .ref b], []⟩) (FinOf prog w A R) (fun e s' => R (.error e) s') s := by
  obtain ⟨hp, g, d, tk, os⟩ := s
  have f3 := AutoSeq1.sub_list_list
  have hne : (items.size != items2.size) = true := by simp [hs]
  wp_walk using wpAny_loadPart' hl1, wpAny_loadPart' hb1
  first | exact h | exact ⟨_, rfl, h⟩ | simpa using h
end
end GQB
namespace DL
open PySem L2
mutual
/-- made of flat things, tuples, lists and things of these classes -/
def shp (cs : List Str) : D → Bool
  | .non => true
  | .bl _ => true
  | .int _ => true
  | .str _ => true
  | .tup xs => shpL cs xs
  | .lst xs => shpL cs xs
  | .obj c fs => decide (c ∈ cs) && shpF cs fs
  | .dic _ => false
  | .oid _ => false
  | .scr _ => false
def shpL (cs : List Str) : List D → Bool
  | [] => true
  | d :: ds => shp cs d && shpL cs ds
def shpF (cs : List Str) : List (Str × D) → Bool
  | [] => true
  | (_, d) :: ds => shp cs d && shpF cs ds
end
mutual
/-- how deep tuples and lists lie around things -/
def ht : D → Nat
  | .tup xs => htL xs + 1
  | .lst xs => htL xs + 1
  | .non => 0
  | .bl _ => 0
  | .int _ => 0
  | .str _ => 0
  | .dic _ => 0
  | .obj _ _ => 0
  | .oid _ => 0
  | .scr _ => 0
def htL : List D → Nat
  | [] => 0
  | d :: ds => max (ht d) (htL ds)
end
theorem shpL_mem {cs : List Str} : ∀ {ds : List D}, shpL cs ds = true → ∀ d ∈ ds, shp cs d = true
  | [], _, d, h => by cases h
  | e :: ds, z, d, h => by
    simp only [shpL, Bool.and_eq_true] at z
    rcases List.mem_cons.mp h with rfl | h
    · exact z.1
    · exact shpL_mem z.2 d h
theorem htL_mem : ∀ {ds : List D}, ∀ d ∈ ds, ht d ≤ htL ds
  | [], d, h => by cases h
  | e :: ds, d, h => by
    simp only [htL]
    rcases List.mem_cons.mp h with rfl | h
    · omega
    · have := htL_mem d h
      omega
section
open Classical
mutual
/-- x == y: T tells the __eq__ of the classes -/
noncomputable def eqv (T : List (Str × Fn)) (ω : List Cell) : D → D → Option Bool
  | .tup xs, .tup ys => eqvL T ω xs ys
  | .lst xs, .lst ys => if xs.length = ys.length then eqvL T ω xs ys else some false
  | .obj c fs, .obj c' gs => if c = c' then (match T.lookup c with
      | some Gf => (match Gf [.obj c fs, .obj c' gs] ω with
        | some (.val (.bl b) ω') => if ω' = ω ∧ (fs = gs → b = true) then some b else none
        | _ => none)
      | none => none) else none
  | x, y => if (flat x && flat y) = true then some (eqb x y) else none
noncomputable def eqvL (T : List (Str × Fn)) (ω : List Cell) : List D → List D → Option Bool
  | [], [] => some true
  | [], _ :: _ => some false
  | _ :: _, [] => some false
  | x :: xs, y :: ys => match eqv T ω x y with
    | some true => eqvL T ω xs ys
    | r => r
end
end
mutual
theorem eqv_self {T : List (Str × Fn)} {ω : List Cell} : ∀ (d : D) (b : Bool), eqv T ω d d = some b → b = true
  | .tup xs, b, h => by
    simp only [eqv] at h
    exact eqvL_self xs b h
  | .lst xs, b, h => by
    simp only [eqv, if_true] at h
    exact eqvL_self xs b h
  | .obj c fs, b, h => by
    simp only [eqv, if_true] at h
    split at h
    · split at h
      · split at h
        · rename_i q
          cases h
          exact q.2 rfl
        · cases h
      · cases h
    · cases h
  | .non, b, h => by simp [eqv, flat, eqb] at h; exact h
  | .bl _, b, h => by simp [eqv, flat, eqb] at h; exact h
  | .int _, b, h => by simp [eqv, flat, eqb] at h; exact h
  | .str _, b, h => by simp [eqv, flat, eqb] at h; exact h
  | .dic _, b, h => by simp [eqv, flat] at h
  | .oid _, b, h => by simp [eqv, flat] at h
  | .scr _, b, h => by simp [eqv, flat] at h
theorem eqvL_self {T : List (Str × Fn)} {ω : List Cell} : ∀ (ds : List D) (b : Bool), eqvL T ω ds ds = some b → b = true
  | [], b, h => by simp only [eqvL] at h; cases h; rfl
  | d :: ds, b, h => by
    simp only [eqvL] at h
    cases q : eqv T ω d d with
    | none => rw [q] at h; cases h
    | some z =>
      have := eqv_self d z q
      subst this
      rw [q] at h
      exact eqvL_self ds b h
end
section
variable {X : Cx} {pins : List (Addr × Obj)} {σ : St} {H : Hp} {s : Shared} {A : Ad} {B : Addr → Prop} {cs : List Str}
theorem kt_free (I : Inv X pins σ H s) {a : Addr} {vs : List V} (h : KT X.K a vs) : H a = none := by
  obtain ⟨o, its, n, hk, _⟩ := h
  exact (I.bs a o (I.ok.mod.kin a o hk)).2
theorem kt_inj (I : Inv X pins σ H s) {a : Addr} {vs vs' : List V} (h : KT X.K a vs) (h' : KT X.K a vs') : vs = vs' := I.tuple_inj (.inr h) (.inr h')
def InjC (mg : Str → Option Value) (cs : List Str) : Prop := ∀ c ∈ cs, ∀ c' ∈ cs, ∀ C, mg c = some (.ref C) → mg c' = some (.ref C) → c = c'
mutual
theorem Dp.inj (I : Inv X pins σ H s) (hi : InjC X.mg cs) : ∀ (d d' : D) (v : V), shp cs d = true → shp cs d' = true → Dp ⟨X.K, X.mg⟩ A B H v d → Dp ⟨X.K, X.mg⟩ A B H v d' → d = d'
  | .non, d', v, z, z', h, h' => by cases h; cases h' <;> first | rfl | cases z'
  | .bl b, d', v, z, z', h, h' => by cases h; cases h' <;> first | rfl | cases z'
  | .int i, d', v, z, z', h, h' => by cases h; cases h' <;> first | rfl | cases z'
  | .str x, d', v, z, z', h, h' => by cases h; cases h' <;> first | rfl | cases z'
  | .tup ds, d', v, z, z', h, h' => by
    cases h with
    | tup n r l =>
      cases h' with
      | tup n' r' l' =>
        rw [r] at r'; cases r'
        rw [DpL.injL I hi ds _ _ z z' l l']
      | tupK k l' => rw [kt_free I k] at r; cases r
      | lst n' r' l' => rw [r] at r'; cases r'
      | obj n' r' q l' => rw [r] at r'; cases r'
      | _ => cases z'
    | tupK k l =>
      cases h' with
      | tup n' r' l' => rw [kt_free I k] at r'; cases r'
      | tupK k' l' =>
        have := kt_inj I k k'
        subst this
        rw [DpL.injL I hi ds _ _ z z' l l']
      | lst n' r' l' => rw [kt_free I k] at r'; cases r'
      | obj n' r' q l' => rw [kt_free I k] at r'; cases r'
      | _ => cases z'
  | .lst ds, d', v, z, z', h, h' => by
    cases h with
    | lst n r l =>
      cases h' with
      | tup n' r' l' => rw [r] at r'; cases r'
      | tupK k l' => rw [kt_free I k] at r; cases r
      | lst n' r' l' =>
        rw [r] at r'; cases r'
        rw [DpL.injL I hi ds _ _ z z' l l']
      | obj n' r' q l' => rw [r] at r'; cases r'
      | _ => cases z'
  | .obj c fs, d', v, z, z', h, h' => by
    simp only [shp, Bool.and_eq_true, decide_eq_true_eq] at z
    cases h with
    | obj n r q l =>
      cases h' with
      | tup n' r' l' => rw [r] at r'; cases r'
      | tupK k l' => rw [kt_free I k] at r; cases r
      | lst n' r' l' => rw [r] at r'; cases r'
      | obj n' r' q' l' =>
        simp only [shp, Bool.and_eq_true, decide_eq_true_eq] at z'
        rw [r] at r'; cases r'
        have := hi _ z.1 _ z'.1 _ q q'
        subst this
        rw [DpF.injF I hi fs _ _ z.2 z'.2 l l']
      | _ => cases z'
  | .dic _, _, _, z, _, _, _ => by cases z
  | .oid _, _, _, z, _, _, _ => by cases z
  | .scr _, _, _, z, _, _, _ => by cases z
theorem DpL.injL (I : Inv X pins σ H s) (hi : InjC X.mg cs) : ∀ (ds ds' : List D) (vs : List V), shpL cs ds = true → shpL cs ds' = true → DpL ⟨X.K, X.mg⟩ A B H vs ds → DpL ⟨X.K, X.mg⟩ A B H vs ds' → ds = ds'
  | [], ds', vs, _, _, h, h' => by cases h; cases h'; rfl
  | d :: ds, ds', vs, z, z', h, h' => by
    cases h with
    | cons h1 h2 =>
      cases h' with
      | cons h1' h2' =>
        simp only [shpL, Bool.and_eq_true] at z z'
        rw [Dp.inj I hi d _ _ z.1 z'.1 h1 h1', DpL.injL I hi ds _ _ z.2 z'.2 h2 h2']
theorem DpF.injF (I : Inv X pins σ H s) (hi : InjC X.mg cs) : ∀ (ds ds' : List (Str × D)) (vs : List (Str × V)), shpF cs ds = true → shpF cs ds' = true → DpF ⟨X.K, X.mg⟩ A B H vs ds → DpF ⟨X.K, X.mg⟩ A B H vs ds' → ds = ds'
  | [], ds', vs, _, _, h, h' => by cases h; cases h'; rfl
  | (k, d) :: ds, ds', vs, z, z', h, h' => by
    cases h with
    | cons h1 h2 =>
      cases h' with
      | cons h1' h2' =>
        simp only [shpF, Bool.and_eq_true] at z z'
        rw [Dp.inj I hi d _ _ z.1 z'.1 h1 h1', DpF.injF I hi ds _ _ z.2 z'.2 h2 h2']
end
end

/-- behind a comparison -/
def AftE (X : Cx) (pins : List (Addr × Obj)) (σ : St) (A : Ad) (B : Addr → Prop) (H : Hp) (ω : List Cell) (s' : Shared) : Prop := ∃ A1 B1 H1, Inv X pins σ H1 s' ∧ Stp A B H A1 B1 H1 ∧ Wo ⟨X.K, X.mg⟩ A1 B1 H1 ω
def EqP (X : Cx) (T : List (Str × Fn)) (cs : List Str) (k : Nat) (dx : D) : Prop := ∀ (dy : D) (n : Nat) (A' : Around) (pins : List (Addr × Obj)) (s : Shared) (σ : St) (H : Hp) (u v : Value) (x y : V) (b : Bool) (A : Ad) (B : Addr → Prop) (ω : List Cell),
  ht dx + k ≤ n → Sub X n A' → Inv X pins σ H s → RelV x u → RelV y v → Wo ⟨X.K, X.mg⟩ A B H ω → shp cs dx = true → shp cs dy = true → Dp ⟨X.K, X.mg⟩ A B H x dx → Dp ⟨X.K, X.mg⟩ A B H y dy → eqv T ω dx dy = some b →
  wpAny (model X.prog X.w) A' (eqBool u v) (fun r s' => r = b ∧ AftE X pins σ A B H ω s') X.xe s
def RcP (X : Cx) (T : List (Str × Fn)) (cs : List Str) (k : Nat) (dx : D) : Prop := ∀ (dy : D) (n : Nat) (A' : Around) (pins : List (Addr × Obj)) (s : Shared) (σ : St) (H : Hp) (u v : Value) (x y : V) (b : Bool) (A : Ad) (B : Addr → Prop) (ω : List Cell),
  ht dx + k ≤ n → Sub X n A' → Inv X pins σ H s → RelV x u → RelV y v → Wo ⟨X.K, X.mg⟩ A B H ω → shp cs dx = true → shp cs dy = true → Dp ⟨X.K, X.mg⟩ A B H x dx → Dp ⟨X.K, X.mg⟩ A B H y dy → eqv T ω dx dy = some b →
  wpAny (model X.prog X.w) A' (richCompare .Eq u v) (fun r s' => r = .bool b ∧ AftE X pins σ A B H ω s') X.xe s
section
variable {X : Cx} {W : WX} {T : List (Str × Fn)} {cs : List Str} {k : Nat}
/-- what is a reference -/
theorem RcP.eqP (hi : InjC X.mg cs) {dx : D} (hf : flat dx = false) (h : RcP X T cs k dx) : EqP X T cs k dx := by
  intro dy n A' pins s σ H u v x y b A B ω hn sb I rx ry wo z z' hx hy e
  have fy : flat dy = false := by
    cases q : flat dy with
    | false => rfl
    | true =>
      exfalso
      cases dx <;> cases dy <;> simp_all [eqv, flat]
  have rf : ∀ (d : D) (w : V), flat d = false → shp cs d = true → Dp ⟨X.K, X.mg⟩ A B H w d → ∃ a, w = .ref a := fun d w f z h => by
    cases h <;> first | exact ⟨_, rfl⟩ | (cases f; done) | (cases z; done)
  obtain ⟨a, rfl⟩ := rf dx x hf z hx
  obtain ⟨a', rfl⟩ := rf dy y fy z' hy
  have h1 := h dy n A' pins s σ H u v (.ref a) (.ref a') b A B ω hn sb I rx ry wo z z' hx hy e
  cases rx
  cases ry
  by_cases hab : a = a'
  · subst hab
    have := Dp.inj I hi dx dy _ z z' hx hy
    subst this
    have hb := eqv_self dx b e
    subst hb
    exact SeqAt.EqAt.same (A := A') (s := s) (.ref a) X.prog X.w X.xe _ ⟨rfl, A, B, H, I, .refl _ _ _, wo⟩
  · refine GQ.eqBool_refG hab (wpAny_mono h1 (fun r s' q => ?_) fun _ _ x => x)
    obtain ⟨rfl, q⟩ := q
    exact ⟨b, rfl, rfl, q⟩
theorem eqP_flat {dx : D} (hf : flat dx = true) : EqP X T cs k dx := by
  intro dy n A' pins s σ H u v x y b A B ω hn sb I rx ry wo z z' hx hy e
  have fy : flat dy = true ∧ b = eqb dx dy := by
    cases dx <;> cases dy <;> simp_all [eqv, flat]
  obtain ⟨fy, rfl⟩ := fy
  have q := eqAt_V (A := A') (s := s) rx ry (flat_dp hf (Dp.flatw hf hx)) (flat_dp fy (Dp.flatw fy hy))
  rw [eqV_flat hf fy (Dp.flatw hf hx) (Dp.flatw fy hy)] at q
  exact q X.prog X.w X.xe _ ⟨rfl, A, B, H, I, .refl _ _ _, wo⟩
theorem rcP_obj (tk : Takes X W) (cm : CalMs X.prog X.w X.K X.mg X.base "__eq__" k T) {c : Str} {fs : List (Str × D)} : RcP X T cs k (.obj c fs) := by
  intro dy n A' pins s σ H u v x y b A B ω hn sb I rx ry wo z z' hx hy e
  cases dy with
  | obj c' gs =>
    simp only [eqv] at e
    split at e
    · rename_i hc
      subst hc
      split at e
      · rename_i Gf hl
        split at e
        · rename_i b' ω' eg
          split at e
          · rename_i q
            rw [q.1] at eg
            cases e
            obtain ⟨ps, cc⟩ := cm c Gf hl
            obtain ⟨C', f, fd, h1, h2, h3, h4, h5⟩ := cc.ex
            cases hx with
            | obj nx rx' qx lx =>
              cases hy with
              | obj ny ry' qy ly =>
                rename_i a C dx vs a2 C2 dx2 vs2
                have e1 : C = C' := by
                  have : (some (Value.ref C) : Option Value) = some (.ref C') := qx.symm.trans h1
                  cases this; rfl
                have e2 : C2 = C' := by
                  have : (some (Value.ref C2) : Option Value) = some (.ref C') := qy.symm.trans h1
                  cases this; rfl
                subst e1
                subst e2
                cases rx
                cases ry
                obtain ⟨mA, J, _⟩ := ins_get I.hok rx'
                obtain ⟨mB, J', _⟩ := ins_get I.hok ry'
                obtain ⟨od, J, _⟩ := J.look
                obtain ⟨od', J', _⟩ := J'.look
                obtain ⟨mm, hF⟩ := I.fr
                have e0 : Env0 X.prog X.w X.K X.mg X.base A' X.stack s H := by
                  have e := I.env0
                  exact ⟨by rw [sb.fr]; exact e.frames, e.mod, e.bs, e.bsz, e.funs, e.frf, e.hok, e.bare⟩
                have hq : spD ⟨X.K, X.mg⟩ Gf [.ref a, .ref a2] H (fun v H' => v = .bl b ∧ ∃ A1 B1, Stp A B H A1 B1 H' ∧ Wo ⟨X.K, X.mg⟩ A1 B1 H' ω) (WE W σ) :=
                  ⟨A, B, ω, [.obj c fs, .obj c gs], .val (.bl b) ω, wo, .cons (.obj nx rx' qx lx) (.cons (.obj ny ry' qy ly) .nil), eg, fun v A1 B1 H1 t w1 dp => by
                    cases dp
                    exact ⟨rfl, A1, B1, t, w1⟩⟩
                have hroom : Room k A' := sb.room.mono (by omega)
                have run := run_at tk h5 hroom e0 h4 I (.cons (show RelV (.ref a) (.ref a) from rfl) (.cons (show RelV (.ref a2) (.ref a2) from rfl) .nil)) hq
                refine PySem.W.cmp_K (op := .Eq) (tb := .ref _) sb.room.units0 hF I.ok.mod.kin J J'.type (by simp [PySem.W.notFirst]) h3.1.at_ h3.1.fn (wpAny_mono run (fun r s' q => ?_) fun _ _ x => x)
                obtain ⟨v, H', I', rv, rfl, A1, B1, t, w1⟩ := q
                cases (show r = Value.bool b from rv)
                exact ⟨rfl, A1, B1, H', I', t, w1⟩
          · cases e
        · cases e
      · cases e
    · cases e
  | _ => simp [eqv, flat] at e

theorem eqvL_drop {ω : List Cell} {xs ys : List D} {i : Nat} {x y : D} (hx : xs[i]? = some x) (hy : ys[i]? = some y) : eqvL T ω (xs.drop i) (ys.drop i) = (match eqv T ω x y with | some true => eqvL T ω (xs.drop (i + 1)) (ys.drop (i + 1)) | r => r) := by
  have h1 : i < xs.length := by
    rcases Nat.lt_or_ge i xs.length with h | h
    · exact h
    · rw [List.getElem?_eq_none h] at hx; cases hx
  have h2 : i < ys.length := by
    rcases Nat.lt_or_ge i ys.length with h | h
    · exact h
    · rw [List.getElem?_eq_none h] at hy; cases hy
  rw [List.drop_eq_getElem_cons h1, List.drop_eq_getElem_cons h2]
  rw [List.getElem?_eq_getElem h1] at hx
  rw [List.getElem?_eq_getElem h2] at hy
  rw [Option.some.inj hx, Option.some.inj hy]
  simp only [eqvL]
/-- one turn over the items -/
theorem itemP {ds es : List D} (ih : ∀ d ∈ ds, EqP X T cs k d) {n : Nat} {A' : Around} (hn : htL ds + 1 + k ≤ n) (sb : Sub X n A') {pins : List (Addr × Obj)} {σ : St} {H : Hp} {A : Ad} {B : Addr → Prop} {ω : List Cell} (wo : Wo ⟨X.K, X.mg⟩ A B H ω) {vs ws : List V} {its its2 : List Value} (r : Vals vs its) (r2 : Vals ws its2) (z : shpL cs ds = true) (z' : shpL cs es = true) (l : DpL ⟨X.K, X.mg⟩ A B H vs ds) (l' : DpL ⟨X.K, X.mg⟩ A B H ws es)
    {b : Bool} (i : Nat) (h1 : i < its.toArray.size) (h2 : i < its2.toArray.size) (s' : Shared) (q : AftE X pins σ A B H ω s') (e : eqvL T ω (ds.drop i) (es.drop i) = some b) :
    wpAny (model X.prog X.w) A'.in1 (eqBool its.toArray[i] its2.toArray[i]) (fun r s2 => AftE X pins σ A B H ω s2 ∧ ((r = true ∧ eqvL T ω (ds.drop (i + 1)) (es.drop (i + 1)) = some b) ∨ (r = false ∧ b = false))) X.xe s' := by
  obtain ⟨A1, B1, H1, I1, t1, w1⟩ := q
  have g1 : its[i]? = some its.toArray[i] := by
    have h1' : i < its.length := by simpa using h1
    rw [List.getElem?_eq_getElem h1'] <;> simp
  have g2 : its2[i]? = some its2.toArray[i] := by
    have h2' : i < its2.length := by simpa using h2
    rw [List.getElem?_eq_getElem h2'] <;> simp
  have k1 : i < vs.length := by rw [r.length]; simpa using h1
  have k2 : i < ws.length := by rw [r2.length]; simpa using h2
  have k3 : i < ds.length := by rw [← l.length]; exact k1
  have k4 : i < es.length := by rw [← l'.length]; exact k2
  obtain ⟨u, hu, ru⟩ := r.get (List.getElem?_eq_getElem k1)
  obtain ⟨v, hv, rv⟩ := r2.get (List.getElem?_eq_getElem k2)
  rw [g1] at hu
  rw [g2] at hv
  rw [Option.some.inj hu, Option.some.inj hv]
  obtain ⟨x, hx1, hx2⟩ := l.get (List.getElem?_eq_getElem k3)
  obtain ⟨y, hy1, hy2⟩ := l'.get (List.getElem?_eq_getElem k4)
  rw [List.getElem?_eq_getElem k1] at hx1
  rw [List.getElem?_eq_getElem k2] at hy1
  cases hx1
  cases hy1
  have hm := List.getElem_mem k3
  have hm' := List.getElem_mem k4
  rw [eqvL_drop (List.getElem?_eq_getElem k3) (List.getElem?_eq_getElem k4)] at e
  have hh := htL_mem _ hm
  cases q : eqv T ω ds[i] es[i] with
  | none => rw [q] at e; cases e
  | some c =>
    rw [q] at e
    have mv := wo.mv t1
    refine wpAny_mono (ih _ hm _ (n - 1) A'.in1 pins s' σ H1 u v _ _ c A1 B1 ω (by omega) (Sub.in1 (sb.mono (by omega))) I1 ru rv w1 (shpL_mem z _ hm) (shpL_mem z' _ hm') (Dp.mv mv _ _ hx2) (Dp.mv mv _ _ hy2) q) (fun r s2 p => ?_) fun _ _ x => x
    obtain ⟨rfl, A2, B2, H2, I2, t2, w2⟩ := p
    refine ⟨⟨A2, B2, H2, I2, t1.trans t2, w2⟩, ?_⟩
    cases r with
    | true => exact .inl ⟨rfl, e⟩
    | false => cases e; exact .inr ⟨rfl, rfl⟩
theorem eqvL_end {ω : List Cell} {xs ys : List D} {i : Nat} {b : Bool} (h : i = min xs.length ys.length) (e : eqvL T ω (xs.drop i) (ys.drop i) = some b) : b = (xs.length == ys.length) := by
  rcases Nat.lt_trichotomy xs.length ys.length with c | c | c
  · rw [List.drop_of_length_le (show xs.length ≤ i by omega), List.drop_eq_getElem_cons (show i < ys.length by omega)] at e
    simp only [eqvL] at e
    cases e
    exact (beq_eq_false_iff_ne.mpr (by omega)).symm
  · rw [List.drop_of_length_le (show xs.length ≤ i by omega), List.drop_of_length_le (show ys.length ≤ i by omega)] at e
    simp only [eqvL] at e
    cases e
    exact (beq_iff_eq.mpr c).symm
  · rw [List.drop_of_length_le (show ys.length ≤ i by omega), List.drop_eq_getElem_cons (show i < xs.length by omega)] at e
    simp only [eqvL] at e
    cases e
    exact (beq_eq_false_iff_ne.mpr (by omega)).symm
theorem rcP_tup {ds : List D} (ih : ∀ d ∈ ds, EqP X T cs k d) : RcP X T cs k (.tup ds) := by
  intro dy n A' pins s σ H u v x y b A B ω hn sb I rx ry wo z z' hx hy e
  cases dy with
  | tup es =>
    simp only [eqv] at e
    simp only [shp] at z z'
    simp only [ht] at hn
    obtain ⟨a, vs, rfl, hs, l⟩ := Dp.seq hx
    obtain ⟨a2, ws, rfl, hs', l'⟩ := Dp.seq hy
    cases rx
    cases ry
    obtain ⟨its, r, e1, z1⟩ := I.tuple hs
    obtain ⟨its2, r2, e2, z2⟩ := I.tuple hs'
    have s1 : its.toArray.size = ds.length := by rw [List.size_toArray, ← r.length, l.length]
    have s2 : its2.toArray.size = es.length := by rw [List.size_toArray, ← r2.length, l'.length]
    obtain ⟨⟨cls, dd, data, sl⟩, ho, hc, m, hd⟩ := id e1
    obtain ⟨⟨cls2, dd2, data2, sl2⟩, ho2, hc2, m2, hd2⟩ := id e2
    simp only at hc hd hc2 hd2
    subst hc hd hc2 hd2
    refine wpAny_richCompare_same_room (op := .Eq) ⟨_, ho, rfl⟩ ⟨_, ho2, rfl⟩ F.slot_tuple_eq (GQ.call_here F.slot_tuple_eq ⟨_, ho, rfl⟩ F.entry_tuple_eq (F.args_tuple_eq_2 _ _) ?_) sb.room.units0
    refine GQB.tuple_eqB a a2 its.toArray its2.toArray m m2 dd dd2 sl sl2 (fun i s' => AftE X pins σ A B H ω s' ∧ eqvL T ω (ds.drop i) (es.drop i) = some b) (fun i h1 h2 s' q => ?_) (fun s' i hi q => ?_) ho ho2 ⟨⟨A, B, H, I, .refl _ _ _, wo⟩, e⟩
    · refine wpAny_mono (itemP ih (by omega) sb wo r r2 z z' l l' i h1 h2 s' q.1 q.2) (fun r s2 p => ?_) fun _ _ x => x
      obtain ⟨p1, ⟨rfl, p2⟩ | ⟨rfl, rfl⟩⟩ := p
      · exact .inl ⟨rfl, p1, p2⟩
      · exact .inr ⟨rfl, (fun x => nomatch x), rfl, p1⟩
    · rw [s1, s2] at hi ⊢
      have := eqvL_end hi q.2
      subst this
      exact ⟨(fun x => nomatch x), rfl, q.1⟩
  | _ => simp [eqv, flat] at e

theorem rcP_lst {ds : List D} (ih : ∀ d ∈ ds, EqP X T cs k d) : RcP X T cs k (.lst ds) := by
  intro dy n A' pins s σ H u v x y b A B ω hn sb I rx ry wo z z' hx hy e
  cases dy with
  | lst es =>
    simp only [eqv] at e
    simp only [shp] at z z'
    simp only [ht] at hn
    cases hx with
    | lst nx hx l =>
      cases hy with
      | lst ny hy l' =>
        rename_i a vs a2 ws
        cases rx
        cases ry
        have get : ∀ s', AftE X pins σ A B H ω s' → ∃ (its its2 : List Value) (m m2 : Nat), s'.heap.get? a = some { cls := .type "list", data := .seq its.toArray m } ∧ s'.heap.get? a2 = some { cls := .type "list", data := .seq its2.toArray m2 } ∧ Vals vs its ∧ Vals ws its2 := fun s' q => by
          obtain ⟨A1, B1, H1, I1, t1, w1⟩ := q
          have mv := wo.mv t1
          obtain ⟨z1, its, k1, r, e1⟩ := I1.hok a _ (mv.cell _ _ nx hx).1
          obtain ⟨z2, its2, k2, r2, e2⟩ := I1.hok a2 _ (mv.cell _ _ ny hy).1
          exact ⟨its, its2, k1, k2, e1, e2, r, r2⟩
        have q0 : AftE X pins σ A B H ω s := ⟨A, B, H, I, .refl _ _ _, wo⟩
        obtain ⟨its0, its20, m0, m20, ho, ho2, r0, r20⟩ := get s q0
        refine wpAny_richCompare_same_room (op := .Eq) ⟨_, ho, rfl⟩ ⟨_, ho2, rfl⟩ F.slot_list_eq (GQ.call_here F.slot_list_eq ⟨_, ho, rfl⟩ F.entry_list_eq (F.args_list_eq_2 _ _) ?_) sb.room.units0
        have sz1 : its0.toArray.size = ds.length := by rw [List.size_toArray, ← r0.length, l.length]
        have sz2 : its20.toArray.size = es.length := by rw [List.size_toArray, ← r20.length, l'.length]
        by_cases hl : ds.length = es.length
        · rw [if_pos hl] at e
          refine GQB.list_eqB a a2 ds.length (fun i s' => AftE X pins σ A B H ω s' ∧ eqvL T ω (ds.drop i) (es.drop i) = some b) (fun i s' q => ?_) (fun s' q => ?_) ⟨q0, e⟩
          · obtain ⟨its, its2, m, m2, g1, g2, r, r2⟩ := get s' q.1
            have s1 : its.toArray.size = ds.length := by rw [List.size_toArray, ← r.length, l.length]
            have s2 : its2.toArray.size = es.length := by rw [List.size_toArray, ← r2.length, l'.length]
            refine ⟨its.toArray, its2.toArray, m, m2, g1, g2, s1, by rw [s2, hl], fun h1 h2 => ?_⟩
            refine wpAny_mono (itemP ih (by omega) sb wo r r2 z z' l l' i h1 h2 s' q.1 q.2) (fun r s2 p => ?_) fun _ _ x => x
            obtain ⟨p1, ⟨rfl, p2⟩ | ⟨rfl, rfl⟩⟩ := p
            · exact .inl ⟨rfl, p1, p2⟩
            · obtain ⟨i1, i2, n1, n2, gg1, gg2, rr, rr2⟩ := get s2 p1
              exact .inr ⟨rfl, ⟨(fun x => nomatch x), rfl, p1⟩, i1.toArray, i2.toArray, n1, n2, gg1, gg2, by rw [List.size_toArray, ← rr.length, l.length], by rw [List.size_toArray, ← rr2.length, l'.length, hl]⟩
          · have := eqvL_end (show ds.length = min ds.length es.length by omega) q.2
            rw [beq_iff_eq.mpr hl] at this
            subst this
            exact ⟨(fun x => nomatch x), rfl, q.1⟩
        · rw [if_neg hl] at e
          cases e
          exact GQB.list_neB a a2 ho ho2 (by rw [sz1, sz2]; exact hl) ⟨(fun x => nomatch x), rfl, q0⟩
  | _ => simp [eqv, flat] at e
mutual
theorem eqP_all (tk : Takes X W) (cm : CalMs X.prog X.w X.K X.mg X.base "__eq__" k T) (hi : InjC X.mg cs) : ∀ d : D, EqP X T cs k d
  | .non => eqP_flat rfl
  | .bl _ => eqP_flat rfl
  | .int _ => eqP_flat rfl
  | .str _ => eqP_flat rfl
  | .tup ds => RcP.eqP hi rfl (rcP_tup (eqP_allL tk cm hi ds))
  | .lst ds => RcP.eqP hi rfl (rcP_lst (eqP_allL tk cm hi ds))
  | .obj c fs => RcP.eqP hi rfl (rcP_obj tk cm)
  | .dic _ => fun dy n A' pins s σ H u v x y b A B ω hn sb I rx ry wo z => by cases z
  | .oid _ => fun dy n A' pins s σ H u v x y b A B ω hn sb I rx ry wo z => by cases z
  | .scr _ => fun dy n A' pins s σ H u v x y b A B ω hn sb I rx ry wo z => by cases z
theorem eqP_allL (tk : Takes X W) (cm : CalMs X.prog X.w X.K X.mg X.base "__eq__" k T) (hi : InjC X.mg cs) : ∀ ds : List D, ∀ d ∈ ds, EqP X T cs k d
  | [] => fun d h => by cases h
  | e :: ds => fun d h => by
    rcases List.mem_cons.mp h with h | h
    · rw [h]; exact eqP_all tk cm hi e
    · exact eqP_allL tk cm hi ds d h
end
/-- x == y as an expression: tuples or lists that may hold things of own classes -/
noncomputable def eqTop (T : List (Str × Fn)) (x y : D) : M D := fun _ ω => match x, y with
  | .tup xs, .tup ys => if (shpL (T.map (·.1)) xs && shpL (T.map (·.1)) ys && decide (htL xs ≤ 6)) = true then (eqv T ω (.tup xs) (.tup ys)).map fun b => .val (.bl b) ω else none
  | .lst xs, .lst ys => if (shpL (T.map (·.1)) xs && shpL (T.map (·.1)) ys && decide (htL xs ≤ 6)) = true then (eqv T ω (.lst xs) (.lst ys)).map fun b => .val (.bl b) ω else none
  | _, _ => none
noncomputable def eqX (T : List (Str × Fn)) (fa fb : M D) : M D := fa.bind fun x => fb.bind fun y => eqTop T x y
def rEqB (X : Cx) (W : WX) (T : List (Str × Fn)) : St → R2 := fun σ x y H Q => ∃ A B ω dx dy b, Wo ⟨X.K, X.mg⟩ A B H ω ∧ shp (T.map (·.1)) dx = true ∧ shp (T.map (·.1)) dy = true ∧ flat dx = false ∧ (∀ c fs, dx ≠ .obj c fs) ∧ ht dx ≤ 7 ∧ Dp ⟨X.K, X.mg⟩ A B H x dx ∧ Dp ⟨X.K, X.mg⟩ A B H y dy ∧ eqv T ω dx dy = some b ∧
  ∀ A1 B1 H1, Stp A B H A1 B1 H1 → Wo ⟨X.K, X.mg⟩ A1 B1 H1 ω → Q (.bl b) H1
theorem op_eqB {j : Nat} (tk : Takes X W) (cm : CalMs X.prog X.w X.K X.mg X.base "__eq__" k T) (hi : InjC X.mg (T.map (·.1))) (hr : Room j X.A) (hj : k + 8 ≤ j) : OpRS X (compareOp .Eq) (rEqB X W T) := by
  intro pins s σ H x y v u Q I rx ry ⟨A, B, ω, dx, dy, b, wo, z, z', hf, hno, hh, hx, hy, e, q⟩
  show wpAny (model X.prog X.w) X.A (richCompare .Eq v u) (EP X pins σ Q) X.xe s
  have rc : RcP X T (T.map (·.1)) k dx := by
    cases dx with
    | tup ds => exact rcP_tup (eqP_allL tk cm hi ds)
    | lst ds => exact rcP_lst (eqP_allL tk cm hi ds)
    | obj c fs => exact absurd rfl (hno c fs)
    | dic _ => cases z
    | oid _ => cases z
    | scr _ => cases z
    | _ => cases hf
  refine wpAny_mono (rc dy j X.A pins s σ H v u x y b A B ω (by omega) ⟨hr, rfl⟩ I rx ry wo z z' hx hy e) (fun r s' p => ?_) fun _ _ x => x
  obtain ⟨rfl, A1, B1, H1, I1, t1, w1⟩ := p
  exact ⟨.bl b, H1, I1, rfl, q A1 B1 H1 t1 w1⟩
theorem tM_eqX {fa fb : M D} : ∀ σ H Q, tM ⟨X.K, X.mg⟩ rD W (eqX T fa fb) σ H Q → tOpS (rEqB X W T) (tM ⟨X.K, X.mg⟩ rD W fa) (tM ⟨X.K, X.mg⟩ rD W fb) σ H Q := by
  rintro σ H Q ⟨H0, A, B, ρ, ω, r, fm, e, res⟩
  refine tM_mono (tM_bind fm e res) fun x H1 ⟨A1, B1, ω1, d1, t1, fm1, r1, e1, res1⟩ => ?_
  refine tM_mono (tM_bind fm1 e1 res1) fun y H2 ⟨A2, B2, ω2, d2, t2, fm2, r2, e2, res2⟩ => ?_
  have hx := Dp.mv (fm1.wo.mv t2) _ _ r1
  cases d1 with
  | tup xs =>
    cases d2 with
    | tup ys =>
      simp only [eqTop] at e2
      split at e2
      · rename_i hz
        simp only [Bool.and_eq_true, decide_eq_true_eq] at hz
        have z1 : shp (T.map (·.1)) (.tup xs) = true := hz.1.1
        have z2 : shp (T.map (·.1)) (.tup ys) = true := hz.1.2
        cases q : eqv T ω2 (.tup xs) (.tup ys) with
        | none => rw [q] at e2; cases e2
        | some b =>
          rw [q] at e2
          cases e2
          exact ⟨A2, B2, ω2, _, _, b, fm2.wo, z1, z2, rfl, (fun _ _ h => by cases h), (by simp only [ht]; omega), hx, r2, q, fun A' B' H' t w => res2 _ A' B' H' t w (.bl b)⟩
      · cases e2
    | _ => cases e2
  | lst xs =>
    cases d2 with
    | lst ys =>
      simp only [eqTop] at e2
      split at e2
      · rename_i hz
        simp only [Bool.and_eq_true, decide_eq_true_eq] at hz
        have z1 : shp (T.map (·.1)) (.lst xs) = true := hz.1.1
        have z2 : shp (T.map (·.1)) (.lst ys) = true := hz.1.2
        cases q : eqv T ω2 (.lst xs) (.lst ys) with
        | none => rw [q] at e2; cases e2
        | some b =>
          rw [q] at e2
          cases e2
          exact ⟨A2, B2, ω2, _, _, b, fm2.wo, z1, z2, rfl, (fun _ _ h => by cases h), (by simp only [ht]; omega), hx, r2, q, fun A' B' H' t w => res2 _ A' B' H' t w (.bl b)⟩
      · cases e2
    | _ => cases e2
  | _ => cases e2
theorem de_eqX {a b : Expr} {fa fb : M D} {j : Nat} {pos : Pos} (tk : Takes X W) (cm : CalMs X.prog X.w X.K X.mg X.base "__eq__" k T) (hi : InjC X.mg (T.map (·.1))) (hr : Room j X.A) (hj : k + 8 ≤ j) (ha : PE X a (tM ⟨X.K, X.mg⟩ rD W fa)) (hb : PE X b (tM ⟨X.K, X.mg⟩ rD W fb)) : PE X (.Compare a [.Eq] [b] pos) (tM ⟨X.K, X.mg⟩ rD W (eqX T fa fb)) :=
  (pe_cmpRS (op_eqB tk cm hi hr hj) ha hb (nomark _)).dl tM_eqX
theorem injC_one {mg : Str → Option Value} {c : Str} : InjC mg [c] := fun a ha b hb C _ _ => by rw [List.mem_singleton.mp ha, List.mem_singleton.mp hb]
end
/-- a def of which nothing is known -/
theorem fnOk_none {P : Program} {w : World} {K : PySem.W.Frag} {mg : Str → Option Value} {base : Heap} {CX : CXT} {g : G} {k : Nat} {f : Addr} {fd : FuncData} {ps : List Str} : FnOk P w K mg base CX k f fd ps (spD g fun _ _ => none) :=
  ⟨fun vs H Q E ⟨A, B, ω, ds, r, _, _, e, _⟩ => (by cases e), fun A outer s H args us vs Q E hr he hb hv ⟨_, _, _, _, _, _, _, e, _⟩ => (by cases e)⟩
end DL
/-! DL28: values for the stepper: slices, signs of a text, comparisons of like data, calls of own operators. -/
namespace DL
open PySem L2
section
variable {ds : List D} {ρ : Rho} {ω ω1 ω2 ω' : List Cell} {k lo hi : Int}
theorem sIx_pos (n d : Nat) {k : Int} (h : 0 ≤ k) : HT.sIx n d (some k) = min k.toNat n := by
  obtain ⟨m, rfl⟩ := Int.eq_ofNat_of_zero_le h
  rw [HT.sIx_nat]
  simp
theorem cut_to (h : 0 ≤ k) : cutD ds none (some k) = ds.take k.toNat := by
  unfold cutD
  rw [sIx_pos _ _ h, HT.sIx_none]
  simp only [List.drop_zero, Nat.sub_zero]
  rcases Nat.le_total k.toNat ds.length with q | q
  · rw [Nat.min_eq_left q]
  · rw [Nat.min_eq_right q, List.take_length, List.take_of_length_le q]
theorem cut_from (h : 0 ≤ k) : cutD ds (some k) none = ds.drop k.toNat := by
  unfold cutD
  rw [sIx_pos _ _ h, HT.sIx_none]
  rcases Nat.le_total k.toNat ds.length with q | q
  · rw [Nat.min_eq_left q, List.take_of_length_le (by simp)]
  · rw [Nat.min_eq_right q, List.drop_length, List.drop_of_length_le q]
    simp
theorem cut_two (h : 0 ≤ lo) (h' : 0 ≤ hi) : cutD ds (some lo) (some hi) = (ds.drop lo.toNat).take (hi.toNat - lo.toNat) := by
  unfold cutD
  rw [sIx_pos _ _ h, sIx_pos _ _ h']
  rcases Nat.le_total lo.toNat ds.length with q | q
  · rw [Nat.min_eq_left q]
    rcases Nat.le_total hi.toNat ds.length with q' | q'
    · rw [Nat.min_eq_left q']
    · rw [Nat.min_eq_right q', List.take_of_length_le (by simp), List.take_of_length_le (by simp; omega)]
  · rw [Nat.min_eq_right q, List.drop_length, List.drop_of_length_le q]
    simp
theorem sl_lst_to (h : 0 ≤ k) : slM (.lst ds) none (some k) ρ ω = some (.val (.lst (ds.take k.toNat)) ω) := by
  show some (R.val (D.lst (cutD ds none (some k))) ω) = _
  rw [cut_to h]
theorem sl_lst_from (h : 0 ≤ k) : slM (.lst ds) (some k) none ρ ω = some (.val (.lst (ds.drop k.toNat)) ω) := by
  show some (R.val (D.lst (cutD ds (some k) none)) ω) = _
  rw [cut_from h]
theorem sl_tup_to (h : 0 ≤ k) : slM (.tup ds) none (some k) ρ ω = some (.val (.tup (ds.take k.toNat)) ω) := by
  show some (R.val (D.tup (cutD ds none (some k))) ω) = _
  rw [cut_to h]
theorem sl_tup_from (h : 0 ≤ k) : slM (.tup ds) (some k) none ρ ω = some (.val (.tup (ds.drop k.toNat)) ω) := by
  show some (R.val (D.tup (cutD ds (some k) none)) ω) = _
  rw [cut_from h]
theorem sl_lst_two (h : 0 ≤ lo) (h' : 0 ≤ hi) : slM (.lst ds) (some lo) (some hi) ρ ω = some (.val (.lst ((ds.drop lo.toNat).take (hi.toNat - lo.toNat))) ω) := by
  show some (R.val (D.lst (cutD ds (some lo) (some hi))) ω) = _
  rw [cut_two h h']
theorem asI_ev : asI (.int k) ρ ω = some (.val (some k) ω) := rfl
theorem items_lst : itemsOf (.lst ds) ρ ω = some (.val ds ω) := rfl
theorem items_tup : itemsOf (.tup ds) ρ ω = some (.val ds ω) := rfl
end
/-- the sign at a place of a text -/
def sgn (z : Str) (i : Int) : Str := ⟨#[z.cps.toList.getD i.toNat 0]⟩
theorem ixD_sgn {z : Str} {i : Int} (h0 : 0 ≤ i) (h : i < z.length) (hz : z.length ≤ 1000) : ixD (.str z) (.int i) = some (.str (sgn z i)) := by
  obtain ⟨n, rfl⟩ := Int.eq_ofNat_of_zero_le h0
  have h' : n < z.cps.toList.length := by rw [len_cps] at h; omega
  refine ix_strN hz ?_
  show _ = some (z.cps.toList.getD n 0)
  rw [List.getD, List.getElem?_eq_getElem h']
  rfl
theorem len_sgn (z : Str) (i : Int) : (sgn z i).length = 1 := rfl
theorem sgn_of (z : Str) {p : Str → Bool} (h : (z.cps.toList.all fun c => p ⟨#[c]⟩) = true) {i : Int} (h0 : 0 ≤ i) (hi : i < z.length) : p (sgn z i) = true := by
  have h' : i.toNat < z.cps.toList.length := by rw [len_cps] at hi; omega
  have := List.all_eq_true.mp h z.cps.toList[i.toNat] (List.getElem_mem h')
  unfold sgn
  rw [List.getD, List.getElem?_eq_getElem h']
  exact this
theorem neD_same {x : D} (h : fine x = true) : neD x x = some (.bl false) := by
  rw [neD_fine h h, eqb_refl x (fine_iff.mp h).1]
  rfl
theorem eqD_same {x : D} (h : fine x = true) : eqD x x = some (.bl true) := by
  rw [eqD_fine h h, eqb_refl x (fine_iff.mp h).1]
theorem lookup_one {c : Str} {α : Type} {x : α} : List.lookup c [(c, x)] = some x := by simp
section
variable {m c : Str} {T : List (Str × Fn)} {d : D} {ρ : Rho} {ω ω1 ω2 ω' : List Cell} {fl gl : List (Str × D)} {Gf : Fn} {fa fb : M D}
theorem binO_oo (ha : fa ρ ω = some (.val (.obj c fl) ω1)) (hb : fb ρ ω1 = some (.val (.obj c gl) ω2)) (h : Gf [.obj c fl, .obj c gl] ω2 = some (.val d ω')) : binO m [(c, Gf)] fa fb ρ ω = some (.val d ω') :=
  binO_ev ha hb (by simp [kdS, view]) rfl lookup_one h
theorem cmpO_oo (ha : fa ρ ω = some (.val (.obj c fl) ω1)) (hb : fb ρ ω1 = some (.val (.obj c gl) ω2)) (h : Gf [.obj c fl, .obj c gl] ω2 = some (.val d ω')) : cmpO m [(c, Gf)] fa fb ρ ω = some (.val d ω') :=
  cmpO_ev ha hb (by simp [kdS, view]) rfl lookup_one h
theorem methM_o {fs : M (List D)} {ds : List D} (ho : fa ρ ω = some (.val (.obj c fl) ω1)) (hn : fl.lookup m = none) (ha : fs ρ ω1 = some (.val ds ω2)) (h : Gf (.obj c fl :: ds) ω2 = some (.val d ω')) : methM m [(c, Gf)] fa fs ρ ω = some (.val d ω') :=
  methM_ev ho rfl hn lookup_one ha h
end

section
variable {F K : MS} {ρ ρ' : Rho} {ω : List Cell} {r : Option RS} {ds : List D} {d : D} {i : Nat}
theorem z_frzO (hi : ρ[i]? = some (.ow ds)) (s : ρ.set i (.fz (.lst ds)) = ρ') (k : F ρ' ω = r) : frz i F ρ ω = r := by unfold frz; rw [hi]; subst s; exact k
theorem z_frzF (hi : ρ[i]? = some (.fz d)) (k : F ρ ω = r) : frz i F ρ ω = r := by unfold frz; rw [hi]; exact k
theorem z_frzOS (hi : ρ[i]? = some (.ow ds)) (s : ρ.set i (.fz (.lst ds)) = ρ') (k : seqS F K ρ' ω = r) : seqS (frz i F) K ρ ω = r := by
  rw [← k]; unfold seqS frz; rw [hi]; subst s; rfl
theorem z_frzFS (hi : ρ[i]? = some (.fz d)) (k : seqS F K ρ ω = r) : seqS (frz i F) K ρ ω = r := by
  rw [← k]; unfold seqS frz; rw [hi]
end
theorem neD_sameL {x y : D} (h : x = y) (f : fine x = true) : neD x y = some (.bl false) := h ▸ neD_same f
theorem neD_sameR {x y : D} (h : x = y) (f : fine y = true) : neD x y = some (.bl false) := by subst h; exact neD_same f
theorem eqD_sameL {x y : D} (h : x = y) (f : fine x = true) : eqD x y = some (.bl true) := h ▸ eqD_same f
theorem eqD_sameR {x y : D} (h : x = y) (f : fine y = true) : eqD x y = some (.bl true) := by subst h; exact eqD_same f
theorem fine_of {d : D} (h1 : plain d = true) (h2 : dep d ≤ 64) : fine d = true := fine_iff.mpr ⟨h1, h2⟩
theorem z_end {x y : RS} (h : x = y) : some x = some y := congrArg some h
theorem lenD_lstM {α : Type} {xs : List α} {f : α → D} : lenD (.lst (xs.map f)) = some (.int xs.length) := by show some (D.int (xs.map f).length) = _; rw [List.length_map]
theorem lenD_tupM {α : Type} {xs : List α} {f : α → D} : lenD (.tup (xs.map f)) = some (.int xs.length) := by show some (D.int (xs.map f).length) = _; rw [List.length_map]
section
variable {m c : Str} {T : List (Str × Fn)} {x y d : D} {ρ : Rho} {ω ω1 ω2 ω' : List Cell} {fl gl : List (Str × D)} {Gf : Fn} {fa fb : M D} {e : Exc}
theorem binO_ex (ha : fa ρ ω = some (.val x ω1)) (hb : fb ρ ω1 = some (.val y ω2)) (hk : (kdS ω2 x y || kdI ω2 y) = true) (hv : view ω2 x = some (.obj c fl)) (hl : T.lookup c = some Gf) (h : Gf [x, y] ω2 = some (.exc e ω')) : binO m T fa fb ρ ω = some (.exc e ω') := by
  unfold binO
  rw [bind_ev ha, bind_ev hb]
  show (if _ then _ else _) = _
  rw [if_pos hk]
  unfold ownM
  simp only [hv, hl]
  exact h
end
theorem z_pre3 {A B C K : MS} {ρ ρ' : Rho} {ω ω' : List Cell} {r : Option RS} (h : (seqS A (seqS B C)) ρ ω = some (.nx ρ' ω')) (k : K ρ' ω' = r) : seqS A (seqS B (seqS C K)) ρ ω = r := by
  have e : seqS (seqS A (seqS B C)) K ρ ω = seqS A (seqS B (seqS C K)) ρ ω := by
    unfold seqS
    cases A ρ ω with
    | none => rfl
    | some x =>
      cases x with
      | nx ρ1 ω1 =>
        simp only
        cases B ρ1 ω1 with
        | none => rfl
        | some y => cases y <;> rfl
      | _ => rfl
  rw [← e]
  exact (seqS_nx h).trans k
theorem y_truT {f : M D} {ds : List D} {ρ : Rho} {ω ω1 : List Cell} (h : f ρ ω = some (.val (.tup ds) ω1)) : truM f ρ ω = some (.val (!ds.isEmpty) ω1) := by unfold truM; rw [bind_ev h]; rfl
theorem y_truL {f : M D} {ds : List D} {ρ : Rho} {ω ω1 : List Cell} (h : f ρ ω = some (.val (.lst ds) ω1)) : truM f ρ ω = some (.val (!ds.isEmpty) ω1) := by unfold truM; rw [bind_ev h]; rfl
theorem addD_strL {x y : Str} (h : x.length + y.length ≤ 16777216) : addD (.str x) (.str y) = some (.str (x ++ y)) := if_pos (by rw [sizeLine_eq]; exact h)
theorem addD_lstL {xs ys : List D} (h : xs.length + ys.length ≤ 16777216) : addD (.lst xs) (.lst ys) = some (.lst (xs ++ ys)) := if_pos (by rw [sizeLine_eq]; exact h)
end DL
/-! DL29: texts: str(x), sep.join(xs), text * n. -/
namespace DL
open PySem L2
def strI (i : Int) : Str := toString i
def strD : D → Option D
  | .int i => if i.natAbs.log2 < 1920 then some (.str (strI i)) else none
  | .str x => some (.str x)
  | _ => none
section
variable {X : Cx} {g : G} {W : WX} {e a b : Expr} {p pos apos : Pos} {fa fb : M D}
theorem v_str : V1 g (fun x H Q => (∃ i, [x] = [.int i] ∧ i.natAbs.log2 < 1920 ∧ Q (.str (toString i)) H) ∨ ∃ z, [x] = [.str z] ∧ Q (.str z) H) strD := by
  intro A B H ω x a c Q w ha e q
  cases a with
  | int i =>
    cases ha
    simp only [strD] at e
    split at e
    · rename_i h
      cases e
      exact .inl ⟨i, rfl, h, q.now w (.str _)⟩
    · cases e
  | str z => cases ha; cases e; exact .inr ⟨z, rfl, q.now w (.str _)⟩
  | _ => cases e
theorem de_toStr (hg : Gl X "str") (hm : X.mg "str" = none) (ha : PE X e (tM g rW W fa)) (he : starEach [e] X.env = (false, eval e X.env) :: starEach [] X.env := by rfl) : PE X (.Call (.Name "str" p) [e] [] pos) (tM g rD W (uo strD fa)) :=
  de_callT1 (call_str_int.or SkE.call_str_str) v_str hg hm (by decide +kernel) ha (he := he)
/-! ### join -/
def joinD (a : Str) : D → Option D
  | .lst ds => match strsOf ds with
    | some ys => if (ys.map (·.length)).sum + ys.length * a.length ≤ 16777216 then some (.str (Txt.join a ys)) else none
    | none => none
  | .tup ds => match strsOf ds with
    | some ys => if (ys.map (·.length)).sum + ys.length * a.length ≤ 16777216 then some (.str (Txt.join a ys)) else none
    | none => none
  | _ => none
theorem v_join {z : Str} : V1 g (fun x H Q => ∃ a p, ∃ ys : List Str, V.str z = .str a ∧ [x] = [V.ref p] ∧ (SqL g.K H p (ys.map V.str) ∨ SqT g.K H p (ys.map V.str)) ∧ (ys.map (·.length)).sum + ys.length * a.length ≤ 16777216 ∧ Q (.str (Txt.join a ys)) H) (joinD z) := by
  intro A B H ω x a c Q w ha e q
  cases a with
  | lst ds =>
    obtain ⟨p, vs, rfl, h1, l⟩ := ha
    simp only [joinD] at e
    cases q1 : strsOf ds with
    | none => rw [q1] at e; cases e
    | some ys =>
      rw [q1] at e
      simp only at e
      split at e
      · rename_i hz
        cases e
        have := strsOf_dp q1 l
        subst this
        exact ⟨z, p, ys, rfl, rfl, .inl (SqL.of h1), hz, q.now w (.str _)⟩
      · cases e
  | tup ds =>
    have h' : Dp g A B H x (.tup ds) := ha
    obtain ⟨p, vs, rfl, h1, l⟩ := Dp.seq h'
    simp only [joinD] at e
    cases q1 : strsOf ds with
    | none => rw [q1] at e; cases e
    | some ys =>
      rw [q1] at e
      simp only at e
      split at e
      · rename_i hz
        cases e
        have := strsOf_dp q1 l
        subst this
        exact ⟨z, p, ys, rfl, rfl, .inr h1, hz, q.now w (.str _)⟩
      · cases e
  | _ => cases e
theorem de_join {z : Str} {j : Nat} {p0 : Pos} (hK : X.K = g.K) (hb : PE X e (tM g rW W fb)) (hs : starEach [e] X.env = [(false, eval e X.env)] := by rfl) (hbase : attributeBase (.Constant (.str z) j p0) "join" X.env (eval (.Constant (.str z) j p0) X.env) = eval (.Constant (.str z) j p0) X.env := by rfl) (hline : (apos.endLine == pos.line) = true := by rfl) :
    PE X (.Call (.Attribute (.Constant (.str z) j p0) "join" apos) [e] [] pos) (tM g rD W (uo (joinD z) fb)) :=
  (pe_join pe_str hb hs hbase hline).dl fun σ H Q h => ⟨⟨z, rfl⟩, by
    have := tM_op1 (v_join (g := g) (z := z)) σ H Q h
    rw [hK]
    exact this⟩
/-! ### text * n -/
def rMulS : R2 := fun x y H Q => ∃ (z : Str) (n : Int), x = .str z ∧ y = .int n ∧ 2 ≤ n ∧ n ≤ 1000 ∧ 1 ≤ z.length ∧ z.length ≤ 1000 ∧ Q (.str ⟨(List.replicate n.toNat z.cps).foldl (· ++ ·) #[]⟩) H
theorem foldl_size {α : Type} (z : Array α) : ∀ (n : Nat) (acc : Array α), ((List.replicate n z).foldl (· ++ ·) acc).size = acc.size + n * z.size
  | 0, acc => by simp
  | n + 1, acc => by
    rw [List.replicate_succ, List.foldl_cons, foldl_size z n, Array.size_append, Nat.add_mul]
    omega
theorem op_mulS : OpR X (binaryOp .Mult) rMulS := by
  intro pins s σ H x y v u Q I rx ry ⟨z, n, e1, e2, h1, h2, h3, h4, q⟩
  subst e1 e2
  obtain ⟨t, rfl⟩ := rx
  obtain ⟨t', rfl⟩ := ry
  have hn : n.toNat ≤ 1000 := by omega
  have hm : z.length * n.toNat ≤ 1000000 := Nat.le_trans (Nat.mul_le_mul h4 hn) (by decide)
  have hc : (n == 1 || z.length == 0) = false := by
    rw [beq_eq_false_iff_ne.mpr (by omega), beq_eq_false_iff_ne.mpr (by omega)]
    rfl
  refine PySem.P.mul_str (by rw [decide_eq_false (by omega), decide_eq_false (by omega)]; rfl) (fun _ _ => ?_) (fun _ _ => ?_) ?_
  · have : (1000 : Int) ≤ (2 ^ 63 - 1) / n := by
      rw [Int.le_ediv_iff_mul_le (by omega)]
      omega
    omega
  · unfold Builtin.Str.tooLong
    simp only [decide_eq_false_iff_not]
    have := sizeLine_eq
    first | omega | (rw [sizeLine_eq]; omega)
  · rw [if_neg (by omega), if_neg (by rw [hc]; decide)]
    refine ⟨?_, .str _, H, I.tok _, ⟨_, rfl⟩, q⟩
    show ((List.replicate n.toNat z.cps).foldl (· ++ ·) #[]).size ≤ sizeLine
    rw [foldl_size, sizeLine_eq]
    have : n.toNat * z.cps.size = z.length * n.toNat := Nat.mul_comm _ _
    simp
    omega
def repS (z : Str) (n : Int) : Str := ⟨(List.replicate n.toNat z.cps).foldl (· ++ ·) #[]⟩
def mulSD : D → D → Option D
  | .str z, .int n => if 2 ≤ n ∧ n ≤ 1000 ∧ 1 ≤ z.length ∧ z.length ≤ 1000 then some (.str (repS z n)) else none
  | _, _ => none
theorem v_mulS : V2 g rMulS mulSD := by
  intro A B H ω x y a b c Q w ha hb e q
  cases a with
  | str z =>
    cases b with
    | int n =>
      cases ha
      cases hb
      simp only [mulSD] at e
      split at e
      · rename_i h
        cases e
        exact ⟨z, n, rfl, rfl, h.1, h.2.1, h.2.2.1, h.2.2.2, q.now w (.str _)⟩
      · cases e
    | _ => cases e
  | _ => cases e
theorem de_mulS (ha : PE X a (tM g rW W fa)) (hb : PE X b (tM g rW W fb)) : PE X (.BinOp a .Mult b pos) (tM g rD W (bo mulSD fa fb)) := de_op op_mulS v_mulS ha hb
end
/-! ### values -/
theorem repS_len (z : Str) (n : Int) : (repS z n).length = n.toNat * z.length := by
  show ((List.replicate n.toNat z.cps).foldl (· ++ ·) #[]).size = _
  rw [foldl_size]
  simp [Str.length]
theorem mulSD_ev {z : Str} {n : Int} (h1 : 2 ≤ n) (h2 : n ≤ 1000) (h3 : 1 ≤ z.length) (h4 : z.length ≤ 1000) : mulSD (.str z) (.int n) = some (.str (repS z n)) := if_pos ⟨h1, h2, h3, h4⟩
theorem strD_str (x : Str) : strD (.str x) = some (.str x) := rfl
theorem strD_int {i : Int} (h : i.natAbs.log2 < 1920) : strD (.int i) = some (.str (strI i)) := if_pos h
theorem joinD_lst {a : Str} {ys : List Str} (h : (ys.map (·.length)).sum + ys.length * a.length ≤ 16777216) : joinD a (.lst (ys.map D.str)) = some (.str (Txt.join a ys)) := by
  simp only [joinD, strsOf_map]
  rw [if_pos h]
end DL
/-! DL30: x != y by an own __eq__. -/
namespace PySem.W
open PySem
section
variable {prog : Program} {w : World} {A : Around} {E : Value → Shared → Prop} {s : Shared} {K : Frag} {x y C L f : Addr} {h₀ : Heap} {m : Str → Option Value} {ox oy : Obj} {od od' : Option Obj} {name : Str}
theorem ne_bind (self : Value) : bindSpecial (.builtin "object.__ne__") self = pure (.builtin "object.__ne__", [self]) :=
  (Slot.of (T := "object") (name := "__ne__") (owner := "object") (n := "__ne__") (by rw [typeLookup_type, builtinLookup_eq_fast]; kernel_rfl) (by decide +kernel) (by decide +kernel) (by decide +kernel)
    (.inl (by decide +kernel)) (by rw [isSubtype_type]; kernel_rfl)).bind self
theorem ne_plain : plainId "object.__ne__" = true := by decide +kernel
theorem ifBoundB_K {M : Model} {args : List Value} {Q : Option Value → Shared → Prop} {id : String} (X : K.In s.heap) (I : InstAt s.heap x ox C od) (hs : findIn K (.ref C) name = some (some (.builtin id))) (hb : ∀ self, bindSpecial (.builtin id) self = pure (.builtin id, [self]))
    (h : wpAny M A (call (.builtin id) (.ref x :: args)) (fun v => Q (some v)) E s) : wpAny M A (callSpecialIfBound? (.ref x) name args) Q E s := by
  simp only [callSpecialIfBound?, bindSpecialIfBound?]
  refine wpAny_holding (wpAny_bind (wpAny_bind (wpAny_bind (I.type.here ((looks_findIn X hs).here ?_)))))
  simp only [hb]
  refine wpAny_bind (wpAny_askSetting (wpAny_ite ?_))
  have fin : wpAny M A (call (.builtin id) ([.ref x] ++ args) >>= fun v => pure (some v)) Q E s := wpAny_bind (wpAny_mono h (fun v s' h' => wpAny_pure h') fun _ _ h' => h')
  split
  · exact wpAny_bind (wpAny_pure (wpAny_pure fin))
  · exact wpAny_tryCatch (wpAny_bind (wpAny_pure (wpAny_pure fin)))
theorem objNe_K (X : K.In s.heap) (I : InstAt s.heap x ox C od) (hs : findIn K (.ref C) "__eq__" = some (some (.ref f))) (hf : isFn K (.ref f) = true) (hu : A.units < cLine) {Q : Fin → Shared → Prop}
    (hcall : wpAny (model prog w) A (call (.ref f) [.ref x, .ref y]) (fun v s' => ∃ b, v = .bool b ∧ Q (.done (.ret (.bool (!b)))) s') E s) :
    wpAny (model prog w) A (Builtin.«object.__ne__» ⟨[.ref x, .ref y], []⟩) Q E s := by
  unfold Builtin.«object.__ne__»
  repeat (first
    | with_reducible refine wpAny_cRoomFor hu ?_
    | (refine wpAny_bind (m := callSpecialIfBound? (.ref x) (Str.ofString "__eq__") [.ref y])
        (ifBound_K X I hs hf (wpAny_mono hcall (fun r s' hr => by
          obtain ⟨b, rfl, hq⟩ := hr
          repeat (first | exact hq | exact wpAny_pure hq | exact wpAny_truthy_bool hq | (refine wpAny_bind (m := truthy (.bool _)) (wpAny_truthy_bool ?_)) | wp_step)) fun _ _ e => e)))
    | wp_step)
theorem ne_K {Q : Value → Shared → Prop} (hu : A.units + 1 < cLine) (X : K.In s.heap) (I : InstAt s.heap x ox C od) (I' : InstAt s.heap y oy C od')
    (hne : findIn K (.ref C) "__ne__" = some (some (.builtin "object.__ne__"))) (hm : mroIn K C (.type "object") = some true)
    (hs : findIn K (.ref C) "__eq__" = some (some (.ref f))) (hf : isFn K (.ref f) = true)
    (h : wpAny (model prog w) A.in1 (call (.ref f) [.ref x, .ref y]) (fun v s' => ∃ b, v = .bool b ∧ Q (.bool (!b)) s') E s) : wpAny (model prog w) A (richCompare .NotEq (.ref x) (.ref y)) Q E s := by
  have one : wpAny (model prog w) A (tryCompare (.ref x) "__ne__" (.ref y)) (fun r s' => ∃ v, r = some v ∧ Q v s') E s := by
    unfold tryCompare
    refine wpAny_bind (ifBoundB_K X I hne ne_bind (wpAny_call (codeAny_call_builtin ne_plain F.cmpEntry_ne (check_slot F.cmpKind_ne F.cmpSplit_ne (I.type.andThen (looks_mroIn X hm)) (F.cmpArgs_ne _ _)
      (objNe_K (A := A.in1) X I hs hf hu (wpAny_mono h (fun v s' hv => ?_) fun _ _ e => e))))))
    obtain ⟨b, rfl, hq⟩ := hv
    first | exact ⟨b, rfl, wpAny_pure ⟨_, rfl, hq⟩⟩ | exact ⟨b, rfl, _, rfl, hq⟩ | exact ⟨b, rfl, wpAny_pure (wpAny_pure ⟨_, rfl, hq⟩)⟩
  unfold richCompare
  simp only [oneThing_ref]
  refine wpAny_holding (wpAny_bind (wpAny_cRoomFor (Nat.lt_of_succ_lt hu) ?_))
  rw [cmpInfo_NotEq]
  dsimp only
  refine wpAny_bind (I.type.here (wpAny_bind (I'.type.here ?_)))
  rw [show (Value.ref C != Value.ref C) = false from by simp]
  simp only [Bool.false_eq_true, if_false]
  refine wpAny_bind (wpAny_pure ?_)
  simp only [Bool.false_eq_true, if_false]
  refine wpAny_bind (wpAny_mono one (fun r s' z => ?_) fun _ _ e => e)
  obtain ⟨v, rfl, hq⟩ := z
  exact wpAny_pure hq
end
end PySem.W
namespace DL
open PySem L2
/-- what != asks of a class with an own __eq__ alone -/
def NeF (K : PySem.W.Frag) (mg : Str → Option Value) (c : Str) : Prop := ∃ C, mg c = some (.ref C) ∧ PySem.W.findIn K (.ref C) "__ne__" = some (some (.builtin "object.__ne__")) ∧ PySem.W.mroIn K C (.type "object") = some true
def NeFs (K : PySem.W.Frag) (mg : Str → Option Value) (T : List (Str × Fn)) : Prop := ∀ c Gf, T.lookup c = some Gf → NeF K mg c
theorem nef_nil {K : PySem.W.Frag} {mg : Str → Option Value} : NeFs K mg [] := fun c Gf e => by cases e
theorem nef_cons {K : PySem.W.Frag} {mg : Str → Option Value} {c : Str} {Gf : Fn} {T : List (Str × Fn)} (h : NeF K mg c) (t : NeFs K mg T) : NeFs K mg ((c, Gf) :: T) := fun c' Gf' e => by
  rw [List.lookup_cons] at e
  cases q : c' == c with
  | true => rw [eq_of_beq q]; exact h
  | false => rw [q] at e; exact t c' Gf' e
def notB : D → M D := fun d _ ω => match d with
  | .bl b => some (.val (.bl !b) ω)
  | _ => none
def cmpN (T : List (Str × Fn)) (fa fb : M D) : M D := fa.bind fun x => fb.bind fun y ρ ω => if kdS ω x y = true then ((ownM "__eq__" T x [y]).bind notB) ρ ω else none
section
variable {X : Cx} {W : WX} {a b : Expr} {fa fb : M D} {k j : Nat} {T : List (Str × Fn)} {pos : Pos}
theorem op_neO (tk : Takes X W) (hu : X.A.units + 1 < cLine) : OpRS X (compareOp .NotEq) (fun σ x y H Q => OwnR X W "__eq__" (fun v H' Q => ∃ c, v = .bl c ∧ Q (.bl !c) H') σ [x, y] H Q ∧ rSame H x y ∧ ∀ a C dx fs, x = .ref a → H a = some (.ins C dx fs) → PySem.W.findIn X.K (.ref C) "__ne__" = some (some (.builtin "object.__ne__")) ∧ PySem.W.mroIn X.K C (.type "object") = some true) := by
  intro pins s σ H x y v u Q I rx ry ⟨⟨a, C, dx, fs, f, fd, ps, sp, k, ys, e1, hp, ⟨hme, _⟩, hb, F, hr, q⟩, hs, hne⟩
  cases e1
  cases (show v = Value.ref a from rx)
  obtain ⟨mA, J, _⟩ := ins_get I.hok hp
  obtain ⟨od, J, _⟩ := J.look
  have run := run_at tk F hr.in1 I.env0.in1 hb I (.cons (show RelV (.ref a) (.ref a) from rfl) (.cons ry .nil)) q
  obtain ⟨a', b, C', _, dy, _, gs, ea, rfl, ha, hb'⟩ := hs
  cases ea
  obtain ⟨n1, n2⟩ := hne a C dx fs rfl hp
  rw [hp] at ha
  cases ha
  cases (show u = Value.ref b from ry)
  obtain ⟨mB, J', _⟩ := ins_get I.hok hb'
  obtain ⟨od', J', _⟩ := J'.look
  refine PySem.W.ne_K hu I.kIn J J' n1 n2 hme.at_ hme.fn (wpAny_mono run (fun z s' h => ?_) fun _ _ x => x)
  obtain ⟨vv, H', I', rv, c, rfl, q'⟩ := h
  cases (show z = Value.bool c from rv)
  exact ⟨c, rfl, .bl !c, H', I', rfl, q'⟩
theorem tM_neO (cm : CalMs X.prog X.w X.K X.mg X.base "__eq__" k T) (hn : NeFs X.K X.mg T) (hr : Room j X.A) (hj : k + 1 ≤ j) : ∀ σ H Q, tM ⟨X.K, X.mg⟩ rD W (cmpN T fa fb) σ H Q → tOpS (fun σ x y H Q => OwnR X W "__eq__" (fun v H' Q => ∃ c, v = .bl c ∧ Q (.bl !c) H') σ [x, y] H Q ∧ rSame H x y ∧ ∀ a C dx fs, x = .ref a → H a = some (.ins C dx fs) → PySem.W.findIn X.K (.ref C) "__ne__" = some (some (.builtin "object.__ne__")) ∧ PySem.W.mroIn X.K C (.type "object") = some true) (tM ⟨X.K, X.mg⟩ rD W fa) (tM ⟨X.K, X.mg⟩ rD W fb) σ H Q := by
  rintro σ H Q ⟨H0, A, B, ρ, ω, r, fm, e, res⟩
  refine tM_mono (tM_bind fm e res) fun x H1 ⟨A1, B1, ω1, d1, t1, fm1, r1, e1, res1⟩ => ?_
  refine tM_mono (tM_bind fm1 e1 res1) fun y H2 ⟨A2, B2, ω2, d2, t2, fm2, r2, e2, res2⟩ => ?_
  have hx := Dp.mv (fm1.wo.mv t2) _ _ r1
  split at e2
  · rename_i hk
    unfold M.bind at e2
    cases q : ownM "__eq__" T d1 [d2] ρ ω2 with
    | none => rw [q] at e2; cases e2
    | some z =>
      rw [q] at e2
      refine ⟨own_at (W := W) rfl cm hr hj fm2 hx (.cons r2 .nil) q ?_, kdS_ok fm2.wo hx r2 hk, ?_⟩
      · cases z with
        | exc x ω' =>
          cases e2
          exact fun cls dd A' B' H' t w xo => res2 cls dd A' B' H' t w xo
        | val d ω' =>
          replace e2 : notB d ρ ω' = some r := e2
          intro v A' B' H' t w dp
          cases d with
          | bl c =>
            cases e2
            cases dp
            exact ⟨c, rfl, res2 _ A' B' H' t w (.bl _)⟩
          | _ => cases e2
      · intro a C dx fs ex hp
        unfold ownM at q
        split at q
        · rename_i c fl ev
          cases q2 : T.lookup c with
          | none => simp only [q2] at q; cases q
          | some Gf =>
            obtain ⟨a', C', dx', vs, e1, h1, h2, _⟩ := Vw.of hx fm2.wo ev
            rw [ex] at e1
            cases e1
            rw [hp] at h1
            cases h1
            obtain ⟨C2, h3, h4⟩ := hn c Gf q2
            have : (some (Value.ref C2) : Option Value) = some (.ref C) := h3.symm.trans h2
            cases this
            exact h4
        · cases q
  · cases e2
theorem Room.u1 {k : Nat} {A : Around} (hr : Room k A) : A.units + 1 < cLine := by have := hr.un; omega
theorem de_neO (tk : Takes X W) (cm : CalMs X.prog X.w X.K X.mg X.base "__eq__" k T) (hn : NeFs X.K X.mg T) (hr : Room j X.A) (hj : k + 1 ≤ j) (ha : PE X a (tM ⟨X.K, X.mg⟩ rD W fa)) (hb : PE X b (tM ⟨X.K, X.mg⟩ rD W fb)) : PE X (.Compare a [.NotEq] [b] pos) (tM ⟨X.K, X.mg⟩ rD W (cmpN T fa fb)) :=
  (pe_cmpRS (op_neO tk (Room.u1 hr)) ha hb (nomark _)).dl (tM_neO cm hn hr hj)
theorem dt_neO (tk : Takes X W) (cm : CalMs X.prog X.w X.K X.mg X.base "__eq__" k T) (hn : NeFs X.K X.mg T) (hr : Room j X.A) (hj : k + 1 ≤ j) (ha : PE X a (tM ⟨X.K, X.mg⟩ rD W fa)) (hb : PE X b (tM ⟨X.K, X.mg⟩ rD W fb)) : PT X (.Compare a [.NotEq] [b] pos) (tM ⟨X.K, X.mg⟩ rB W (tst (cmpN T fa fb))) :=
  (pt_cmpRS (op_neO tk (Room.u1 hr)) ha hb (nomark _)).dl fun σ H Q ⟨H0, A, B, ρ, ω, r, fm, e, res⟩ => by
    refine tM_neO cm hn hr hj σ H _ (tM_mono (tM_bind fm e res) fun x H1 ⟨A1, B1, ω1, d1, t1, fm1, r1, e1, res1⟩ => ?_)
    unfold asB at e1
    cases d1 with
    | bl k =>
      cases e1
      cases r1
      exact ⟨k, rfl, res1 k A1 B1 H1 (.refl _ _ _) fm1.wo rfl⟩
    | _ => cases e1
end
section
variable {c : Str} {ρ : Rho} {ω ω1 ω2 ω' : List Cell} {fl gl : List (Str × D)} {Gf : Fn} {fa fb : M D} {b : Bool}
theorem cmpN_oo (ha : fa ρ ω = some (.val (.obj c fl) ω1)) (hb : fb ρ ω1 = some (.val (.obj c gl) ω2)) (h : Gf [.obj c fl, .obj c gl] ω2 = some (.val (.bl b) ω')) : cmpN [(c, Gf)] fa fb ρ ω = some (.val (.bl !b) ω') := by
  unfold cmpN
  rw [bind_ev ha, bind_ev hb]
  show (if _ then _ else _) = _
  rw [if_pos (by simp [kdS, view])]
  rw [bind_ev (ownM_ev rfl lookup_one h)]
  rfl
end
end DL
/-! DL31: text.split(sep), text.startswith(t), int(text), o.f += n. -/
namespace DL
open PySem L2
section
variable {X : Cx} {g : G} {W : WX} {e o : Expr} {p pos apos : Pos} {fa fo : M D}
/-- text.split(sep), sep written -/
def splL (b : Str) (x : D) : M (List D) := fun _ ω => match x with
  | .str a => if (b.length == 0) = false ∧ a.length + 2 ≤ sizeLine then some (.val ((Txt.split a b).map D.str) ω) else none
  | _ => none
theorem dn_split {z : Str} {j : Nat} {p0 : Pos} (ha : PE X o (tM g rD W fo)) (hs : starEach [.Constant (.str z) j p0] X.env = [(false, eval (.Constant (.str z) j p0) X.env)] := by rfl) (hbase : attributeBase o "split" X.env (eval o X.env) = eval o X.env := by rfl) (hline : (apos.endLine == pos.line) = true := by rfl) :
    PE X (.Call (.Attribute o "split" apos) [.Constant (.str z) j p0] [] pos) (tN g W (fo.bind (splL z))) :=
  (pe_split ha pe_str hs hbase hline).dl fun σ H Q ⟨H0, A, B, ρ, ω, r, fm, e, res⟩ => by
    refine tM_mono (tN_bind fm e res) fun x H1 ⟨A1, B1, ω1, d1, t1, fm1, r1, e1⟩ => ?_
    unfold splL at e1
    split at e1
    · rename_i a
      split at e1
      · rename_i hz
        cases e1
        cases r1
        exact ⟨⟨a, rfl⟩, a, z, rfl, rfl, hz.1, hz.2, res.of t1 fm1.wo (DpL.strs _)⟩
      · cases e1
    · cases e1
/-- text.startswith(t), t written -/
def swM (b : Str) (x : D) : M D := fun _ ω => match x with
  | .str a => some (.val (.bl (Txt.startswith a b)) ω)
  | _ => none
theorem de_sw {z : Str} {j : Nat} {p0 : Pos} (ha : PE X o (tM g rD W fo)) (hs : starEach [.Constant (.str z) j p0] X.env = [(false, eval (.Constant (.str z) j p0) X.env)] := by rfl) (hbase : attributeBase o "startswith" X.env (eval o X.env) = eval o X.env := by rfl) (hline : (apos.endLine == pos.line) = true := by rfl) :
    PE X (.Call (.Attribute o "startswith" apos) [.Constant (.str z) j p0] [] pos) (tM g rD W (fo.bind (swM z))) :=
  (pe_m1 F.slot_str_startswith F.type_str_startswith mt_startswith ha pe_str hs hbase hline).dl fun σ H Q ⟨H0, A, B, ρ, ω, r, fm, e, res⟩ => by
    refine tM_mono (tM_bind fm e res) fun x H1 ⟨A1, B1, ω1, d1, t1, fm1, r1, e1, res1⟩ => ?_
    unfold swM at e1
    split at e1
    · rename_i a
      cases e1
      cases r1
      exact ⟨⟨a, rfl⟩, a, z, rfl, rfl, res1 _ A1 B1 H1 (.refl _ _ _) fm1.wo (.bl _)⟩
    · cases e1
/-- int(text) -/
def intSD : D → Option D
  | .str a => match PySem.intText? a with
    | some n => if a.length ≤ 640 then some (.int n) else none
    | none => none
  | _ => none
theorem v_intS : V1 g (fun x H Q => ∃ a n, [x] = [.str a] ∧ PySem.intText? a = some n ∧ a.length ≤ 640 ∧ Q (.int n) H) intSD := by
  intro A B H ω x a c Q w ha e q
  cases a with
  | str z =>
    cases ha
    simp only [intSD] at e
    split at e
    · rename_i n hn
      split at e
      · rename_i hz
        cases e
        exact ⟨z, n, rfl, hn, hz, q.now w (.int _)⟩
      · cases e
    · cases e
  | _ => cases e
theorem de_intS (hg : Gl X "int") (hm : X.mg "int" = none) (ha : PE X e (tM g rW W fa)) (he : starEach [e] X.env = (false, eval e X.env) :: starEach [] X.env := by rfl) : PE X (.Call (.Name "int" p) [e] [] pos) (tM g rD W (uo intSD fa)) :=
  de_callT1 call_int_str v_intS hg hm (by decide +kernel) ha (he := he)
end
section
variable {X : Cx} {g : G} {W : WX} {n : En} {o : Expr} {f : Str} {cs : List Str} {pos tpos p1 : Pos} {fo : M D} {i : Int} {j : Nat}
/-- o.f += i, o in the store, i written -/
def augS (cs : List Str) (f : Str) (fo : M D) (i : Int) : MS := bindS fo fun o ρ ω => match o with
  | .oid k => match ω[k]? with
    | some (.obj c fs) => match fs.lookup f with
      | some (.int m) => if cs.contains c = true ∧ fs.length < 1000 then some (.nx ρ (ω.set k (.obj c (putD f (.int (m + i)) fs)))) else none
      | _ => none
    | _ => none
  | _ => none
theorem ds_aug (hK : X.K = g.K) (hC : ClFs g.K g.mg f cs) (ho : PE X o (tM g rD W fo)) : PS X (.AugAssign (.Attribute o f tpos) .Add (.Constant (.int i) j p1) pos) (tS g n W (augS cs f fo i)) :=
  (ps_fldaug ho pe_int in_add).dl fun D σ H ⟨A, B, ρ, ω, r, s, fm, e, res⟩ => by
    refine tM_mono (tS_bind s fm e res) fun x H2 ⟨A2, B2, ω2, d2, t2, m2, s2, fm2, r2, e2, res2⟩ => ?_
    cases d2 with
    | oid k =>
      simp only at e2
      cases q : ω2[k]? with
      | none => simp only [q] at e2; cases e2
      | some c =>
        cases c with
        | obj c fs =>
          simp only [q] at e2
          cases q2 : fs.lookup f with
          | none => simp only [q2] at e2; cases e2
          | some d =>
            cases d with
            | int m =>
              simp only [q2] at e2
              split at e2
              · rename_i hz
                cases e2
                have hcell : ∃ a, x = .ref a ∧ A2[k]? = some (some a) ∧ CellOk g A2 B2 H2 a (.obj c fs) := by
                  rcases fm2.wo.cell k _ q with ⟨z, _⟩ | ⟨a, ha, ok⟩
                  · cases z
                  · cases r2 with
                    | oid e => rw [ha] at e; cases e; exact ⟨a, rfl, ha, ok⟩
                    | ded e => rw [ha] at e; cases e
                obtain ⟨a, rfl, ha, C, dx, vs, hp, hm, l⟩ := hcell
                obtain ⟨C', h1, h2, h3⟩ := hC.at hz.1
                rw [hm] at h1
                cases h1
                obtain ⟨v, lv, dv⟩ := DpF.look l q2
                cases dv
                refine ⟨a, C, dx, vs, .int m, rfl, hp, by rw [hK]; exact h2, by rw [hK]; exact h3, lv, m, i, rfl, rfl, dx, vs, hp, by rw [l.len]; exact hz.2, ?_⟩
                obtain ⟨fm3, m3⟩ := fm2.cellW (u := .ins C dx (putF f (.int (m + i)) vs)) (c := .obj c (putD f (.int (m + i)) fs)) ha (frz_not hp) fun H' _ hu m' => ⟨C, dx, _, hu, hm, DpF.mv m' _ _ (l.put (.int _))⟩
                exact res2.next m3 (s2.cellW (Liv.of ha) (frz_not hp)) fm3
              · cases e2
            | _ => simp only [q2] at e2; cases e2
        | _ => simp only [q] at e2; cases e2
    | _ => cases e2
end
end DL
/-! DL32: isinstance with a tuple of two built-in types. -/
namespace DL
open PySem L2
theorem rd_up {H : Hp} {T a : Addr} {o u : HO} (hT : H T = none) (h : Rd H a u) : Rd (upd H T o) a u := by
  rcases h with h | ⟨v, h⟩
  · exact .inl (by rw [upd_ne (ne_of_none h hT)]; exact h)
  · exact .inr ⟨v, by rw [upd_ne (ne_of_none h hT)]; exact h⟩
theorem tyB_up {g : G} {A : Ad} {B : Addr → Prop} {H : Hp} {x : V} {d : D} {t : String} {T : Addr} {o : HO} (hT : H T = none) (h : Vw g A B H x d) (e : tyB d = some t) : TyX g.K (upd H T o) x (.type t) := by
  refine tyB_ok (A := A) (B := fun a => B a ∨ a = T) (d := d) ?_ e
  cases d with
  | non => exact h
  | bl b => exact h
  | int b => exact h
  | str b => exact h
  | tup ds => exact Dp.mv (Mv.plus hT) _ _ h
  | lst ds =>
    obtain ⟨a, vs, rfl, h1, h2⟩ := h
    exact ⟨a, vs, rfl, by rw [upd_ne (ne_of_none h1 hT)]; exact h1, DpL.mv (Mv.plus hT) _ _ h2⟩
  | dic ds =>
    obtain ⟨a, vs, rfl, h1, h2⟩ := h
    exact ⟨a, vs, rfl, rd_up hT h1, DpK.mv (Mv.plus hT) _ _ h2⟩
  | scr ns =>
    obtain ⟨a, rfl, h1⟩ := h
    refine ⟨a, rfl, ?_⟩
    rcases h1 with h1 | h1
    · exact .inl (rd_up hT h1)
    · exact .inr h1
  | _ => cases e
/-- isinstance(x, (S1, S2)), both built in -/
def isiB2 (S1 S2 : String) (d : D) : Option D := match tyB d with
  | some t => match kitB t S1, kitB t S2 with
    | some a, some b => some (.bl (a || b))
    | _, _ => none
  | none => none
theorem v_isiB2 (g : G) (S1 S2 : String) : V1 g (fun x H Q => [V.ty S1, V.ty S2].length ≤ sizeLine ∧ ∀ p, H p = none → rIsiT g.K [x, .ref p] (upd H p (.tup [.ty S1, .ty S2])) Q) (isiB2 S1 S2) := by
  intro A B H ω x a c Q w ha e q
  unfold isiB2 at e
  cases q1 : tyB a with
  | none => rw [q1] at e; cases e
  | some t =>
    rw [q1] at e
    cases q2 : kitB t S1 with
    | none => simp only [q2] at e; cases e
    | some b1 =>
      cases q3 : kitB t S2 with
      | none => simp only [q2, q3] at e; cases e
      | some b2 =>
        simp only [q2, q3] at e
        cases e
        refine ⟨by show 2 ≤ sizeLine; rw [sizeLine_eq]; omega, fun p hp => ?_⟩
        refine ⟨x, p, [.ty S1, .ty S2], .type t, [.type S1, .type S2], b1 || b2, rfl, upd_same, .cons (.ty S1) (.cons (.ty S2) .nil), tyB_up hp ha q1, ?_, ?_⟩
        · refine kitAny_cons (kit_ty q2) (fun z => kitAny_cons (kit_ty q3) (fun z2 => ?_) fun z2 => ?_) fun z => ?_
          · rw [z, z2]; exact kitAny_nil
          · rw [z2, Bool.or_true]
          · rw [z, Bool.true_or]
        · exact q _ _ _ _ (Stp.alloc (.refl _ _ _) hp) (w.plus hp) (.bl _)
section
variable {X : Cx} {g : G} {W : WX} {e : Expr} {p pos tp p1 p2 : Pos}
theorem de_isiB2 {fa : M D} {S1 S2 : String} {x y : Str} {k : Nat} (hg : Gl X "isinstance") (hm : X.mg "isinstance" = none) (hgx : Gl X x) (hmx : X.mg x = none) (hb : bootBuiltins x = some (.type S1)) (hgy : Gl X y) (hmy : X.mg y = none) (hby : bootBuiltins y = some (.type S2)) (ha : PE X e (tM ⟨X.K, X.mg⟩ rW W fa)) (hnx : x ≠ "__name__" := by decide) (hdx : (x == ("__debug__" : Str)) = false := by decide) (hny : y ≠ "__name__" := by decide) (hdy : (y == ("__debug__" : Str)) = false := by decide)
    (he : starEach [e, .Tuple [.Name x p1, .Name y p2] k tp] X.env = (false, eval e X.env) :: starEach [.Tuple [.Name x p1, .Name y p2] k tp] X.env := by rfl) (he2 : starEach [.Tuple [.Name x p1, .Name y p2] k tp] X.env = (false, eval (.Tuple [.Name x p1, .Name y p2] k tp) X.env) :: starEach [] X.env := by rfl) (hpl : (backTo pos (starEach [.Tuple [.Name x p1, .Name y p2] k tp] X.env)).any (·.1) = false := by rfl)
    (he3 : starEach [.Name x p1, .Name y p2] X.env = (false, eval (.Name x p1) X.env) :: starEach [.Name y p2] X.env := by rfl) (he4 : starEach [.Name y p2] X.env = (false, eval (.Name y p2) X.env) :: starEach [] X.env := by rfl) :
    PE X (.Call (.Name "isinstance" p) [e, .Tuple [.Name x p1, .Name y p2] k tp] [] pos) (tM ⟨X.K, X.mg⟩ rD W (uo (isiB2 S1 S2) fa)) :=
  (pe_callB call_isiT hg hm (by decide +kernel) (pa_cons ha (pa_cons (pe_tup (pa_cons (pe_bltn (v := .ty S1) hgx hmx hb rfl hnx hdx) (pa_cons (pe_bltn (v := .ty S2) hgy hmy hby rfl hny hdy) pa_nil he4) he3)) pa_nil he2) he) (by decide) (by decide) he hpl).dl fun σ H Q h => tM_op1 (r := fun x H Q => [V.ty S1, V.ty S2].length ≤ sizeLine ∧ ∀ p, H p = none → rIsiT X.K [x, .ref p] (upd H p (.tup [.ty S1, .ty S2])) Q) (v_isiB2 ⟨X.K, X.mg⟩ S1 S2) σ H Q h
theorem isi2_str (S1 S2 : String) (x : Str) {a b : Bool} (h1 : kitB "str" S1 = some a) (h2 : kitB "str" S2 = some b) : isiB2 S1 S2 (.str x) = some (.bl (a || b)) := by
  show (match kitB "str" S1, kitB "str" S2 with | some a, some b => some (D.bl (a || b)) | _, _ => none) = _
  rw [h1, h2]
end
end DL
/-! DL33: in, not in by an own __contains__; o[i] = v by an own __setitem__. -/
namespace DL
open PySem L2
def sameB (neg : Bool) : D → M D := fun d _ ω => match d with
  | .bl b => some (.val (.bl (if neg then !b else b)) ω)
  | _ => none
def inO (neg : Bool) (T : List (Str × Fn)) (fa fb : M D) : M D := fa.bind fun x => fb.bind fun y => (ownM "__contains__" T y [x]).bind (sameB neg)
section
variable {X : Cx} {W : WX} {a b : Expr} {fa fb : M D} {k j : Nat} {T : List (Str × Fn)} {pos : Pos}
def rInO (X : Cx) (W : WX) (neg : Bool) : St → R2 := fun σ x y H Q => OwnR X W "__contains__" (fun v H' Q => ∃ c, v = .bl c ∧ Q (.bl (if neg then !c else c)) H') σ [y, x] H Q
theorem op_inO (tk : Takes X W) : OpRS X (compareOp .In) (rInO X W false) := by
  intro pins s σ H x y v u Q I rx ry ⟨a, C, dx, fs, f, fd, ps, sp, k, ys, e1, hp, ⟨hme, _⟩, hb, F, hr, q⟩
  cases e1
  cases (show u = Value.ref a from ry)
  obtain ⟨mA, J, _⟩ := ins_get I.hok hp
  obtain ⟨od, J, _⟩ := J.look
  obtain ⟨m, hF⟩ := I.fr
  refine PySem.W.in_K hF I.ok.mod.kin J hme.at_ hme.fn (wpAny_mono (run_at tk F (hr.mono (Nat.le_succ k)) I.env0 hb I (.cons (show RelV (.ref a) (.ref a) from rfl) (.cons rx .nil)) q) (fun z s' h => ?_) fun _ _ x => x)
  obtain ⟨vv, H', I', rv, c, rfl, q'⟩ := h
  cases (show z = Value.bool c from rv)
  exact wpAny_truthy_bool ⟨.bl c, H', I', rfl, q'⟩
theorem op_ninO (tk : Takes X W) : OpRS X (compareOp .NotIn) (rInO X W true) := by
  intro pins s σ H x y v u Q I rx ry ⟨a, C, dx, fs, f, fd, ps, sp, k, ys, e1, hp, ⟨hme, _⟩, hb, F, hr, q⟩
  cases e1
  cases (show u = Value.ref a from ry)
  obtain ⟨mA, J, _⟩ := ins_get I.hok hp
  obtain ⟨od, J, _⟩ := J.look
  obtain ⟨m, hF⟩ := I.fr
  refine PySem.W.notIn_K hF I.ok.mod.kin J hme.at_ hme.fn (wpAny_mono (run_at tk F (hr.mono (Nat.le_succ k)) I.env0 hb I (.cons (show RelV (.ref a) (.ref a) from rfl) (.cons rx .nil)) q) (fun z s' h => ?_) fun _ _ x => x)
  obtain ⟨vv, H', I', rv, c, rfl, q'⟩ := h
  cases (show z = Value.bool c from rv)
  exact wpAny_truthy_bool ⟨.bl !c, H', I', rfl, q'⟩
theorem tM_inO {neg : Bool} (cm : CalMs X.prog X.w X.K X.mg X.base "__contains__" k T) (hr : Room j X.A) (hj : k + 1 ≤ j) : ∀ σ H Q, tM ⟨X.K, X.mg⟩ rD W (inO neg T fa fb) σ H Q → tOpS (rInO X W neg) (tM ⟨X.K, X.mg⟩ rD W fa) (tM ⟨X.K, X.mg⟩ rD W fb) σ H Q := by
  rintro σ H Q ⟨H0, A, B, ρ, ω, r, fm, e, res⟩
  refine tM_mono (tM_bind fm e res) fun x H1 ⟨A1, B1, ω1, d1, t1, fm1, r1, e1, res1⟩ => ?_
  refine tM_mono (tM_bind fm1 e1 res1) fun y H2 ⟨A2, B2, ω2, d2, t2, fm2, r2, e2, res2⟩ => ?_
  have hx := Dp.mv (fm1.wo.mv t2) _ _ r1
  unfold M.bind at e2
  cases q : ownM "__contains__" T d2 [d1] ρ ω2 with
  | none => rw [q] at e2; cases e2
  | some z =>
    rw [q] at e2
    refine own_at (W := W) rfl cm hr hj fm2 r2 (.cons hx .nil) q ?_
    cases z with
    | exc x ω' =>
      cases e2
      exact fun cls dd A' B' H' t w xo => res2 cls dd A' B' H' t w xo
    | val d ω' =>
      replace e2 : sameB neg d ρ ω' = some r := e2
      intro v A' B' H' t w dp
      cases d with
      | bl c =>
        cases e2
        cases dp
        exact ⟨c, rfl, res2 _ A' B' H' t w (.bl _)⟩
      | _ => cases e2
theorem de_inO (tk : Takes X W) (cm : CalMs X.prog X.w X.K X.mg X.base "__contains__" k T) (hr : Room j X.A) (hj : k + 1 ≤ j) (ha : PE X a (tM ⟨X.K, X.mg⟩ rD W fa)) (hb : PE X b (tM ⟨X.K, X.mg⟩ rD W fb)) (hm : behindInMarks .In b = false := by rfl) : PE X (.Compare a [.In] [b] pos) (tM ⟨X.K, X.mg⟩ rD W (inO false T fa fb)) :=
  (pe_cmpRS (op_inO tk) ha hb hm).dl (tM_inO cm hr hj)
theorem de_ninO (tk : Takes X W) (cm : CalMs X.prog X.w X.K X.mg X.base "__contains__" k T) (hr : Room j X.A) (hj : k + 1 ≤ j) (ha : PE X a (tM ⟨X.K, X.mg⟩ rD W fa)) (hb : PE X b (tM ⟨X.K, X.mg⟩ rD W fb)) (hm : behindInMarks .NotIn b = false := by rfl) : PE X (.Compare a [.NotIn] [b] pos) (tM ⟨X.K, X.mg⟩ rD W (inO true T fa fb)) :=
  (pe_cmpRS (op_ninO tk) ha hb hm).dl (tM_inO cm hr hj)
end
/-- what o[i] = v asks of a class -/
def SqF (K : PySem.W.Frag) (mg : Str → Option Value) (c : Str) : Prop := ∃ C, mg c = some (.ref C) ∧ PySem.W.noSeq K C = true
def SqFs (K : PySem.W.Frag) (mg : Str → Option Value) (T : List (Str × Fn)) : Prop := ∀ c Gf, T.lookup c = some Gf → SqF K mg c
theorem sqf_nil {K : PySem.W.Frag} {mg : Str → Option Value} : SqFs K mg [] := fun c Gf e => by cases e
theorem sqf_cons {K : PySem.W.Frag} {mg : Str → Option Value} {c : Str} {Gf : Fn} {T : List (Str × Fn)} (h : SqF K mg c) (t : SqFs K mg T) : SqFs K mg ((c, Gf) :: T) := fun c' Gf' e => by
  rw [List.lookup_cons] at e
  cases q : c' == c with
  | true => rw [eq_of_beq q]; exact h
  | false => rw [q] at e; exact t c' Gf' e
def putO (T : List (Str × Fn)) (fo fi fv : M D) : MS := bindS fv fun d => bindS fo fun o => bindS fi fun i => bindS (ownM "__setitem__" T o [i, d]) fun _ ρ ω => some (.nx ρ ω)
section
variable {X : Cx} {W : WX} {n : En} {o i e : Expr} {fo fi fv : M D} {k j : Nat} {T : List (Str × Fn)} {pos p2 : Pos} {to ti : TE}
def gSubO (X : Cx) (W : WX) (to ti : TE) : TG := fun v σ H Q => to σ H fun x H1 => ti σ H1 fun y H2 => OwnR X W "__setitem__" (fun v H' Q => Q v H') σ [x, y, v] H2 (fun _ H3 => Q σ H3) ∧ ∀ a C dx fs, x = .ref a → H2 a = some (.ins C dx fs) → PySem.W.noSeq X.K C = true
theorem pg_subO (tk : Takes X W) (ho : PE X o to) (hi : PE X i ti)
    (ha : ∀ v, assign (.Subscript o i pos) X.env v = (do
      let ov ← holding [v] (eval o X.env)
      let iv ← holding [v, ov] (eval i X.env)
      standAt pos
      holding [v, ov, iv] (setItem ov iv v)
      release [v, ov, iv] []) := by intro _; rfl) : PG X (.Subscript o i pos) (gSubO X W to ti) := by
  refine ⟨fun pins s σ H v u Q I r h => ?_⟩
  rw [ha]
  refine wpAny_bind (wpAny_holding (thn (ho.run pins s σ H _ I h) fun ov s1 ⟨x, H1, I1, r1, q1⟩ => ?_))
  refine wpAny_bind (wpAny_holding (thn (hi.run pins s1 σ H1 _ I1 q1) fun iv s2 ⟨y, H2, I2, r2, q2, hsq⟩ => ?_))
  refine wpAny_bind (wpAny_standAt (wpAny_bind (wpAny_holding ?_)))
  obtain ⟨a, C, dx, fs, f, fd, ps, sp, k, ys, e1, hp, ⟨hm, hfn⟩, hbi, F, hr, q⟩ := q2
  cases e1
  cases (show ov = Value.ref a from r1)
  obtain ⟨mA, J, _⟩ := ins_get I2.hok hp
  obtain ⟨od, J, _⟩ := J.look
  obtain ⟨m, hF⟩ := I2.fr
  refine PySem.W.ksp_setItem hF I2.ok.mod.kin J (hsq a C dx fs rfl hp) hm.at_ hm.fn (wpAny_mono (run_at tk F (hr.mono (Nat.le_succ k)) I2.env0 hbi I2 (.cons (show RelV (.ref a) (.ref a) from rfl) (.cons r2 (.cons r .nil))) q) (fun z s3 h3 => ?_) fun _ _ x => x)
  obtain ⟨vv, H3, I3, rv, q3⟩ := h3
  exact wpAny_release ⟨σ, H3, I3, q3⟩
theorem ds_putO (tk : Takes X W) (cm : CalMs X.prog X.w X.K X.mg X.base "__setitem__" k T) (hn : SqFs X.K X.mg T) (hr : Room j X.A) (hj : k + 1 ≤ j) (he : PE X e (tM ⟨X.K, X.mg⟩ rD W fv)) (ho : PE X o (tM ⟨X.K, X.mg⟩ rD W fo)) (hi : PE X i (tM ⟨X.K, X.mg⟩ rD W fi))
    (hs : swapsWithSole [.Subscript o i p2] e pos.line X.env = pure false := by rfl) (hw : swappedStores [.Subscript o i p2] e X.env = pure none := by rfl) (h1 : (assignEach [.Subscript o i p2] X.env).map (·.2) = [assign (.Subscript o i p2) X.env] := by rfl)
    (ha : ∀ v, assign (.Subscript o i p2) X.env v = (do
      let ov ← holding [v] (eval o X.env)
      let iv ← holding [v, ov] (eval i X.env)
      standAt p2
      holding [v, ov, iv] (setItem ov iv v)
      release [v, ov, iv] []) := by intro _; rfl) :
    PS X (.Assign [.Subscript o i p2] e pos) (tS ⟨X.K, X.mg⟩ n W (putO T fo fi fv)) :=
  (ps_asg he (pg_subO tk ho hi ha) hs hw h1).dl fun D σ H ⟨A, B, ρ, ω, r, s, fm, e, res⟩ => by
    refine tM_mono (tS_bind s fm e res) fun v H1 ⟨A1, B1, ω1, d1, t1, m1, s1, fm1, r1, e1, res1⟩ => ?_
    refine tM_mono (tS_bind s1 fm1 e1 res1) fun x H2 ⟨A2, B2, ω2, d2, t2, m2, s2, fm2, r2, e2, res2⟩ => ?_
    refine tM_mono (tS_bind s2 fm2 e2 res2) fun y H3 ⟨A3, B3, ω3, d3, t3, m3, s3, fm3, r3, e3, res3⟩ => ?_
    have hx := Dp.mv m3 _ _ r2
    have hv := Dp.mv (m2.trans m3) _ _ r1
    unfold bindS at e3
    cases q : ownM "__setitem__" T d2 [d3, d1] ρ ω3 with
    | none => rw [q] at e3; cases e3
    | some z =>
      rw [q] at e3
      refine ⟨own_at (W := W) rfl cm hr hj fm3 hx (.cons r3 (.cons hv .nil)) q ?_, ?_⟩
      · cases z with
        | exc x ω' =>
          have e' : some (RS.exc x ρ ω') = some r := e3
          cases e'
          exact fun cls dd A' B' H' t w xo => res3 cls dd σ A' B' H' (fm3.wo.mv t) (s3.trans t) (fm3.up t w) xo
        | val d ω' =>
          have e' : some (RS.nx ρ ω') = some r := e3
          cases e'
          exact fun v A' B' H' t w dp => res3 σ A' B' H' (fm3.wo.mv t) (s3.trans t) (fm3.up t w)
      · intro a C dx fs ex hp
        unfold ownM at q
        split at q
        · rename_i c fl ev
          cases q2 : T.lookup c with
          | none => simp only [q2] at q; cases q
          | some Gf =>
            obtain ⟨a', C', dx', vs, e1, h1, h2, _⟩ := Vw.of hx fm3.wo ev
            rw [ex] at e1
            cases e1
            rw [hp] at h1
            cases h1
            obtain ⟨C2, h3, h4⟩ := hn c Gf q2
            have : (some (Value.ref C2) : Option Value) = some (.ref C) := h3.symm.trans h2
            cases this
            exact h4
        · cases q
end
end DL
/-! DL34: dicts: in, d[k], len, dict(d), {}, list(d), d[k] = v; new lists of the store; sorted of texts; index; x[i] = v of a list of the store. -/
namespace DL
open PySem L2
/-! ### keys -/
def keyD : D → Option Key
  | .int i => some (.inl i)
  | .str x => some (.inr x)
  | _ => none
def dKey : Key → D
  | .inl i => .int i
  | .inr x => .str x
theorem keyD_V {g : G} {A : Ad} {B : Addr → Prop} {H : Hp} {d : D} {v : V} {k : Key} (e : keyD d = some k) (h : Vw g A B H v d) : v = kV k := by
  cases d with
  | int i => cases e; exact h
  | str x => cases e; exact h
  | _ => cases e
theorem keyD_P {g : G} {A : Ad} {B : Addr → Prop} {H : Hp} {d : D} {v : V} {k : Key} (e : keyD d = some k) (h : Dp g A B H v d) : v = kV k := by
  cases d with
  | int i => cases e; cases h; rfl
  | str x => cases e; cases h; rfl
  | _ => cases e
def valD (kvs : List (Key × D)) (k : Key) : Option D := (kvs.find? fun kv => decide (kv.1 = k)).map (·.2)
def putKD (kvs : List (Key × D)) (k : Key) (v : D) : List (Key × D) :=
  if (kvs.any fun kv => decide (kv.1 = k)) = true then kvs.map (fun kv => if kv.1 = k then (kv.1, v) else kv) else kvs ++ [(k, v)]
theorem valD_cons (p : Key × D) (r : List (Key × D)) (k : Key) : valD (p :: r) k = if p.1 = k then some p.2 else valD r k := by
  by_cases h : p.1 = k
  · simp [valD, List.find?_cons, h]
  · simp [valD, List.find?_cons, h]
section
variable {g : G} {A : Ad} {B : Addr → Prop} {H : Hp}
theorem DpK.val : ∀ {ds : List (Key × D)} {vs : List (Key × V)} (k : Key), DpK g A B H vs ds → (valD ds k = none ∧ valV vs k = none) ∨ ∃ d v, valD ds k = some d ∧ valV vs k = some v ∧ Dp g A B H v d
  | [], _, k, h => by cases h; exact .inl ⟨rfl, rfl⟩
  | (k', d) :: ds, _, k, h => by
    cases h with
    | @cons _ v vs _ _ h1 h2 =>
      by_cases e : k' = k
      · exact .inr ⟨d, v, by rw [valD_cons, if_pos e], by rw [valV_pos (p := (k', v)) e], h1⟩
      · rcases DpK.val k h2 with ⟨a, b⟩ | ⟨d', v', a, b, c⟩
        · exact .inl ⟨by rw [valD_cons, if_neg e]; exact a, by rw [valV_neg (p := (k', v)) e]; exact b⟩
        · exact .inr ⟨d', v', by rw [valD_cons, if_neg e]; exact a, by rw [valV_neg (p := (k', v)) e]; exact b, c⟩
theorem DpK.len : ∀ {ds : List (Key × D)} {vs : List (Key × V)}, DpK g A B H vs ds → vs.length = ds.length
  | [], _, h => by cases h; rfl
  | _ :: ds, _, h => by cases h with | cons h1 h2 => simp [DpK.len h2]
theorem DpK.keys : ∀ {ds : List (Key × D)} {vs : List (Key × V)}, DpK g A B H vs ds → vs.map (·.1) = ds.map (·.1)
  | [], _, h => by cases h; rfl
  | _ :: ds, _, h => by cases h with | cons h1 h2 => simp [DpK.keys h2]
theorem DpK.append : ∀ {ds es : List (Key × D)} {vs ws : List (Key × V)}, DpK g A B H vs ds → DpK g A B H ws es → DpK g A B H (vs ++ ws) (ds ++ es)
  | [], es, _, ws, h, k => by cases h; exact k
  | _ :: ds, es, _, ws, h, k => by cases h with | cons h1 h2 => exact .cons h1 (DpK.append h2 k)
theorem DpK.any (k : Key) : ∀ {ds : List (Key × D)} {vs : List (Key × V)}, DpK g A B H vs ds → (vs.any fun kv => decide (kv.1 = k)) = ds.any fun kv => decide (kv.1 = k)
  | [], _, h => by cases h; rfl
  | _ :: ds, _, h => by cases h with | cons h1 h2 => simp [DpK.any k h2]
theorem DpK.repl (k : Key) {y : V} {d : D} (hy : Dp g A B H y d) : ∀ {ds : List (Key × D)} {vs : List (Key × V)}, DpK g A B H vs ds →
    DpK g A B H (vs.map fun kv => if kv.1 = k then (kv.1, y) else kv) (ds.map fun kv => if kv.1 = k then (kv.1, d) else kv)
  | [], _, h => by cases h; exact .nil
  | (k', d') :: ds, _, h => by
    cases h with
    | cons h1 h2 =>
      simp only [List.map_cons]
      by_cases e : k' = k
      · rw [if_pos e, if_pos e]; exact .cons hy (DpK.repl k hy h2)
      · rw [if_neg e, if_neg e]; exact .cons h1 (DpK.repl k hy h2)
theorem DpK.put {ds : List (Key × D)} {vs : List (Key × V)} (k : Key) {y : V} {d : D} (h : DpK g A B H vs ds) (hy : Dp g A B H y d) : DpK g A B H (putK vs k y) (putKD ds k d) := by
  unfold putK putKD
  rw [h.any k]
  split
  · exact h.repl k hy
  · exact h.append (.cons hy .nil)
theorem DpK.keyL : ∀ {ds : List (Key × D)} {vs : List (Key × V)}, DpK g A B H vs ds → DpL g A B H (vs.map fun kv => kV kv.1) (ds.map fun kv => dKey kv.1)
  | [], _, h => by cases h; exact .nil
  | (k, d) :: ds, _, h => by
    cases h with
    | cons h1 h2 =>
      refine .cons ?_ (DpK.keyL h2)
      cases k with
      | inl i => exact .int i
      | inr x => exact .str x
end
/-! ### reading a dict -/
def inK : D → D → Option D
  | x, .dic kvs => match keyD x with
    | some k => some (.bl (valD kvs k).isSome)
    | none => none
  | _, _ => none
def ninK : D → D → Option D
  | x, .dic kvs => match keyD x with
    | some k => some (.bl !(valD kvs k).isSome)
    | none => none
  | _, _ => none
def getK : D → D → Option D
  | .dic kvs, x => match keyD x with
    | some k => valD kvs k
    | none => none
  | _, _ => none
def lenK : D → Option D
  | .dic kvs => some (.int kvs.length)
  | _ => none
theorem dget_of {g : G} {A : Ad} {B : Addr → Prop} {H : Hp} {x y : V} {d : D} {kvs : List (Key × D)} {k : Key} (hx : Vw g A B H x (.dic kvs)) (hy : Vw g A B H y d) (e : keyD d = some k) :
    ∃ a o, x = .ref a ∧ DGet H a y o ∧ (valD kvs k).isSome = o.isSome ∧ ∀ c, valD kvs k = some c → ∃ v, o = some v ∧ Dp g A B H v c := by
  obtain ⟨a, vs, rfl, hp, l⟩ := hx
  refine ⟨a, valV vs k, rfl, .inl ⟨vs, k, hp, keyD_V e hy, rfl⟩, ?_⟩
  rcases l.val k with ⟨h1, h2⟩ | ⟨c, v, h1, h2, h3⟩
  · exact ⟨by rw [h1, h2]; rfl, fun c h => by rw [h1] at h; cases h⟩
  · exact ⟨by rw [h1, h2]; rfl, fun c' h => by rw [h1] at h; cases h; exact ⟨v, h2, h3⟩⟩
theorem v_inK {g : G} : V2 g (fun y x H Q => ∃ a o, x = .ref a ∧ DGet H a y o ∧ Q (.bl o.isSome) H) inK := by
  intro A B H ω x y a b c Q w ha hb e q
  cases b with
  | dic kvs =>
    simp only [inK] at e
    cases hk : keyD a with
    | none => simp only [hk] at e; cases e
    | some k =>
      simp only [hk] at e
      cases e
      obtain ⟨p, o, h1, h2, h3, _⟩ := dget_of hb ha hk
      exact ⟨p, o, h1, h2, by rw [← h3]; exact q.now w (.bl _)⟩
  | _ => cases a <;> cases e
theorem v_ninK {g : G} : V2 g (fun y x H Q => ∃ a o, x = .ref a ∧ DGet H a y o ∧ Q (.bl (!o.isSome)) H) ninK := by
  intro A B H ω x y a b c Q w ha hb e q
  cases b with
  | dic kvs =>
    simp only [ninK] at e
    cases hk : keyD a with
    | none => simp only [hk] at e; cases e
    | some k =>
      simp only [hk] at e
      cases e
      obtain ⟨p, o, h1, h2, h3, _⟩ := dget_of hb ha hk
      exact ⟨p, o, h1, h2, by rw [← h3]; exact q.now w (.bl _)⟩
  | _ => cases a <;> cases e
theorem v_getK {g : G} : V2 g (fun x y H Q => ∃ a v, x = .ref a ∧ DGet H a y (some v) ∧ Q v H) getK := by
  intro A B H ω x y a b c Q w ha hb e q
  cases a with
  | dic kvs =>
    simp only [getK] at e
    cases hk : keyD b with
    | none => simp only [hk] at e; cases e
    | some k =>
      simp only [hk] at e
      obtain ⟨p, o, h1, h2, _, h4⟩ := dget_of ha hb hk
      obtain ⟨v, rfl, hv⟩ := h4 c e
      exact ⟨p, v, h1, h2, q.now w hv⟩
  | _ => cases e
theorem v_lenK {g : G} : V1 g (fun x H Q => ∃ a kvs, [x] = [.ref a] ∧ Rd H a (.dK kvs) ∧ Q (.int kvs.length) H) lenK := by
  intro A B H ω x a c Q w ha e q
  cases a with
  | dic kvs =>
    cases e
    obtain ⟨p, vs, rfl, hp, l⟩ := ha
    exact ⟨p, vs, rfl, hp, by rw [l.len]; exact q.now w (.int _)⟩
  | _ => cases e
theorem hu1 {k : Nat} {A : Around} (hr : Room k A) : A.units + 1 < cLine := hu_of hr
section
variable {X : Cx} {g : G} {W : WX} {a b e : Expr} {fa fb fo fk fv : M D} {f : M (List D)} {k : Nat} {p pos pos' p2 : Pos}
theorem call_lenK : CallR X (.builtin "len") (fun xs H Q => ∃ a kvs, xs = [.ref a] ∧ Rd H a (.dK kvs) ∧ Q (.int kvs.length) H) := by
  intro pins s σ H xs us Q I r h
  obtain ⟨a, kvs, rfl, e, q⟩ := h
  obtain ⟨u, rfl, rx⟩ := vals1 r
  cases rx
  exact d_len I e fun t s' I' => ⟨.int kvs.length, H, I', ⟨t, rfl⟩, q⟩
theorem de_lenK (hg : Gl X "len") (hm : X.mg "len" = none) (ha : PE X e (tM g rW W fa)) (he : starEach [e] X.env = (false, eval e X.env) :: starEach [] X.env := by rfl) : PE X (.Call (.Name "len" p) [e] [] pos) (tM g rD W (uo lenK fa)) :=
  de_callB1 call_lenK v_lenK hg hm (by decide +kernel) ha (he := he)
theorem de_inK (hr : Room k X.A) (ha : PE X a (tM g rW W fa)) (hb : PE X b (tM g rW W fb)) (hm : behindInMarks .In b = false := by rfl) : PE X (.Compare a [.In] [b] pos) (tM g rD W (bo inK fa fb)) :=
  (pe_cmp (pc_din (hu1 hr) ha hb) hm).dl (tM_op2 v_inK)
theorem de_ninK (hr : Room k X.A) (ha : PE X a (tM g rW W fa)) (hb : PE X b (tM g rW W fb)) (hm : behindInMarks .NotIn b = false := by rfl) : PE X (.Compare a [.NotIn] [b] pos) (tM g rD W (bo ninK fa fb)) :=
  (pe_cmp (pc_dnotin (hu1 hr) ha hb) hm).dl (tM_op2 v_ninK)
theorem dt_pc {op : CmpOp} {r : R2} {f : D → D → Option D} (ho : PC X op a b (tOp r (tM g rW W fa) (tM g rW W fb))) (hv : V2 g r f) (hm : behindInMarks op b = false) :
    PT X (.Compare a [op] [b] pos) (tM g rB W ((bo f fa fb).bind asB)) :=
  (pt_cmp ho hm).dl fun σ H Q ⟨H0, A, B, ρ, ω, r, fm, e, res⟩ => by
    refine tM_op2 hv σ H _ (tM_mono (tM_bind fm e res) fun x H1 ⟨A1, B1, ω1, d1, t1, fm1, r1, e1, res1⟩ => ?_)
    unfold asB at e1
    cases d1 with
    | bl k =>
      cases e1
      cases r1
      exact ⟨k, rfl, res1 k A1 B1 H1 (.refl _ _ _) fm1.wo rfl⟩
    | _ => cases e1
theorem dt_inK (hr : Room k X.A) (ha : PE X a (tM g rW W fa)) (hb : PE X b (tM g rW W fb)) (hm : behindInMarks .In b = false := by rfl) : PT X (.Compare a [.In] [b] pos) (tM g rB W (tst (bo inK fa fb))) :=
  dt_pc (pc_din (hu1 hr) ha hb) v_inK hm
theorem dt_ninK (hr : Room k X.A) (ha : PE X a (tM g rW W fa)) (hb : PE X b (tM g rW W fb)) (hm : behindInMarks .NotIn b = false := by rfl) : PT X (.Compare a [.NotIn] [b] pos) (tM g rB W (tst (bo ninK fa fb))) :=
  dt_pc (pc_dnotin (hu1 hr) ha hb) v_ninK hm
theorem de_getK (hr : Room k X.A) (ha : PE X a (tM g rW W fa)) (hb : PE X b (tM g rW W fb)) (hs : NoSl b := by exact fun _ _ => rfl) : PE X (.Subscript a b pos) (tM g rD W (bo getK fa fb)) :=
  (pe_dget (hu1 hr) ha hb hs).dl (tM_op2 v_getK)
end
/-! ### new things of the store -/
theorem store_cell {g : G} {A : Ad} {B : Addr → Prop} {H : Hp} {ω : List Cell} {p : Addr} {u : HO} {c : Cell} (w : Wo g A B H ω) (hx : H p = none)
    (ok : ∀ A' B' H', Mv A B H A' B' H' → H' p = some u → CellOk g A' B' H' p c) :
    Stp A B H (A ++ [some p]) (fun a => B a ∨ a = p) (upd H p u) ∧ Wo g (A ++ [some p]) (fun a => B a ∨ a = p) (upd H p u) (ω ++ [c]) ∧ Dp g (A ++ [some p]) (fun a => B a ∨ a = p) (upd H p u) (.ref p) (.oid ω.length) := by
  have old : ∀ b o, H b = some o → upd H p u b = some o := fun b o e => by rw [upd_ne (ne_of_none e hx)]; exact e
  have nlx : ¬ Liv A p := fun z => by
    obtain ⟨o, e⟩ := w.bnd p (w.liv p z)
    rw [hx] at e; cases e
  have st : Stp A B H (A ++ [some p]) (fun a => B a ∨ a = p) (upd H p u) := by
    refine ⟨fun a o e _ => old a o e, fun a o e _ => ⟨fun z => z.elim id fun z => (ne_of_none e hx z).elim, .inl⟩, fun a z => ?_, fun k y e => .inl ?_, fun a o e => ⟨o, old a o e⟩, fun a o u e => old a _ e⟩
    · rcases List.mem_append.mp z with z | z
      · exact .inl z
      · have : a = p := by simpa using z
        exact .inr (by rw [this]; exact hx)
    · rw [List.getElem?_append_left (List.getElem?_eq_some_iff.mp e).1]; exact e
  have m : Mv A B H (A ++ [some p]) (fun a => B a ∨ a = p) (upd H p u) := w.mv st
  refine ⟨st, ⟨by simp [w.len], fun i j a ei ej => ?_, fun a z => ?_, fun a z => ?_, fun k c' e => ?_⟩, .oid (by rw [← w.len]; simp)⟩
  · have fix : ∀ (i : Nat) (a : Addr), (A ++ [some p])[i]? = some (some a) → (A[i]? = some (some a)) ∨ (i = A.length ∧ a = p) := fun i a e => by
      by_cases h : i < A.length
      · rw [List.getElem?_append_left h] at e; exact .inl e
      · rw [List.getElem?_append_right (Nat.le_of_not_lt h)] at e
        have hi : i - A.length = 0 := by
          cases q : i - A.length with
          | zero => rfl
          | succ n => rw [q] at e; simp at e
        rw [hi] at e
        have : p = a := by simpa using e
        exact .inr ⟨by omega, this.symm⟩
    rcases fix i a ei with h1 | ⟨h1, h2⟩
    · rcases fix j a ej with h3 | ⟨h3, h4⟩
      · exact w.inj i j a h1 h3
      · exact (nlx (by rw [← h4]; exact Liv.of h1)).elim
    · rcases fix j a ej with h3 | ⟨h3, h4⟩
      · exact (nlx (by rw [← h2]; exact Liv.of h3)).elim
      · rw [h1, h3]
  · rcases List.mem_append.mp z with z | z
    · exact .inl (w.liv a z)
    · exact .inr (by simpa using z)
  · rcases z with z | z
    · obtain ⟨o, e⟩ := w.bnd a z
      exact ⟨o, old a o e⟩
    · exact ⟨_, by rw [z]; exact upd_same⟩
  · by_cases h : k < ω.length
    · rw [List.getElem?_append_left h] at e
      rcases w.cell k c' e with ⟨h1, h2⟩ | ⟨a, h1, h2⟩
      · exact .inl ⟨h1, by rw [List.getElem?_append_left (by rw [w.len]; exact h)]; exact h2⟩
      · exact .inr ⟨a, by rw [List.getElem?_append_left (by rw [w.len]; exact h)]; exact h1, h2.mv m fun o e => old a o e⟩
    · rw [List.getElem?_append_right (Nat.le_of_not_lt h)] at e
      have hk : k - ω.length = 0 := by
        cases q : k - ω.length with
        | zero => rfl
        | succ n => rw [q] at e; simp at e
      rw [hk] at e
      have ec : c = c' := by simpa using e
      subst ec
      have ek : k = A.length := by rw [w.len]; omega
      exact .inr ⟨p, by rw [ek]; simp, ok _ _ _ m upd_same⟩
/-- dict(d) -/
def dictM (x : D) : M D := fun _ ω => match view ω x with
  | some (.dic kvs) => some (.val (.oid ω.length) (ω ++ [Cell.dic kvs]))
  | _ => none
def newS (ds : List D) : M D := fun _ ω => some (.val (.oid ω.length) (ω ++ [Cell.lst ds]))
def dict0 : M D := fun _ ω => some (.val (.oid ω.length) (ω ++ [Cell.dic []]))
section
variable {X : Cx} {g : G} {W : WX} {n : En} {a b e o i : Expr} {fa fb fo fk fv fi : M D} {f : M (List D)} {k : Nat} {p pos pos' p2 apos : Pos}
theorem de_dictK (hg : Gl X "dict") (hm : X.mg "dict" = none) (ha : PE X e (tM g rW W fa)) (he : starEach [e] X.env = (false, eval e X.env) :: starEach [] X.env := by rfl) : PE X (.Call (.Name "dict" p) [e] [] pos) (tM g rD W (fa.bind dictM)) :=
  (pe_callTy call_dictD hg hm (by decide +kernel) (pa_cons ha pa_nil he) (he := he)).dl fun σ H Q ⟨H0, A, B, ρ, ω, r, fm, e, res⟩ => by
    refine tM_mono (tM_bind fm e res) fun x H1 ⟨A1, B1, ω1, d1, t1, fm1, r1, e1, res1⟩ => ?_
    unfold dictM at e1
    split at e1
    · rename_i kvs ev
      cases e1
      obtain ⟨q, vs, rfl, hp, l⟩ := view_ok fm1.wo r1 ev
      refine ⟨q, vs, rfl, hp, fun y hy => ?_⟩
      obtain ⟨s2, w2, d2⟩ := store_cell (u := .dK vs) (c := .dic kvs) fm1.wo hy fun A' B' H' m h => ⟨vs, h, DpK.mv m _ _ l⟩
      exact res1 _ _ _ _ s2 w2 d2
    · cases e1
theorem de_dict0 : PE X (.Dict [] [] pos) (tM g rD W dict0) :=
  pe_dnewK.dl fun σ H Q ⟨H0, A, B, ρ, ω, r, fm, e, res⟩ => by
    cases e
    intro y hy
    obtain ⟨s2, w2, d2⟩ := store_cell (u := .dK []) (c := .dic []) fm.wo hy fun A' B' H' m h => ⟨[], h, .nil⟩
    exact res _ _ _ _ s2 w2 d2
/-- a new list, kept in the store -/
theorem de_newS (h : PE X e (tN g W f)) : PE X e (tM g rD W (f.bind newS)) := h.dl fun σ H Q ⟨H0, A, B, ρ, ω, r, fm, e, res⟩ => by
  unfold M.bind at e
  cases q : f ρ ω with
  | none => rw [q] at e; cases e
  | some z =>
    rw [q] at e
    cases z with
    | exc x ω' =>
      cases e
      exact ⟨H0, A, B, ρ, ω, _, fm, q, res⟩
    | val ds ω' =>
      cases e
      refine ⟨H0, A, B, ρ, ω, _, fm, q, fun p vs A' B' H' t w hp l hb nl h0 => ?_⟩
      obtain ⟨w2, m2, s2⟩ := store_lst w hp l hb nl
      exact res (.ref p) _ _ H' (s2 A B H t h0) w2 (.oid (by rw [← w.len]; simp))
/-- list(d) -/
def listK (x : D) : M (List D) := fun _ ω => match view ω x with
  | some (.dic kvs) => some (.val (kvs.map fun kv => dKey kv.1) ω)
  | _ => none
theorem dn_listK (hc : X.calm = true) (hg : Gl X "list") (hm : X.mg "list" = none) (ha : PE X e (tM g rW W fa)) (he : starEach [e] X.env = (false, eval e X.env) :: starEach [] X.env := by rfl) : PE X (.Call (.Name "list" p) [e] [] pos) (tN g W (fa.bind listK)) :=
  (pe_callTy (call_listD hc) hg hm (by decide +kernel) (pa_cons ha pa_nil he) (he := he)).dl fun σ H Q ⟨H0, A, B, ρ, ω, r, fm, e, res⟩ => by
    refine tM_mono (tN_bind fm e res) fun x H1 ⟨A1, B1, ω1, d1, t1, fm1, r1, e1⟩ => ?_
    unfold listK at e1
    split at e1
    · rename_i kvs ev
      cases e1
      obtain ⟨q, vs, rfl, hp, l⟩ := view_ok fm1.wo r1 ev
      exact ⟨q, vs, rfl, hp, res.of t1 fm1.wo l.keyL⟩
    · cases e1
/-- d[k] = v -/
def dputS (fo fk fv : M D) : MS := bindS fv fun d => bindS fo fun o => bindS fk fun i ρ ω => match o, keyD i with
  | .oid k, some key => (match ω[k]? with
    | some (.dic kvs) => if kvs.length < 1000 then some (.nx ρ (ω.set k (Cell.dic (putKD kvs key d)))) else none
    | _ => none)
  | _, _ => none
theorem ds_dput (hr : Room k X.A) (hv : PE X e (tM g rD W fv)) (ho : PE X o (tM g rD W fo)) (hi : PE X i (tM g rD W fk)) (hs : swapsWith e (some (.Subscript o i pos')) pos.line X.env = pure false := by rfl) :
    PS X (.Assign [.Subscript o i pos'] e pos) (tS g n W (dputS fo fk fv)) :=
  (ps_dput (hu1 hr) ho hi hv hs).dl fun D σ H ⟨A, B, ρ, ω, r, s, fm, e, res⟩ => by
    refine tM_mono (tS_bind s fm e res) fun v H1 ⟨A1, B1, ω1, d1, t1, m1, s1, fm1, r1, e1, res1⟩ => ?_
    refine tM_mono (tS_bind s1 fm1 e1 res1) fun x H2 ⟨A2, B2, ω2, d2, t2, m2, s2, fm2, r2, e2, res2⟩ => ?_
    refine tM_mono (tS_bind s2 fm2 e2 res2) fun y H3 ⟨A3, B3, ω3, d3, t3, m3, s3, fm3, r3, e3, res3⟩ => ?_
    have hx := Dp.mv m3 _ _ r2
    have hv := Dp.mv (m2.trans m3) _ _ r1
    cases d2 with
    | oid kk =>
      cases hk : keyD d3 with
      | none => simp only [hk] at e3; cases e3
      | some key =>
        simp only [hk] at e3
        cases hq : ω3[kk]? with
        | none => simp only [hq] at e3; cases e3
        | some c =>
          cases c with
          | dic kvs =>
            simp only [hq] at e3
            split at e3
            · rename_i hz
              cases e3
              have hcell : ∃ a, x = .ref a ∧ A3[kk]? = some (some a) ∧ CellOk g A3 B3 H3 a (.dic kvs) := by
                rcases fm3.wo.cell kk _ hq with ⟨z, _⟩ | ⟨a, ha, ok⟩
                · cases z
                · cases hx with
                  | oid e => rw [ha] at e; cases e; exact ⟨a, rfl, ha, ok⟩
                  | ded e => rw [ha] at e; cases e
              obtain ⟨a, rfl, ha, vs, hp, l⟩ := hcell
              have hl : vs.length < sizeLine := by rw [l.len, sizeLine_eq]; omega
              refine ⟨a, _, rfl, .inl ⟨vs, key, hp, keyD_P hk r3, hl, rfl⟩, ?_⟩
              obtain ⟨fm4, m4⟩ := fm3.cellW (u := .dK (putK vs key v)) (c := .dic (putKD kvs key d1)) ha (frz_not hp) fun H' _ hu m => ⟨_, hu, DpK.mv m _ _ (l.put key hv)⟩
              exact res3.next m4 (s3.cellW (Liv.of ha) (frz_not hp)) fm4
            · cases e3
          | _ => simp only [hq] at e3; cases e3
    | _ => simp only at e3; cases e3
end
/-! ### sorted of texts -/
def leS (x y : Str) : Bool := !PySem.Spec.ltCps y.cps.toList x.cps.toList
def sortS (xs : List Str) : List Str := xs.mergeSort leS
def strsD : List D → Option (List Str)
  | [] => some []
  | .str x :: r => (strsD r).map (x :: ·)
  | _ :: _ => none
theorem strsD_eq : ∀ {ds : List D} {xs : List Str}, strsD ds = some xs → ds = xs.map D.str
  | [], _, e => by cases e; rfl
  | .str x :: r, ys, e => by
    simp only [strsD] at e
    cases q : strsD r with
    | none => rw [q] at e; cases e
    | some zs =>
      rw [q] at e
      cases e
      rw [strsD_eq q]; rfl
  | .non :: _, _, e => by cases e
  | .bl _ :: _, _, e => by cases e
  | .int _ :: _, _, e => by cases e
  | .tup _ :: _, _, e => by cases e
  | .lst _ :: _, _, e => by cases e
  | .dic _ :: _, _, e => by cases e
  | .obj _ _ :: _, _, e => by cases e
  | .oid _ :: _, _, e => by cases e
  | .scr _ :: _, _, e => by cases e
theorem strsD_map : ∀ xs : List Str, strsD (xs.map D.str) = some xs
  | [] => rfl
  | x :: r => by simp only [List.map_cons, strsD, strsD_map r]; rfl
theorem DpL.strs_eq {g : G} {A : Ad} {B : Addr → Prop} {H : Hp} : ∀ {xs : List Str} {vs : List V}, DpL g A B H vs (xs.map D.str) → vs = xs.map V.str
  | [], _, h => by cases h; rfl
  | x :: r, _, h => by
    cases h with
    | cons h1 h2 => cases h1; rw [DpL.strs_eq h2]; rfl
end DL
/-! DL35: sorted of texts, list.index, x[i] = v of a list of the store, C() whose __init__ puts dict(rows) of its default. -/
namespace DL
open PySem L2
theorem leS_iff (x y : Str) : leS x y = true ↔ x.cps.toList ≤ y.cps.toList := by
  unfold leS
  rw [PyProof.Rows.ltCps_eq, ← List.not_lt]
  simp
theorem leS_trans (a b c : Str) (h : leS a b = true) (k : leS b c = true) : leS a c = true := by
  rw [leS_iff] at *
  exact List.le_trans h k
theorem leS_total (a b : Str) : (leS a b || leS b a) = true := by
  rw [Bool.or_eq_true, leS_iff, leS_iff]
  exact List.le_total _ _
theorem leS_anti {a b : Str} (h : leS a b = true) (k : leS b a = true) : a = b := by
  rw [leS_iff] at *
  have := List.le_antisymm h k
  cases a; cases b
  congr
  exact Array.toList_inj.mp this
theorem rising_pair : ∀ (ys : List Str) (p : Str), PyProof.Rows.risingS p ys = true → (p :: ys).Pairwise (fun a b => leS a b = true)
  | [], p, _ => List.pairwise_singleton _ _
  | x :: r, p, h => by
    simp only [PyProof.Rows.risingS, Bool.and_eq_true] at h
    have ih := rising_pair r x h.2
    refine List.pairwise_cons.mpr ⟨fun z hz => ?_, ih⟩
    rcases List.mem_cons.mp hz with rfl | hz
    · exact h.1
    · exact leS_trans _ _ _ h.1 ((List.pairwise_cons.mp ih).1 z hz)
theorem sorted_pair {ys : List Str} (h : PyProof.Rows.sortedS ys = true) : ys.Pairwise (fun a b => leS a b = true) := by
  cases ys with
  | nil => exact .nil
  | cons x r => exact rising_pair r x h
theorem sort_uniq {xs ys : List Str} (p : ys.Perm xs) (h : PyProof.Rows.sortedS ys = true) : ys = sortS xs :=
  List.Perm.eq_of_pairwise (fun a b _ _ h k => leS_anti h k) (sorted_pair h) (List.pairwise_mergeSort leS_trans leS_total xs) (p.trans (List.mergeSort_perm xs leS).symm)
theorem sortS_perm (xs : List Str) : (sortS xs).Perm xs := List.mergeSort_perm xs leS
theorem sortS_eq {xs ys : List Str} (p : xs.Perm ys) : sortS xs = sortS ys :=
  List.Perm.eq_of_pairwise (fun a b _ _ h k => leS_anti h k) (List.pairwise_mergeSort leS_trans leS_total xs) (List.pairwise_mergeSort leS_trans leS_total ys) (((sortS_perm xs).trans p).trans (sortS_perm ys).symm)
/-- sorted(texts) -/
def sortL (x : D) : M (List D) := fun _ ω => match view ω x with
  | some (.lst ds) => match strsD ds with
    | some ss => if ss.length < 64 then some (.val ((sortS ss).map D.str) ω) else none
    | none => none
  | _ => none
section
variable {X : Cx} {g : G} {W : WX} {n : En} {a b e o i : Expr} {fa fb fo fk fv fi : M D} {f : M (List D)} {k : Nat} {p pos pos' p2 apos : Pos}
theorem dn_sort (hK : X.K = g.K) (hg : Gl X "sorted") (hm : X.mg "sorted" = none) (ha : PE X e (tM g rW W fa)) (he : starEach [e] X.env = (false, eval e X.env) :: starEach [] X.env := by rfl) : PE X (.Call (.Name "sorted" p) [e] [] pos) (tN g W (fa.bind sortL)) :=
  (pe_callB cr_sortedS hg hm (by decide +kernel) (pa_cons ha pa_nil he) (he := he)).dl fun σ H Q ⟨H0, A, B, ρ, ω, r, fm, e, res⟩ => by
    refine tM_mono (tN_bind fm e res) fun x H1 ⟨A1, B1, ω1, d1, t1, fm1, r1, e1⟩ => ?_
    unfold sortL at e1
    split at e1
    · rename_i ds ev
      split at e1
      · rename_i ss hs
        split at e1
        · rename_i hz
          cases e1
          obtain ⟨q, vs, rfl, hp, l⟩ := view_ok fm1.wo r1 ev
          have := strsD_eq hs
          subst this
          have := l.strs_eq
          subst this
          refine ⟨q, ss, rfl, SqL.of hp, hz, fun ys y pm so hy => ?_⟩
          rw [sort_uniq pm so]
          exact res.of t1 fm1.wo (DpL.strs _) y hy
        · cases e1
      · cases e1
    · cases e1
/-- xs.index(x) -/
def idxD : D → D → Option D
  | .lst ds, x => if (flat x && ds.all flat) = true then (match ds.findIdx? fun z => eqb z x with | some j => some (.int (j : Nat)) | none => none) else none
  | _, _ => none
def isLst (x : D) : M Unit := fun _ ω => match view ω x with
  | some (.lst _) => some (.val () ω)
  | _ => none
def idxM (fo fa : M D) : M D := fo.bind fun x => (isLst x).bind fun _ => fa.bind fun y => op2 idxD x y
theorem isLst_some {x : D} {ρ : Rho} {ω : List Cell} {α : Type} {k : Unit → M α} {r : R α} (h : ((isLst x).bind k) ρ ω = some r) : ∃ ds, view ω x = some (.lst ds) ∧ k () ρ ω = some r := by
  unfold M.bind isLst at h
  cases ev : view ω x with
  | none => simp only [ev] at h; cases h
  | some d =>
    cases d with
    | lst ds => simp only [ev] at h; exact ⟨ds, rfl, h⟩
    | _ => simp only [ev] at h; cases h
theorem DpL.flats {A : Ad} {B : Addr → Prop} {H : Hp} : ∀ {ds : List D} {vs : List V}, ds.all flat = true → DpL g A B H vs ds → vs.all flatV = true
  | [], _, _, l => by cases l; rfl
  | d :: ds, _, f, l => by
    cases l with
    | cons h1 h2 =>
      simp only [List.all_cons, Bool.and_eq_true] at f ⊢
      exact ⟨flat_dp f.1 (Dp.flatw f.1 h1), DpL.flats f.2 h2⟩
theorem de_index (hK : X.K = g.K) (ho : PE X o (tM g rW W fo)) (ha : PE X e (tM g rW W fa)) (hbase : attributeBase o "index" X.env (eval o X.env) = eval o X.env := by rfl)
    (hfew : ((backTo pos (starEach [e] X.env)).all (fun x => !x.1) && (backToKw pos (keywordEach [] X.env)).all (fun x => x.1.isSome)
      && decide ([e].length + ([] : List Keyword).length + (if ([] : List Keyword).isEmpty then 0 else 1) < 30)) = true := by rfl)
    (hline : (apos.endLine == pos.line) = true := by rfl) (hst : starEach [e] X.env = (false, eval e X.env) :: starEach [] X.env := by rfl) (hplain : (backTo pos (starEach [] X.env)).any (·.1) = false := by rfl) :
    PE X (.Call (.Attribute o "index" apos) [e] [] pos) (tM g rD W (idxM fo fa)) :=
  (pe_bm PySem.F.plainAttrs_list PySem.F.slot_list_index PySem.F.type_list_index mt_index ho (pa_cons ha pa_nil hst) hbase hfew hline hst hplain).dl fun σ H Q ⟨H0, A, B, ρ, ω, r, fm, e, res⟩ => by
    refine tM_mono (tM_bind fm e res) fun x H1 ⟨A1, B1, ω1, d1, t1, fm1, r1, e1, res1⟩ => ?_
    obtain ⟨ds0, ev0, e1⟩ := isLst_some e1
    obtain ⟨q0, vs0, rfl, hp0, l0⟩ := view_ok fm1.wo r1 ev0
    refine ⟨.inl ⟨rfl, vs0, SqL.of hp0⟩, ?_⟩
    refine tM_mono (tM_bind fm1 e1 res1) fun y H2 ⟨A2, B2, ω2, d2, t2, fm2, r2, e2, res2⟩ => ?_
    obtain ⟨x', y', z, h1, h2, h3, rfl⟩ := op2_some e2
    have vx := view_ok fm2.wo (r1.up fm1.wo t2) h1
    have vy := view_ok fm2.wo r2 h2
    cases x' with
    | lst ds =>
      simp only [idxD] at h3
      split at h3
      · rename_i hf
        rw [Bool.and_eq_true] at hf
        split at h3
        · rename_i j hj
          cases h3
          obtain ⟨q, vs, eq, hp, l⟩ := vx
          cases eq
          obtain ⟨hjl, hj1, hj2⟩ := List.findIdx?_eq_some_iff_getElem.mp hj
          obtain ⟨v, hv, dv⟩ := l.get (List.getElem?_eq_getElem hjl)
          have fj : flat ds[j] = true := List.all_eq_true.mp hf.2 _ (List.getElem_mem hjl)
          refine ⟨q0, vs, y, j, v, rfl, rfl, by rw [hK]; exact SqL.of hp, flat_dp hf.1 vy, l.flats hf.2, hv, ?_, fun m z' hm hz => ?_, res2 _ A2 B2 H2 (.refl _ _ _) fm2.wo (.int _)⟩
          · rw [eqV_flat fj hf.1 (Dp.flatw fj dv) vy]; exact hj1
          · obtain ⟨d', hd', dd'⟩ := l.getV hz
            have hml : m < ds.length := Nat.lt_trans hm hjl
            rw [List.getElem?_eq_getElem hml] at hd'
            cases hd'
            have fm' : flat ds[m] = true := List.all_eq_true.mp hf.2 _ (List.getElem_mem hml)
            rw [eqV_flat fm' hf.1 (Dp.flatw fm' dd') vy]
            exact Bool.eq_false_iff.mpr (hj2 m hm)
        · cases h3
      · cases h3
    | _ => cases h3
/-- o[i] = v, o a list of the store -/
def putLS (fo fi fv : M D) : MS := bindS fv fun d => bindS fo fun o => bindS fi fun i ρ ω => match o, i with
  | .oid k, .int z => (match ω[k]? with
    | some (.lst ds) => (match ixN ds.length z with
      | some j => some (.nx ρ (ω.set k (Cell.lst (ds.set j d))))
      | none => none)
    | _ => none)
  | _, _ => none
theorem ds_putLS (he : PE X e (tM g rD W fv)) (ho : PE X o (tM g rD W fo)) (hi : PE X i (tM g rD W fi))
    (hs : swapsWithSole [.Subscript o i p2] e pos.line X.env = pure false := by rfl) (hw : swappedStores [.Subscript o i p2] e X.env = pure none := by rfl) (h1 : (assignEach [.Subscript o i p2] X.env).map (·.2) = [assign (.Subscript o i p2) X.env] := by rfl)
    (ha : ∀ v, assign (.Subscript o i p2) X.env v = (do
      let ov ← holding [v] (eval o X.env)
      let iv ← holding [v, ov] (eval i X.env)
      standAt p2
      holding [v, ov, iv] (setItem ov iv v)
      release [v, ov, iv] []) := by intro _; rfl) :
    PS X (.Assign [.Subscript o i p2] e pos) (tS g n W (putLS fo fi fv)) :=
  (ps_asg he (pg_sub ho hi set_list ha) hs hw h1).dl fun D σ H ⟨A, B, ρ, ω, r, s, fm, e, res⟩ => by
    refine tM_mono (tS_bind s fm e res) fun v H1 ⟨A1, B1, ω1, d1, t1, m1, s1, fm1, r1, e1, res1⟩ => ?_
    refine tM_mono (tS_bind s1 fm1 e1 res1) fun x H2 ⟨A2, B2, ω2, d2, t2, m2, s2, fm2, r2, e2, res2⟩ => ?_
    refine tM_mono (tS_bind s2 fm2 e2 res2) fun y H3 ⟨A3, B3, ω3, d3, t3, m3, s3, fm3, r3, e3, res3⟩ => ?_
    have hx := Dp.mv m3 _ _ r2
    have hv := Dp.mv (m2.trans m3) _ _ r1
    cases d2 with
    | oid kk =>
      cases d3 with
      | int z =>
        simp only at e3
        cases hq : ω3[kk]? with
        | none => simp only [hq] at e3; cases e3
        | some c =>
          cases c with
          | lst ds =>
            simp only [hq] at e3
            cases hj : ixN ds.length z with
            | none => simp only [hj] at e3; cases e3
            | some j =>
              simp only [hj] at e3
              cases e3
              have hcell : ∃ a, x = .ref a ∧ A3[kk]? = some (some a) ∧ CellOk g A3 B3 H3 a (.lst ds) := by
                rcases fm3.wo.cell kk _ hq with ⟨z, _⟩ | ⟨a, ha, ok⟩
                · cases z
                · cases hx with
                  | oid e => rw [ha] at e; cases e; exact ⟨a, rfl, ha, ok⟩
                  | ded e => rw [ha] at e; cases e
              obtain ⟨a, rfl, ha, vs, hp, l⟩ := hcell
              cases r3
              refine ⟨a, vs, z, j, rfl, rfl, hp, by rw [l.length]; exact hj, ?_⟩
              obtain ⟨fm4, m4⟩ := fm3.cellW (u := .lst (vs.set j v)) (c := .lst (ds.set j d1)) ha (frz_not hp) fun H' _ hu m => ⟨_, hu, DpL.mv m _ _ (l.set j hv)⟩
              exact res3.next m4 (s3.cellW (Liv.of ha) (frz_not hp)) fm4
          | _ => simp only [hq] at e3; cases e3
      | _ => simp only at e3; cases e3
    | _ => simp only at e3; cases e3
end
/-! ### C() whose __init__ puts dict(rows), rows left out: () -/
def KT0 (K : PySem.W.Frag) (a : Addr) : Prop := ∃ (o : Obj) (n : Nat), K.lookup a = some o ∧ o.cls = .type "tuple" ∧ o.dict = none ∧ o.data = .seq #[] n
theorem call_dictT {X : Cx} {T0 : Addr} (hcalm : X.calm = true) (h0 : KT0 X.K T0) : CallR X (.type "dict") (fun xs H Q => xs = [.ref T0] ∧ ∀ p, H p = none → Q (.ref p) (upd H p (.dK []))) := by
  intro pins s σ H xs us Q I r q
  obtain ⟨rfl, q⟩ := q
  obtain ⟨u, rfl, rx⟩ := vals1 r
  cases rx
  obtain ⟨o, n, hk, hc, hd, hdat⟩ := h0
  have ho : s.heap.get? T0 = some o := I.kIn T0 o hk
  refine call_dict_pairs (knd := mixKind X.prog X.w) (kvs := []) (PairArg.tuple T0 #[] (fun _ => 0) []) (I.ok.hd hcalm) ⟨⟨o, n, ho, hc, hd, hdat⟩, ⟨rfl, fun j k v e => by simp at e⟩⟩ ⟨rfl, fun i key v e => nomatch (show (none : Option (Value × Value)) = some (key, v) from e)⟩ (Nat.zero_le _) fun h' tk hd' hk' => ?_
  have hm : (s.heap.objs.size == sysModules) = false := beq_eq_false_iff_ne.mpr (Nat.ne_of_gt I.big)
  exact ⟨.ref s.heap.objs.size, upd H s.heap.objs.size (.dK []), I.laid (t' := tk) (fun b u e => hk' b u (by simp) e) (Nat.le_refl _)
    (show ObjOk X.prog X.w _ _ _ (.dK []) from ⟨Nat.zero_le _, hm, [], .nil, hd'⟩), rfl, q _ (I.hok.fresh (Nat.le_refl _))⟩
/-- what such an __init__ does -/
def sp0 (C T0 : Addr) (f : Str) : Sp := fun vs H Q _ => ∃ x dx, vs = [.ref x, .ref T0] ∧ H x = some (.ins C dx []) ∧ ∀ p, H p = none → Q .non (upd (upd H p (.dK [])) x (.ins C dx [(f, .ref p)]))
structure CalG0 (P : Program) (w : World) (K : PySem.W.Frag) (mg : Str → Option Value) (base : Heap) (c f : Str) (ps : List Str) (k : Nat) : Prop where
  ex : ∃ C fI fd T0 ds, mg c = some (.ref C) ∧ Mk K C fI ∧ Vals [V.ref T0] ds ∧ Binds K fd ps ds ∧ FnOk P w K mg base CX0 k fI fd ps (sp0 C T0 f)
/-- the text of such an __init__ -/
structure FI0 (K : PySem.W.Frag) (mg : Str → Option Value) (c f qual : Str) (st : Stmt) : Prop where
  ex : ∃ C fI fd T0, mg c = some (.ref C) ∧ Mk K C fI ∧ Cls K C ∧ NoAttr K C f ∧ FunD K "__init__" qual (defArgs st) (defBody st) (defScope st) [V.ref T0] [] fI fd ∧ KT0 K T0
theorem calG0_of {P : Program} {w : World} {K : PySem.W.Frag} {mg : Str → Option Value} {base : Heap} {c f qual : Str} {st : Stmt} {N ps : List Str} (T : FI0 K mg c f qual st) (S : FnScope N ps (defScope st)) (hN : N.length = 2) (hps : ps.length = 2)
    (b : ∀ a fd (T0 : Addr), FunD K "__init__" qual (defArgs st) (defBody st) (defScope st) [V.ref T0] [] a fd → ∃ ds, Vals [V.ref T0] ds ∧ Binds K fd ps ds)
    (h : ∀ (T0 fI : Addr) (cdv : Value) (A : Around) (outer : List PySem.Env) (s : Shared) (H : Hp) (E : XK), KT0 K T0 → ∃ td, PSs (cxOf CX0 P w K mg base N qual (defScope st) fI cdv A outer s H E) (defBody st) (sFld K (tVar 0) td f) ∧ ∀ σ H Q, σ[1]? = some (some (.ref T0)) → (∀ p, H p = none → Q (.ref p) (upd H p (.dK []))) → td σ H Q) :
    CalG0 P w K mg base c f ps 1 := by
  obtain ⟨C, fI, fd, T0, h1, h2, h3, h4, h5, h6⟩ := T.ex
  obtain ⟨ds, hv, hb⟩ := b fI fd T0 h5
  refine ⟨C, fI, fd, T0, ds, h1, h2, hv, hb, h5.ok S (fun vs H Q E ⟨x, dx, e, _⟩ => by rw [e, hps]; rfl) fun cdv A outer s H vs Q E hr ⟨x, dx, e, hx, q⟩ => ?_⟩
  obtain ⟨td, g1, g2⟩ := h T0 fI cdv A outer s H E h6
  refine ⟨_, g1, ?_⟩
  subst e
  match N, hN with
  | [n0, n1], _ =>
    refine g2 _ _ _ rfl fun p hp => ?_
    refine ⟨.ref x, rfl, x, C, dx, [], rfl, ?_, h3, h4, by simp, q p hp⟩
    rw [upd_ne (ne_of_none hx hp)]
    exact hx
/-- C() -/
def mk0 (c f : Str) : M D := fun _ ω => some (.val (.oid ω.length) (ω ++ [Cell.obj c [(f, .oid (ω.length + 1))], Cell.dic []]))
theorem de_mk0 {X : Cx} {W : WX} {c f : Str} {p pos : Pos} {k j : Nat} {ps : List Str} (cg : CalG0 X.prog X.w X.K X.mg X.base c f ps k) (hr : Room j X.A) (hj : k + 1 ≤ j) (hg : Gl X c) (hdb : (c == ("__debug__" : Str)) = false := by decide) :
    PE X (.Call (.Name c p) [] [] pos) (tM ⟨X.K, X.mg⟩ rD W (mk0 c f)) := by
  obtain ⟨C, fI, fd, T0, ds, h1, h2, hv, h3, h4⟩ := cg.ex
  refine (pe_make0 (E := E0) h2 h4 (hr.mono hj) hg h1 h3 hv pass0 hdb).dl ?_
  rintro σ H Q ⟨H0, A, B, ρ, ω, r, fm, e, res⟩
  cases e
  intro x dx hx hd ne
  obtain ⟨st, wo⟩ := store_new (c := c) fm.wo hx hd ne h1
  refine ⟨x, dx, rfl, upd_same, fun y hy => ?_⟩
  obtain ⟨s2, w2, d2⟩ := store_cell (u := .dK []) (c := .dic []) wo hy fun A' B' H' m h => ⟨[], h, .nil⟩
  have hl : A.length = ω.length := fm.wo.len
  have ha : (A ++ [some x] ++ [some y])[ω.length]? = some (some x) := by rw [← hl]; simp
  have fm2 := fm.up (st.trans s2) w2
  have hxx : upd (upd (upd H dx (.own x)) x (.ins C dx [])) y (.dK []) x = some (.ins C dx []) := by
    rw [upd_ne (fun z => by rw [← z, upd_same] at hy; cases hy)]; exact upd_same
  obtain ⟨fm3, m3⟩ := fm2.cellW (u := .ins C dx [(f, .ref y)]) (c := .obj c [(f, .oid (ω.length + 1))]) ha (frz_not hxx) fun H' _ hu m => ⟨C, dx, _, hu, h1, .cons (Dp.mv m _ _ (by simpa using d2)) .nil⟩
  have ew : (ω ++ [Cell.obj c []] ++ [Cell.dic []]).set ω.length (.obj c [(f, .oid (ω.length + 1))]) = ω ++ [.obj c [(f, .oid (ω.length + 1))], .dic []] := by simp
  rw [ew] at fm3
  exact ⟨rfl, res (.ref x) _ _ _ ((st.trans s2).cellW (Liv.of ha) (frz_not hxx)) fm3.wo (.oid ha)⟩
end DL
/-! DL36: steps for things of the store, dicts, own special methods. -/
namespace DL
open PySem L2
section
variable {m c : Str} {T : List (Str × Fn)} {o i x y d : D} {ds xs ys : List D} {fs : List (Str × D)} {Gf : Fn} {ρ : Rho} {ω ω1 ω2 ω3 ω4 ω' : List Cell} {fo fi fv fa fb f : M D} {fl : M (List D)} {K : MS} {k j n : Nat}
theorem ownM_at (hv : view ω o = some (.obj c fs)) (ht : T.lookup c = some Gf) : ownM m T o ds ρ ω = Gf (o :: ds) ω := by
  unfold ownM; rw [hv]; simp only [ht]; rfl
theorem lenO_at {n : Int} (hf : fo ρ ω = some (.val o ω1)) (hv : view ω1 o = some (.obj c fs)) (ht : T.lookup c = some Gf) (hc : Gf [o] ω1 = some (.val (.int n) ω2)) (h0 : 0 ≤ n) (h1 : n < 2 ^ 63) : lenO T fo ρ ω = some (.val (.int n) ω2) := by
  unfold lenO
  rw [bind_ev hf, bind_ev ((ownM_at hv ht).trans hc)]
  exact if_pos ⟨h0, h1⟩
theorem ixO_at {r : Option (R D)} (hf : fo ρ ω = some (.val o ω1)) (hi : fi ρ ω1 = some (.val i ω2)) (hv : view ω2 o = some (.obj c fs)) (ht : T.lookup c = some Gf) (hc : Gf [o, i] ω2 = r) : ixO T fo fi ρ ω = r := by
  unfold ixO
  rw [bind_ev hf, bind_ev hi]
  exact (ownM_at hv ht).trans hc
theorem inO_at {neg b b' : Bool} (ha : fa ρ ω = some (.val x ω1)) (hb : fb ρ ω1 = some (.val y ω2)) (hv : view ω2 y = some (.obj c fs)) (ht : T.lookup c = some Gf) (hc : Gf [y, x] ω2 = some (.val (.bl b) ω3)) (e : (if neg then !b else b) = b') : inO neg T fa fb ρ ω = some (.val (.bl b') ω3) := by
  unfold inO
  rw [bind_ev ha, bind_ev hb, bind_ev ((ownM_at hv ht).trans hc), ← e]
  rfl
theorem putO_at (hv : fv ρ ω = some (.val d ω1)) (ho : fo ρ ω1 = some (.val o ω2)) (hi : fi ρ ω2 = some (.val i ω3)) (hw : view ω3 o = some (.obj c fs)) (ht : T.lookup c = some Gf) (hc : Gf [o, i, d] ω3 = some (.val x ω4)) : putO T fo fi fv ρ ω = some (.nx ρ ω4) := by
  unfold putO
  rw [bindS_ev hv, bindS_ev ho, bindS_ev hi, bindS_ev ((ownM_at hw ht).trans hc)]
theorem putO_ex {x : Exc} (hv : fv ρ ω = some (.val d ω1)) (ho : fo ρ ω1 = some (.val o ω2)) (hi : fi ρ ω2 = some (.val i ω3)) (hw : view ω3 o = some (.obj c fs)) (ht : T.lookup c = some Gf) (hc : Gf [o, i, d] ω3 = some (.exc x ω4)) : putO T fo fi fv ρ ω = some (.exc x ρ ω4) := by
  unfold putO
  rw [bindS_ev hv, bindS_ev ho, bindS_ev hi, bindS_ex ((ownM_at hw ht).trans hc)]
theorem setN_at (h : fl ρ ω = some (.val ds ω')) : setN i' fl ρ ω = some (.nx (ρ.set i' (.fz (.oid ω'.length))) (ω' ++ [Cell.lst ds])) := by
  unfold setN; rw [bindS_ev h]
theorem appO_at {i : Nat} (hi : ρ[i]? = some (.fz (.oid k))) (hk : ω[k]? = some (.lst xs)) (h : f ρ ω = some (.val d ω')) (hk' : ω'[k]? = some (.lst ys)) (hz : ys.length ≤ 100000) : appO i f ρ ω = some (.nx ρ (ω'.set k (.lst (ys ++ [d])))) := by
  unfold appO
  rw [hi]
  simp only [hk]
  rw [bindS_ev h]
  simp only [hk']
  rw [if_pos (by rw [sizeLine_eq]; omega)]
theorem putLS_at {z : Int} (hv : fv ρ ω = some (.val d ω1)) (ho : fo ρ ω1 = some (.val (.oid k) ω2)) (hi : fi ρ ω2 = some (.val (.int z) ω3)) (hk : ω3[k]? = some (.lst ds)) (hj : ixN ds.length z = some j) : putLS fo fi fv ρ ω = some (.nx ρ (ω3.set k (.lst (ds.set j d)))) := by
  unfold putLS
  rw [bindS_ev hv, bindS_ev ho, bindS_ev hi]
  simp only [hk, hj]
theorem dputS_at {key : Key} {kvs : List (Key × D)} (hv : fv ρ ω = some (.val d ω1)) (ho : fo ρ ω1 = some (.val (.oid k) ω2)) (hi : fi ρ ω2 = some (.val i ω3)) (hq : keyD i = some key) (hk : ω3[k]? = some (.dic kvs)) (hz : kvs.length < 1000) : dputS fo fi fv ρ ω = some (.nx ρ (ω3.set k (.dic (putKD kvs key d)))) := by
  unfold dputS
  rw [bindS_ev hv, bindS_ev ho, bindS_ev hi]
  simp only [hq, hk]
  rw [if_pos hz]
theorem newS_at (h : fl ρ ω = some (.val ds ω')) : (fl.bind newS) ρ ω = some (.val (.oid ω'.length) (ω' ++ [Cell.lst ds])) := bind_ev h
theorem sortL_at {ss : List Str} (hf : f ρ ω = some (.val x ω')) (hv : view ω' x = some (.lst (ss.map D.str))) (hz : ss.length < 64) : (f.bind sortL) ρ ω = some (.val ((sortS ss).map D.str) ω') := by
  rw [bind_ev hf]
  unfold sortL
  rw [hv]
  simp only [strsD_map]
  rw [if_pos hz]
theorem listK_at {kvs : List (Key × D)} (hf : f ρ ω = some (.val x ω')) (hv : view ω' x = some (.dic kvs)) : (f.bind listK) ρ ω = some (.val (kvs.map fun kv => dKey kv.1) ω') := by
  rw [bind_ev hf]
  unfold listK
  rw [hv]
theorem idxM_at {j : Nat} (hf : fo ρ ω = some (.val x ω1)) (hv : view ω1 x = some (.lst xs)) (ha : fa ρ ω1 = some (.val y ω2)) (hv2 : view ω2 x = some (.lst ds)) (hy : view ω2 y = some y) (hfl : (flat y && ds.all flat) = true) (hj : ds.findIdx? (fun z => eqb z y) = some j) : idxM fo fa ρ ω = some (.val (.int (j : Nat)) ω2) := by
  unfold idxM
  rw [bind_ev hf]
  have h1 : isLst x ρ ω1 = some (.val () ω1) := by unfold isLst; rw [hv]
  rw [bind_ev h1, bind_ev ha]
  unfold op2
  rw [hv2, hy]
  have : idxD (.lst ds) y = some (.int (j : Nat)) := by
    show (if (flat y && ds.all flat) = true then (match ds.findIdx? fun z => eqb z y with | some j => some (D.int (j : Nat)) | none => none) else none) = _
    rw [if_pos hfl, hj]
  simp only [this]
end
/-! ### dicts of things by texts -/
theorem valD_append (a b : List (Key × D)) (k : Key) : valD (a ++ b) k = match valD a k with | some d => some d | none => valD b k := by
  induction a with
  | nil => rfl
  | cons p r ih =>
    rw [List.cons_append, valD_cons, valD_cons]
    split
    · rfl
    · exact ih
theorem findIdx_map {α : Type} [DecidableEq α] (f : α → D) (hf : ∀ a b, eqb (f a) (f b) = decide (a = b)) (x : α) : ∀ xs : List α, (xs.map f).findIdx? (fun z => eqb z (f x)) = xs.findIdx? fun z => decide (z = x)
  | [] => rfl
  | a :: r => by
    rw [List.map_cons, List.findIdx?_cons, List.findIdx?_cons, hf, findIdx_map f hf x r]
theorem any_str (x : Str) : ∀ xs : List Str, ((xs.map D.str).any fun z => eqb z (.str x)) = decide (x ∈ xs)
  | [] => rfl
  | a :: r => by
    rw [List.map_cons, List.any_cons, any_str x r]
    show (a == x || decide (x ∈ r)) = _
    by_cases h : a = x
    · subst h; simp
    · have : (a == x) = false := beq_eq_false_iff_ne.mpr h
      rw [this]
      have h' : ¬ x = a := fun e => h e.symm
      simp [h']
theorem str_eqb (a b : Str) : eqb (.str a) (.str b) = decide (a = b) := by
  show (a == b) = decide (a = b)
  by_cases h : a = b
  · simp [h]
  · simp [h]
end DL
/-! DL37: dicts walked (locked meanwhile), own __iter__, dict comprehensions. -/
namespace DL
open PySem L2
/-! ### a dict of the store is locked meanwhile -/
def unlk (k : Nat) : Option RS → Option RS
  | some (.nx ρ ω) => match ω[k]? with
    | some (.ldc kvs) => some (.nx ρ (ω.set k (Cell.dic kvs)))
    | _ => none
  | _ => none
def lockS (f : M D) (F : MS) : MS := fun ρ ω => match f ρ ω with
  | some (.val (.oid k) _) => match ω[k]? with
    | some (.dic kvs) => unlk k (F ρ (ω.set k (Cell.ldc kvs)))
    | _ => none
  | _ => none
theorem unlk_some {k : Nat} {o : Option RS} {r : RS} (h : unlk k o = some r) : ∃ ρ ω kvs, o = some (.nx ρ ω) ∧ ω[k]? = some (.ldc kvs) ∧ r = .nx ρ (ω.set k (Cell.dic kvs)) := by
  cases o with
  | none => cases h
  | some r0 =>
    cases r0 with
    | nx ρ ω =>
      simp only [unlk] at h
      cases q : ω[k]? with
      | none => simp only [q] at h; cases h
      | some c =>
        cases c with
        | ldc kvs => simp only [q] at h; cases h; exact ⟨ρ, ω, kvs, rfl, q, rfl⟩
        | _ => simp only [q] at h; cases h
    | _ => cases h
theorem lockS_some {f : M D} {F : MS} {ρ : Rho} {ω : List Cell} {r : RS} (h : lockS f F ρ ω = some r) : ∃ k kvs, ω[k]? = some (.dic kvs) ∧ unlk k (F ρ (ω.set k (Cell.ldc kvs))) = some r := by
  unfold lockS at h
  cases q : f ρ ω with
  | none => simp only [q] at h; cases h
  | some z =>
    cases z with
    | exc x ω' => simp only [q] at h; cases h
    | val d ω' =>
      cases d with
      | oid k =>
        simp only [q] at h
        cases q2 : ω[k]? with
        | none => simp only [q2] at h; cases h
        | some c =>
          cases c with
          | dic kvs => simp only [q2] at h; exact ⟨k, kvs, q2, h⟩
          | _ => simp only [q2] at h; cases h
      | _ => simp only [q] at h; cases h
section
variable {g : G} {A A' : Ad} {B B' : Addr → Prop} {H H' H0 : Hp} {ω : List Cell} {σ : St} {ρ : Rho} {k : Nat} {a : Addr} {od : Obj} {vs : List (Key × V)} {kvs : List (Key × D)}
theorem Fm.unlock (h : Fm g H0 A B H ω σ ρ) (ha : A[k]? = some (some a)) (hp : H a = some (.frz od (.dK vs))) (l : DpK g A B H vs kvs) : Fm g H0 A B (upd H a (.dK vs)) (ω.set k (.dic kvs)) σ ρ := by
  have hb : B a := h.wo.liv a (Liv.of ha)
  have m : Mv0 A B H A B (upd H a (.dK vs)) := ⟨fun b o nb e => ⟨by rw [upd_ne (fun z => nb (by rw [z]; exact hb))]; exact e, nb⟩, fun _ _ h => .inl h⟩
  refine ⟨⟨by rw [List.length_set]; exact h.wo.len, h.wo.inj, h.wo.liv, fun b hb' => ?_, fun j c' e => ?_⟩, ⟨h.sl.len, fun j s e => ?_, h.sl.own⟩⟩
  · by_cases z : b = a
    · exact ⟨_, by rw [z]; exact upd_same⟩
    · obtain ⟨o, e⟩ := h.wo.bnd b hb'
      exact ⟨o, by rw [upd_ne z]; exact e⟩
  · rcases getElem?_set_cases e with ⟨rfl, hl, rfl⟩ | ⟨ne, e⟩
    · exact .inr ⟨a, ha, vs, upd_same, DpK.mv0 m _ _ l⟩
    · rcases h.wo.cell j c' e with z | ⟨b, h1, h2⟩
      · exact .inl z
      · exact .inr ⟨b, h1, h2.mv0 m fun o q => by rw [upd_ne (fun z => ne (h.wo.inj k j a ha (by rw [← z]; exact h1)))]; exact q⟩
  · have := h.sl.val j s e
    cases s with
    | no => trivial
    | ex p y => exact ⟨this.1, this.2.mv0 m⟩
    | fz d =>
      obtain ⟨v, e1, e2⟩ := this
      exact ⟨v, e1, Dp.mv0 m _ _ e2⟩
    | ow es =>
      obtain ⟨q, ws, e1, e2, e3, e4, e5, e6⟩ := this
      exact ⟨q, ws, e1, by rw [upd_ne (fun z => e5 (by rw [z]; exact Liv.of ha))]; exact e2, DpL.mv0 m _ _ e3, e4, e5, e6⟩
end
theorem ds_lock {X : Cx} {n : En} {W : WX} {g : G} {F : MS} {st : Stmt} (f : M D) (h : PS X st (tS g n W F)) : PS X st (tS g n W (lockS f F)) :=
  (ps_lock h).dl fun D σ H ⟨A, B, ρ, ω, r, s, fm, e, res⟩ => by
    obtain ⟨k, kvs, hk, e⟩ := lockS_some e
    obtain ⟨ρ', ω', kvs', eF, hk', rfl⟩ := unlk_some e
    obtain ⟨a, ha, vs, hp, l⟩ : ∃ a, A[k]? = some (some a) ∧ CellOk g A B H a (.dic kvs) := by
      rcases fm.wo.cell k _ hk with ⟨z, _⟩ | z
      · cases z
      · exact z
    refine ⟨a, .dK vs, hp, True.intro, fun od => ?_⟩
    obtain ⟨fm2, m2⟩ := fm.cellW (u := .frz od (.dK vs)) (c := .ldc kvs) ha (frz_not hp) fun H' _ hu m => ⟨od, vs, hu, DpK.mv m _ _ l⟩
    have s2 : Stp n.A n.B n.H A B (upd H a (.frz od (.dK vs))) := s.cellW (Liv.of ha) (frz_not hp)
    refine ⟨A, B, ρ, ω.set k (.ldc kvs), _, s2, fm2, eF, fun σ' A' B' H' m' s' fm' => ?_⟩
    have fz : H' a = some (.frz od (.dK vs)) := m'.frz a od _ upd_same
    have ha' : A'[k]? = some (some a) := by
      rcases fm'.wo.cell k _ hk' with ⟨z, _⟩ | ⟨b, hb, _⟩
      · cases z
      · rcases m'.ids k _ ha with z | z
        · exact z
        · rw [hb] at z; cases z
    have l' : DpK g A' B' H' vs kvs' := by
      rcases fm'.wo.cell k _ hk' with ⟨z, _⟩ | ⟨b, hb, o2, vs2, h1, h2⟩
      · cases z
      · rw [ha'] at hb; cases hb
        rw [fz] at h1; cases h1
        exact h2
    have hba : B a := fm.wo.liv a (Liv.of ha)
    have nl : ∀ b o, n.H b = some o → ¬ Liv n.A b → b ≠ a := fun b o e nn z => by
      rcases s.new a (Liv.of ha) with h | h
      · exact nn (by rw [z]; exact h)
      · rw [← z, e] at h; cases h
    have mm : Mv A B H A' B' (upd H' a (.dK vs)) := by
      refine ⟨fun b o nb e => ?_, m'.ids, fun b o u e => ?_⟩
      · have ne : b ≠ a := fun z => nb (by rw [z]; exact hba)
        have := m'.cell b o nb (by rw [upd_ne ne]; exact e)
        exact ⟨by rw [upd_ne ne]; exact this.1, this.2⟩
      · have ne : b ≠ a := fun z => by rw [z, hp] at e; cases e
        rw [upd_ne ne]
        exact m'.frz b o u (by rw [upd_ne ne]; exact e)
    have ss : Stp n.A n.B n.H A' B' (upd H' a (.dK vs)) := by
      refine ⟨fun b o e nn => by rw [upd_ne (nl b o e nn)]; exact s'.keep b o e nn, s'.old, s'.new, s'.ids, fun b o e => ?_, fun b o u e => ?_⟩
      · by_cases z : b = a
        · exact ⟨_, by rw [z]; exact upd_same⟩
        · obtain ⟨o', q⟩ := s'.trk b o e
          exact ⟨o', by rw [upd_ne z]; exact q⟩
      · have ne : b ≠ a := fun z => by
          have := s.frz b o u e
          rw [z, hp] at this; cases this
        rw [upd_ne ne]
        exact s'.frz b o u e
    exact ⟨fz, res σ' A' B' _ mm ss (fm'.unlock ha' fz l')⟩
/-! ### its keys -/
def keysOf (d : D) : M (List D) := fun _ ω => match d with
  | .oid k => match ω[k]? with
    | some (.ldc kvs) => some (.val (kvs.map fun kv => dKey kv.1) ω)
    | _ => none
  | _ => none
theorem keysOf_some {d : D} {ρ : Rho} {ω : List Cell} {r : R (List D)} (h : keysOf d ρ ω = some r) : ∃ k kvs, d = .oid k ∧ ω[k]? = some (.ldc kvs) ∧ r = .val (kvs.map fun kv => dKey kv.1) ω := by
  unfold keysOf at h
  cases d with
  | oid k =>
    simp only at h
    cases q : ω[k]? with
    | none => simp only [q] at h; cases h
    | some c =>
      cases c with
      | ldc kvs => simp only [q] at h; cases h; exact ⟨k, kvs, rfl, q, rfl⟩
      | _ => simp only [q] at h; cases h
  | _ => cases h
theorem DpK.keyM {g : G} {A : Ad} {B : Addr → Prop} {H : Hp} {ds : List (Key × D)} {vs : List (Key × V)} (h : DpK g A B H vs ds) : (ds.map fun kv => dKey kv.1) = vs.map fun kv => dKey kv.1 := by
  have := congrArg (List.map dKey) h.keys
  rw [List.map_map, List.map_map] at this
  exact this.symm
theorem itb_keys {g : G} {a : Addr} {o : Obj} {vs : List (Key × V)} : ItB g (Itk a o vs) (vs.map fun kv => dKey kv.1) (fun _ _ H => H a = some (.frz o (.dK vs))) where
  go := fun A B H i c hi => ⟨c, by simpa using hi⟩
  yld := fun A B H ω i x H' w c _ y => by
    obtain ⟨rfl, k, v, hk, rfl⟩ := y
    refine ⟨dKey k, by rw [List.getElem?_map, hk]; rfl, .refl _ _ _, w, ?_⟩
    cases k with
    | inl i => exact .int i
    | inr x => exact .str x
  stop := fun A B H i c hi => ⟨c, by simpa using hi⟩
/-- a locked dict of the store, where it lies -/
theorem ldc_at {g : G} {A : Ad} {B : Addr → Prop} {H : Hp} {ω : List Cell} {v : V} {k : Nat} {kvs : List (Key × D)} (w : Wo g A B H ω) (hk : ω[k]? = some (.ldc kvs)) (h : Dp g A B H v (.oid k)) : ∃ a o vs, v = .ref a ∧ A[k]? = some (some a) ∧ H a = some (.frz o (.dK vs)) ∧ DpK g A B H vs kvs := by
  rcases w.cell k _ hk with ⟨z, _⟩ | ⟨a, ha, o, vs, h1, h2⟩
  · cases z
  · cases h with
    | oid e => rw [ha] at e; cases e; exact ⟨a, o, vs, rfl, ha, h1, h2⟩
    | ded e => rw [ha] at e; cases e
section
variable {X : Cx} {g : G} {W : WX} {tg e : Expr} {f : M D}
theorem di_keysG {stay : Cnd → Prop} (hst : ∀ (a : Addr) (o : Obj) (vs : List (Key × V)), stay fun _ _ H => H a = some (.frz o (.dK vs))) (he : PE X e (tM g rD W f)) : PI X tg e (tI g W stay (f.bind keysOf)) :=
  (pi_keys he).dl fun σ H Q ⟨H0, A, B, ρ, ω, r, fm, e, res⟩ => by
    refine tM_mono (tI_bind fm e res) fun x H1 ⟨A1, B1, ω1, d1, t1, fm1, r1, e1⟩ => ?_
    obtain ⟨k, kvs, rfl, hk, rfl⟩ := keysOf_some e1
    obtain ⟨a, o, vs, rfl, ha, hp, l⟩ := ldc_at fm1.wo hk r1
    refine ⟨a, o, rfl, .inl ⟨vs, hp, ?_⟩⟩
    have res' := res (Itk a o vs) (fun _ _ H => H a = some (.frz o (.dK vs))) A1 B1 H1 t1 fm1.wo
    rw [l.keyM] at res'
    exact res' itb_keys (hst a o vs) hp
theorem di_keys (he : PE X e (tM g rD W f)) : PI X tg e (tI g W stayM (f.bind keysOf)) := di_keysG (fun a o vs A B H A' B' H' m c => m.frz a o _ c) he
theorem di_keysS (he : PE X e (tM g rD W f)) : PI X tg e (tI g W stayS (f.bind keysOf)) := di_keysG (fun a o vs A B H A' B' H' _ m c => m.frz a o _ c) he
end
/-! ### o.__iter__() that returns iter(self.f) -/
def ItK (it d : Addr) (o : Obj) (kvs : List (Key × V)) : HO := .ext fun h => ∃ es ep, o.data = .dict es ep ∧ h.IsKeyIter it d 0 kvs.length ep
theorem call_iterK {X : Cx} : CallR X (.builtin "iter") (fun xs H Q => ∃ d o kvs, xs = [V.ref d] ∧ H d = some (.frz o (.dK kvs)) ∧ ∀ it, X.s_0.heap.objs.size ≤ it → H it = none → Q (.ref it) (upd H it (ItK it d o kvs))) := by
  intro pins s σ H xs us Q I r h
  obtain ⟨d, o, kvs, rfl, hd, q⟩ := h
  obtain ⟨u, rfl, ru⟩ := vals1 r
  cases ru
  obtain ⟨hs, hgd, hx, es, ep, vs, hdt, hsz, kv, hm⟩ := I.frzK hd
  refine Calls.call_function_entry (by decide +kernel) (by decide +kernel) PySem.W.kdk_entry_iter (PySem.W.kdk_args_iter _) ?_
  unfold Builtin.«iter»
  refine wpAny_bind (m := someArgs "iter" 1 2 _) (wpAny_of_eq (a := [Value.ref d]) (by first | rfl | kernel_rfl!) ?_)
  show wpAny _ _ (pyIter (.ref d) >>= _) _ _ _
  refine wpAny_bind (iter_keys hs hgd hx hdt ?_)
  have st : (s.heap.push { cls := .type "dict_keyiterator", data := .fields #[.ref d, .int 0 0, .int (es.size : Nat) 0, .int (ep : Nat) 0] }).IsKeyIter s.heap.objs.size d 0 kvs.length ep := by
    rw [← hsz]
    exact ⟨_, Heap.get?_push_size _ rfl, rfl, rfl⟩
  refine wpAny_pure ⟨_, rfl, .ref s.heap.objs.size, _, I.laid (t' := s.toks) (fun b u e => Heap.get?_push_of_some _ e) (Nat.le_refl _) ?_, rfl, q _ I.sz (I.hok.fresh (Nat.le_refl _))⟩
  exact ⟨⟨es, ep, hdt, st⟩, ⟨_, Heap.get?_push_size _ rfl⟩, fun h1 h2 ⟨es', ep', hd', st'⟩ hk => ⟨es', ep', hd', let ⟨oi, e, c, dd⟩ := st'; ⟨oi, hk _ e, c, dd⟩⟩⟩
/-- what such a def does -/
def RunIt (P : Program) (w : World) (K : PySem.W.Frag) (mg : Str → Option Value) (base : Heap) (fld : Str) (f : Addr) (fd : FuncData) (ps : List Str) : Prop :=
  ∀ (A : Around) (outer : List PySem.Env) (s : Shared) (H : Hp) (us : List Value) (x d : Addr) (C dx : Addr) (fs : List (Str × V)) (o : Obj) (kvs : List (Key × V)) (Q : VK) (E : XK), Room 1 A → Env0 P w K mg base A outer s H → Vals [V.ref x] us → BindsTo s fd ⟨us, []⟩ (ps.zip us) →
    H x = some (.ins C dx fs) → Cls K C → NoAttr K C fld → fs.lookup fld = some (.ref d) → H d = some (.frz o (.dK kvs)) → (∀ it, s.heap.objs.size ≤ it → H it = none → Q (.ref it) (upd H it (ItK it d o kvs))) →
    codeAny (model P w) A (.call (.ref f) ⟨us, []⟩) (CR CX0 outer P w H s Q E) s
structure CalIt (P : Program) (w : World) (K : PySem.W.Frag) (mg : Str → Option Value) (base : Heap) (c fld : Str) (ps : List Str) : Prop where
  ex : ∃ C f fd, mg c = some (.ref C) ∧ Cls K C ∧ NoAttr K C fld ∧ (PySem.W.findIn K (.ref C) "__iter__" = some (some (.ref f)) ∧ PySem.W.isFn K (.ref f) = true) ∧ Binds K fd ps [] ∧ RunIt P w K mg base fld f fd ps
/-- the text of such a def -/
structure FIt (K : PySem.W.Frag) (mg : Str → Option Value) (c fld qual : Str) (st : Stmt) : Prop where
  ex : ∃ C f fd, mg c = some (.ref C) ∧ Cls K C ∧ NoAttr K C fld ∧ (PySem.W.findIn K (.ref C) "__iter__" = some (some (.ref f)) ∧ PySem.W.isFn K (.ref f) = true) ∧ Fun K "__iter__" qual st f fd
theorem calIt_of {P : Program} {w : World} {K : PySem.W.Frag} {mg : Str → Option Value} {base : Heap} {c fld qual : Str} {st : Stmt} {N ps : List Str} (T : FIt K mg c fld qual st) (S : FnScope N ps (defScope st)) (hN : N.length = 1) (hps : ps.length = 1)
    (b : ∀ a fd, Fun K "__iter__" qual st a fd → Binds K fd ps [])
    (h : ∀ (f : Addr) (cdv : Value) (A : Around) (outer : List PySem.Env) (s : Shared) (H : Hp) (E : XK), ∃ td, PSs (cxOf CX0 P w K mg base N qual (defScope st) f cdv A outer s H E) (defBody st) (tRet td) ∧
      ∀ (σ : St) (H : Hp) (Q : VK) (x d C dx : Addr) (fs : List (Str × V)) (o : Obj) (kvs : List (Key × V)), σ[0]? = some (some (.ref x)) → H x = some (.ins C dx fs) → Cls K C → NoAttr K C fld → fs.lookup fld = some (.ref d) → H d = some (.frz o (.dK kvs)) →
        (∀ it, s.heap.objs.size ≤ it → H it = none → Q (.ref it) (upd H it (ItK it d o kvs))) → td σ H Q) : CalIt P w K mg base c fld ps := by
  obtain ⟨C, f, fd, h1, h2, h3, h4, Fu⟩ := T.ex
  refine ⟨C, f, fd, h1, h2, h3, h4, b f fd Fu, ?_⟩
  obtain ⟨oc, od, kV, doc, pm, an, cdv, ct, osl, rfl, lk, hcd⟩ := Fu.ex
  intro A outer s H us x d C dx fs o kvs Q E hr e0 r hb hx hC hA hl hd q
  have hlen : us.length = 1 := r.length.symm
  have KX : K.In s.heap := e0.mod.kin.keeps fun b o e => (e0.bs b o e).1
  have lim : s.heap.NoLimit := e0.mod.nolimit.keeps fun b o e => (e0.bs b o e).1
  have hkind : ∀ y ∈ ps.zip us, (defScope st).names.lookup y.1 = some .local ∨ ((defScope st).names.lookup y.1 = some .cell ∧ ((cellsFrom (s.heap.objs.size + 1) (defScope st).names []).lookup y.1).isSome = true) := fun ⟨n, v⟩ hy => by
    rcases S.par n (List.of_mem_zip hy).1 with q | q
    · exact .inl q
    · exact .inr ⟨q, PySem.W.cellsFrom_some _ _ _ (.inl q)⟩
  refine codeAny_call_function hr.depth (KX _ _ lk) rfl S.co S.gen rfl (PySem.W.codeRec_of KX hcd) (hb _ _ _ _ ?_)
  refine wpAny_newFunctionEnv_cells S.kind hkind fun env he s1 xx => ?_
  subst he
  refine ⟨lim.keeps xx.toInCall.keep, codeAny_func ?_⟩
  obtain ⟨td, ht, hq⟩ := h f cdv A outer s H E
  have I : Inv (cxOf CX0 P w K mg base N qual (defScope st) f cdv A outer s H E) [] (start N [V.ref x]) H s1 := inv_start S hr.hd e0 (by rw [hps]; rfl) r xx
  refine wpAny_mono (ht.run [] s1 (start N [V.ref x]) H { nx := fun _ H' => Q .non H', rt := Q } I ?_) (fun fl s' hs => ?_) fun e s' hs => hs
  · show td _ _ _
    exact hq _ _ _ x d C dx fs o kvs (by match N, hN with | [n0], _ => rfl) hx hC hA hl hd q
  have fin : ∀ {σ' : St} {H' : Hp} {v : V} {u : Value}, Inv (cxOf CX0 P w K mg base N qual (defScope st) f cdv A outer s H E) [] σ' H' s' → RelV v u → Q v H' → CE outer P w H s Q u s' :=
    fun {σ' H' v u} J rv q => ⟨v, H', J.os, J.bare, J.base, J.hok, rv, q⟩
  cases fl with
  | ret u =>
    obtain ⟨v, σ', H', J, rv, q⟩ := hs
    exact fin J rv q
  | next =>
    obtain ⟨σ', H', J, q⟩ := hs
    exact fin (v := V.non) (u := Value.none) J rfl q
  | brk =>
    obtain ⟨_, _, _, q⟩ := hs
    exact False.elim q
  | cont =>
    obtain ⟨_, _, _, q⟩ := hs
    exact False.elim q
def iOwnK (K : PySem.W.Frag) (C : Addr) (fld : Str) (td : TE) : TI := fun σ H R => td σ H fun x H1 => ∃ a dx fs d o kvs, x = .ref a ∧ H1 a = some (.ins C dx fs) ∧ fs.lookup fld = some (.ref d) ∧ H1 d = some (.frz o (.dK kvs)) ∧ R (Itk d o kvs) H1
theorem pi_ownK {X : Cx} {tg e : Expr} {td : TE} {C f : Addr} {fd : FuncData} {fld : Str} {ps : List Str} (hr : Room 1 X.A) (hC : Cls X.K C) (hA : NoAttr X.K C fld) (hit : PySem.W.findIn X.K (.ref C) "__iter__" = some (some (.ref f))) (hfn : PySem.W.isFn X.K (.ref f) = true) (hb : Binds X.K fd ps []) (hps : ps.length = 1)
    (R : RunIt X.prog X.w X.K X.mg X.base fld f fd ps) (he : PE X e td) : PI X tg e (iOwnK X.K C fld td) := by
  refine ⟨fun pins s σ H R' I h => ?_⟩
  refine thn (he.run pins s σ H _ I h) fun u s1 ⟨x, H1, I1, rx, a, dx, fs, d, o, kvs, ex, ha, hl, hd, q⟩ => ?_
  subst ex
  obtain rfl : u = Value.ref a := rx
  obtain ⟨mA, J, _⟩ := ins_get I1.hok ha
  obtain ⟨od, J, _⟩ := J.look
  obtain ⟨m, hF⟩ := I1.fr
  refine PySem.W.owit_iter hF I1.ok.mod.kin J hit hfn ?_
  refine wpAny_call (codeAny_mono (R X.A X.stack s1 H1 [.ref a] a d C dx fs o kvs (fun v H' => ∃ it, s1.heap.objs.size ≤ it ∧ H1 it = none ∧ v = .ref it ∧ H' = upd H1 it (ItK it d o kvs)) E0 hr I1.env0 (.cons rfl .nil) (by
    have := hb s1 [.ref a] I1.kIn (by rw [hps]; rfl)
    rw [List.append_nil] at this
    exact this) ha hC hA hl hd fun it h1 h2 => ⟨it, h1, h2, rfl, rfl⟩) fun r s' hq => ?_)
  cases r with
  | error e => exact False.elim hq
  | ok fl =>
    cases fl with
    | next => exact False.elim hq
    | brk => exact False.elim hq
    | cont => exact False.elim hq
    | ret u =>
      obtain ⟨v, H', I', rv, it, hsz, hn, rfl, rfl⟩ := I1.after hq
      cases rv
      have hok := I'.hok it _ upd_same
      obtain ⟨⟨es, ep, hdt, st⟩, _, _⟩ := hok
      have hT : s'.TypeIs (.ref it) "dict_keyiterator" := let ⟨oi, e, c, dd⟩ := st; ⟨oi, e, c⟩
      unfold PySem.W.OwitIt
      refine wpAny_specialOf (name := Str.ofString "__next__") hT PySem.F.slot_dict_keyiterator_next.lookup ?_
      have I2 := ItX.inv_drop I' upd_same
      have fp := ItX.inv_fp I' upd_same (Nat.le_trans I1.sz hsz)
      rw [ItX.dropH_upd hn] at I2 fp
      refine ⟨it, [it], _, Itk d o kvs, H1, rfl, I2, turn_keys it hdt, st, fun b hb => ?_, q⟩
      have e : b = it := by simpa using hb
      rw [e]
      exact fp
/-- the keys of the dict that stands in o's field -/
def ownK (c fld : Str) (x : D) : M (List D) := fun _ ω => match view ω x with
  | some (.obj c' fs) => if c' = c then (match fs.lookup fld with
    | some (.oid k) => match ω[k]? with
      | some (.ldc kvs) => some (.val (kvs.map fun kv => dKey kv.1) ω)
      | _ => none
    | _ => none) else none
  | _ => none
theorem ownK_some {c fld : Str} {x : D} {ρ : Rho} {ω : List Cell} {r : R (List D)} (h : ownK c fld x ρ ω = some r) : ∃ fs k kvs, view ω x = some (.obj c fs) ∧ fs.lookup fld = some (.oid k) ∧ ω[k]? = some (.ldc kvs) ∧ r = .val (kvs.map fun kv => dKey kv.1) ω := by
  unfold ownK at h
  cases q : view ω x with
  | none => simp only [q] at h; cases h
  | some d =>
    cases d with
    | obj c' fs =>
      simp only [q] at h
      split at h
      · rename_i hc
        subst hc
        cases q2 : fs.lookup fld with
        | none => simp only [q2] at h; cases h
        | some d2 =>
          cases d2 with
          | oid k =>
            simp only [q2] at h
            cases q3 : ω[k]? with
            | none => simp only [q3] at h; cases h
            | some c3 =>
              cases c3 with
              | ldc kvs => simp only [q3] at h; cases h; exact ⟨fs, k, kvs, rfl, q2, q3, rfl⟩
              | _ => simp only [q3] at h; cases h
          | _ => simp only [q2] at h; cases h
      · cases h
    | _ => simp only [q] at h; cases h
section
variable {X : Cx} {W : WX} {tg e : Expr} {f : M D} {c fld : Str} {ps : List Str} {j : Nat}
theorem di_ownK {stay : Cnd → Prop} (hst : ∀ (a : Addr) (o : Obj) (vs : List (Key × V)), stay fun _ _ H => H a = some (.frz o (.dK vs))) (ci : CalIt X.prog X.w X.K X.mg X.base c fld ps) (hps : ps.length = 1) (hr : Room j X.A) (hj : 1 ≤ j) (he : PE X e (tM ⟨X.K, X.mg⟩ rD W f)) : PI X tg e (tI ⟨X.K, X.mg⟩ W stay (f.bind (ownK c fld))) := by
  obtain ⟨C, fn, fd, h1, h2, h3, ⟨h4, h5⟩, h6, h7⟩ := ci.ex
  refine (pi_ownK (hr.mono hj) h2 h3 h4 h5 h6 hps h7 he).dl ?_
  rintro σ H Q ⟨H0, A, B, ρ, ω, r, fm, e, res⟩
  refine tM_mono (tI_bind fm e res) fun x H1 ⟨A1, B1, ω1, d1, t1, fm1, r1, e1⟩ => ?_
  obtain ⟨fs, k, kvs, ev, hl, hk, rfl⟩ := ownK_some e1
  obtain ⟨a, C', dx, vs, rfl, hp, hc, l⟩ := Vw.of r1 fm1.wo ev
  have hC : C' = C := by
    have : (some (Value.ref C') : Option Value) = some (.ref C) := hc.symm.trans h1
    cases this; rfl
  subst hC
  obtain ⟨u, hu, du⟩ := l.look hl
  obtain ⟨d, o, ws, rfl, ha, hd, lk⟩ := ldc_at fm1.wo hk du
  refine ⟨a, dx, vs, d, o, ws, rfl, hp, hu, hd, ?_⟩
  have res' := res (Itk d o ws) (fun _ _ H => H d = some (.frz o (.dK ws))) A1 B1 H1 t1 fm1.wo
  rw [lk.keyM] at res'
  exact res' itb_keys (hst d o ws) hd
theorem di_ownM (ci : CalIt X.prog X.w X.K X.mg X.base c fld ps) (hps : ps.length = 1) (hr : Room j X.A) (hj : 1 ≤ j) (he : PE X e (tM ⟨X.K, X.mg⟩ rD W f)) : PI X tg e (tI ⟨X.K, X.mg⟩ W stayM (f.bind (ownK c fld))) := di_ownK (fun a o vs A B H A' B' H' m c => m.frz a o _ c) ci hps hr hj he
theorem di_ownS (ci : CalIt X.prog X.w X.K X.mg X.base c fld ps) (hps : ps.length = 1) (hr : Room j X.A) (hj : 1 ≤ j) (he : PE X e (tM ⟨X.K, X.mg⟩ rD W f)) : PI X tg e (tI ⟨X.K, X.mg⟩ W stayS (f.bind (ownK c fld))) := di_ownK (fun a o vs A B H A' B' H' _ m c => m.frz a o _ c) ci hps hr hj he
end
end DL
/-! DL38: dict comprehensions; min of texts. -/
namespace DL
open PySem L2
def dcGo (vs : List Nat) (T : TT1) (t : M Bool) (fk fv : M D) (ρ : Rho) : List D → List (Key × D) → List Cell → Option (List (Key × D) × List Cell)
  | [], acc, ω => some (acc, ω)
  | d :: ds, acc, ω => match T d (wipeE ρ vs) ω with
    | none => none
    | some ρ2 => match t ρ2 ω with
      | some (.val true ω1) => match fk ρ2 ω1 with
        | some (.val y ω2) => match fv ρ2 ω2 with
          | some (.val z ω3) => match keyD y with
            | some k => if acc.length < 1000 then dcGo vs T t fk fv ρ ds (putKD acc k z) ω3 else none
            | none => none
          | _ => none
        | _ => none
      | some (.val false ω1) => dcGo vs T t fk fv ρ ds acc ω1
      | _ => none
def dcM (vs : List Nat) (src : M (List D)) (T : TT1) (t : M Bool) (fk fv : M D) : M D := src.bind fun items ρ ω => match dcGo vs T t fk fv ρ items [] ω with
  | some (kvs, ω') => some (.val (.oid ω'.length) (ω' ++ [Cell.dic kvs]))
  | none => none
/-- a dict that has just been made becomes a thing of the store -/
theorem store_dic {g : G} {A : Ad} {B : Addr → Prop} {H : Hp} {ω : List Cell} {p : Addr} {vs : List (Key × V)} {ds : List (Key × D)} (w : Wo g A B H ω) (hp : H p = some (.dK vs)) (l : DpK g A B H vs ds) (hb : B p) (nl : ¬ Liv A p) :
    Wo g (A ++ [some p]) B H (ω ++ [.dic ds]) ∧ ∀ (A0 : Ad) (B0 : Addr → Prop) (H0 : Hp), Stp A0 B0 H0 A B H → H0 p = none → Stp A0 B0 H0 (A ++ [some p]) B H := by
  have ap : ∀ (k : Nat) (x : Option Addr), A[k]? = some x → (A ++ [some p])[k]? = some x := fun k x e => by rw [List.getElem?_append_left (List.getElem?_eq_some_iff.mp e).1]; exact e
  have m : Mv A B H (A ++ [some p]) B H := ⟨fun a o n e => ⟨e, n⟩, fun k x e => .inl (ap k x e), fun _ _ _ h => h⟩
  refine ⟨⟨by simp [w.len], fun i j a ei ej => ?_, fun a z => ?_, w.bnd, fun k c e => ?_⟩, fun A0 B0 H0 s h0 => ⟨s.keep, s.old, fun a z => ?_, fun k x e => ?_, s.trk, s.frz⟩⟩
  · have fix : ∀ (i : Nat) (a : Addr), (A ++ [some p])[i]? = some (some a) → (A[i]? = some (some a)) ∨ (i = A.length ∧ a = p) := fun i a e => by
      by_cases h : i < A.length
      · rw [List.getElem?_append_left h] at e; exact .inl e
      · rw [List.getElem?_append_right (Nat.le_of_not_lt h)] at e
        have hi : i - A.length = 0 := by
          cases q : i - A.length with
          | zero => rfl
          | succ n => rw [q] at e; simp at e
        rw [hi] at e
        have : p = a := by simpa using e
        exact .inr ⟨by omega, this.symm⟩
    rcases fix i a ei with h1 | ⟨h1, h2⟩
    · rcases fix j a ej with h3 | ⟨h3, h4⟩
      · exact w.inj i j a h1 h3
      · exact (nl (by rw [← h4]; exact Liv.of h1)).elim
    · rcases fix j a ej with h3 | ⟨h3, h4⟩
      · exact (nl (by rw [← h2]; exact Liv.of h3)).elim
      · rw [h1, h3]
  · rcases List.mem_append.mp z with z | z
    · exact w.liv a z
    · have : a = p := by simpa using z
      rw [this]; exact hb
  · by_cases h : k < ω.length
    · rw [List.getElem?_append_left h] at e
      rcases w.cell k c e with ⟨h1, h2⟩ | ⟨a, h1, h2⟩
      · exact .inl ⟨h1, ap _ _ h2⟩
      · exact .inr ⟨a, ap _ _ h1, h2.mv m fun o e => e⟩
    · rw [List.getElem?_append_right (Nat.le_of_not_lt h)] at e
      have hk : k - ω.length = 0 := by
        cases q : k - ω.length with
        | zero => rfl
        | succ n => rw [q] at e; simp at e
      rw [hk] at e
      have ec : Cell.dic ds = c := by simpa using e
      subst ec
      have ek : k = A.length := by rw [w.len]; omega
      exact .inr ⟨p, by rw [ek]; simp, vs, hp, DpK.mv m _ _ l⟩
  · rcases List.mem_append.mp z with z | z
    · exact s.new a z
    · have : a = p := by simpa using z
      exact .inr (by rw [this]; exact h0)
  · rcases s.ids k x e with q | q
    · exact .inl (ap _ _ q)
    · exact .inr (ap _ _ q)
section
variable {g : G} {W : WX} {A A' : Ad} {B B' : Addr → Prop} {H H' H0 : Hp} {ω ω' : List Cell} {σ : St} {ρ : Rho}
theorem tDc_of {src : M (List D)} {T : TT1} {t : M Bool} {fk fv : M D} {is vs : List Nat} (hv : ∀ i ∈ is, i ∈ vs) : ∀ σ H Q, tM g rD W (dcM vs src T t fk fv) σ H Q → tDc (tI g W stayS src) (tGM g is T) (tM g rB W0 t) (tM g rD W0 fk) (tM g rD W0 fv) vs σ H Q := by
  rintro σ H Q ⟨H0, A, B, ρ, ω, r, fm, e, res⟩
  unfold dcM M.bind at e
  cases q : src ρ ω with
  | none => rw [q] at e; cases e
  | some z =>
    rw [q] at e
    cases z with
    | exc x ω' =>
      cases e
      exact ⟨H0, A, B, ρ, ω, _, fm, q, res⟩
    | val items ω1 =>
      refine ⟨H0, A, B, ρ, ω, _, fm, q, fun J C A1 B1 H1 t1 w1 ib hC c => ?_⟩
      intro L hL
      simp only at e
      cases q2 : dcGo vs T t fk fv ρ items [] ω1 with
      | none => simp only [q2] at e; cases e
      | some z =>
        obtain ⟨out, ω9⟩ := z
        simp only [q2] at e
        cases e
        have fm1 := fm.up t1 w1
        have hL0 : H L = none := t1.none hL
        have no : ∀ (i : Nat) (ds : List D), ρ[i]? = some (.ow ds) → σ[i]? ≠ some (some (.ref L)) := fun i ds ei z => by
          obtain ⟨p, ws, e1, e2, _⟩ := fm.sl.val i _ ei
          rw [z] at e1
          cases e1
          rw [hL0] at e2; cases e2
        refine ⟨fun i m H' => m = items.length - i ∧ i ≤ items.length ∧ ∃ A' B' ω' acc ws, Stp A1 B1 H1 A' B' H' ∧ Fm g H0 A' B' H' ω' σ ρ ∧ H' L = some (.dK ws) ∧ DpK g A' B' H' ws acc ∧ B' L ∧ ¬ Liv A' L ∧ dcGo vs T t fk fv ρ (items.drop i) acc ω' = some (out, ω9),
          ⟨_, rfl, Nat.zero_le _, A1, _, ω1, [], [], (Stp.refl A1 B1 H1).alloc hL, fm1.up ((Stp.refl A1 B1 H1).alloc hL) (w1.plus hL), upd_same, .nil, .inr rfl, fun z => w1.nb hL (w1.liv L z), q2⟩, ?_⟩
        rintro i m H' ⟨rfl, hi, A', B', ω', acc, ws, s', fm', hLs, l, hb, nl, e⟩
        have c' : C A' B' H' := hC _ _ _ _ _ _ w1.liv s' c
        by_cases hlt : i < items.length
        · refine .inr ⟨ib.go A' B' H' i c' hlt, fun H' => ∃ A' B' ω' acc ws, Stp A1 B1 H1 A' B' H' ∧ Fm g H0 A' B' H' ω' σ ρ ∧ H' L = some (.dK ws) ∧ DpK g A' B' H' ws acc ∧ B' L ∧ ¬ Liv A' L ∧ dcGo vs T t fk fv ρ (items.drop (i + 1)) acc ω' = some (out, ω9), fun H' p => ⟨_, by omega, rfl, hlt, p⟩, fun x H2 y => ?_⟩
          obtain ⟨d, hd, t2, w2, dp⟩ := ib.yld A' B' H' ω' i x H2 fm'.wo c' hlt y
          rw [drop_cons hd] at e
          unfold dcGo at e
          have fm2 := fm'.up t2 w2
          cases qT : T d (wipeE ρ vs) ω' with
          | none => simp only [qT] at e; cases e
          | some ρ2 =>
            simp only [qT] at e
            refine ⟨H0, A', B', wipeE ρ vs, ω', d, ρ2, ⟨fm2.wo, fm2.sl.wipe vs⟩, dp, qT, fun σ2 fm3 so => ⟨?_, ?_⟩⟩
            · rw [so.wipe hv]
              apply List.ext_getElem?
              intro j
              by_cases hj : j ∈ vs
              · rw [wipe_in hj, wipe_in hj, wipe_length]
              · rw [wipe_notin hj]
            cases qt : t ρ2 ω' with
            | none => simp only [qt] at e; cases e
            | some z =>
              cases z with
              | exc x ω5 => simp only [qt] at e; cases e
              | val b ω3 =>
                refine tM_val fm3 qt fun v A3 B3 H3 t3 w3 rl => ?_
                cases rl
                have fm4 := fm2.up t3 w3
                have fm4' := fm3.up t3 w3
                have hL2 : H2 L = some (.dK ws) := t2.keep L _ hLs nl
                have hL3 : H3 L = some (.dK ws) := t3.keep L _ hL2 nl
                have nl3 : ¬ Liv A3 L := fun z => by
                  rcases t3.new L z with z | z
                  · exact nl z
                  · rw [hL2] at z; cases z
                have hb3 : B3 L := (t3.old L _ hL2 nl).mpr hb
                have l3 : DpK g A3 B3 H3 ws acc := DpK.mv (fm2.wo.mv t3) _ _ (DpK.mv (fm'.wo.mv t2) _ _ l)
                have s3 := (s'.trans t2).trans t3
                cases b with
                | false =>
                  rw [if_neg Bool.false_ne_true]
                  simp only [qt] at e
                  exact ⟨A3, B3, ω3, acc, ws, s3, fm4, hL3, l3, hb3, nl3, e⟩
                | true =>
                  rw [if_pos rfl]
                  simp only [qt] at e
                  cases qk : fk ρ2 ω3 with
                  | none => simp only [qk] at e; cases e
                  | some z =>
                    cases z with
                    | exc x ω5 => simp only [qk] at e; cases e
                    | val yk ω5 =>
                      simp only [qk] at e
                      refine tM_val fm4' qk fun v A5 B5 H5 t5 w5 rl => ?_
                      cases qf : fv ρ2 ω5 with
                      | none => simp only [qf] at e; cases e
                      | some z =>
                        cases z with
                        | exc x ω7 => simp only [qf] at e; cases e
                        | val yv ω7 =>
                          simp only [qf] at e
                          cases kk : keyD yk with
                          | none => simp only [kk] at e; cases e
                          | some key =>
                            simp only [kk] at e
                            split at e
                            · rename_i hz
                              refine tM_val (fm4'.up t5 w5) qf fun v2 A7 B7 H7 t7 w7 rl7 => ?_
                              have hL5 : H5 L = some (.dK ws) := t5.keep L _ hL3 nl3
                              have nl5 : ¬ Liv A5 L := fun z => by
                                rcases t5.new L z with z | z
                                · exact nl3 z
                                · rw [hL3] at z; cases z
                              have hb5 : B5 L := (t5.old L _ hL3 nl3).mpr hb3
                              have hL7 : H7 L = some (.dK ws) := t7.keep L _ hL5 nl5
                              have nl7 : ¬ Liv A7 L := fun z => by
                                rcases t7.new L z with z | z
                                · exact nl5 z
                                · rw [hL5] at z; cases z
                              have hb7 : B7 L := (t7.old L _ hL5 nl5).mpr hb5
                              have l7 : DpK g A7 B7 H7 ws acc := DpK.mv ((fm4.up t5 w5).wo.mv t7) _ _ (DpK.mv (fm4.wo.mv t5) _ _ l3)
                              obtain ⟨fm8, m8⟩ := ((fm4.up t5 w5).up t7 w7).bump (o := .dK (putK ws key v2)) hb7 nl7 no (frz_not hL7)
                              refine ⟨ws, key, keyD_P kk rl, hL7, by rw [l7.len, sizeLine_eq]; omega, A7, B7, ω7, putKD acc key yv, putK ws key v2, ((s3.trans t5).trans t7).own hL nl7, fm8, upd_same, DpK.mv m8 _ _ (l7.put key rl7), hb7, nl7, e⟩
                            · cases e
        · have ei : i = items.length := by omega
          subst ei
          rw [List.drop_length] at e
          cases e
          obtain ⟨w2, s2⟩ := store_dic fm'.wo hLs l hb nl
          exact .inl ⟨ib.stop A' B' H' _ c' (Nat.le_refl _), res (.ref L) _ B' H' (t1.trans (s2 A1 B1 H1 s' hL)) w2 (.oid (by rw [← fm'.wo.len]; simp))⟩
end
section
variable {X : Cx} {g : G} {n : En} {W : WX} {kx vx tg iter : Expr} {ifs : List Expr} {scope : Scope} {own : List (Str × Nat)} {src : M (List D)} {T : TT1} {t : M Bool} {fk fv : M D} {is : List Nat} {pos : Pos}
theorem de_dc (hc : X.calm = true) (hN : X.N.Nodup) (hi : PI X tg iter (tI g W stayS src)) (ok : BlkOk X.N X.env.scope scope own) (hv : ∀ i ∈ is, i ∈ own.map (·.2))
    (hg : ∀ (s : Shared) (H : Hp) (C : Addr) (cl : List (Str × Addr)) (fp : List Addr), PG (X.blk s H scope (compEnvC scope cl C X.env) fp) tg (tGM g is T))
    (ht : ∀ (s : Shared) (H : Hp) (C : Addr) (cl : List (Str × Addr)) (fp : List Addr), PTs (X.blk s H scope (compEnvC scope cl C X.env) fp) ifs (tM g rB W0 t))
    (hk : ∀ (s : Shared) (H : Hp) (C : Addr) (cl : List (Str × Addr)) (fp : List Addr), PE (X.blk s H scope (compEnvC scope cl C X.env) fp) kx (tM g rD W0 fk))
    (he : ∀ (s : Shared) (H : Hp) (C : Addr) (cl : List (Str × Addr)) (fp : List Addr), PE (X.blk s H scope (compEnvC scope cl C X.env) fp) vx (tM g rD W0 fv)) (hs : ∀ x, foldedSetIterable iter X.env x = pure x := by intro _; rfl) :
    PE X (.DictComp kx vx [⟨tg, iter, ifs, 0⟩] scope pos) (tM g rD W (dcM (own.map (·.2)) src T t fk fv)) :=
  (pe_dc hc hN hi ok hg ht hk he hs).dl (tDc_of hv)
end
end DL
/-! DL39: append, extend, pop of any list of the store, as expressions. -/
namespace DL
open PySem L2
def setL (k : Nat) (c : Cell) (d : D) : M D := fun _ ω => some (.val d (ω.set k c))
def appM (fo fa : M D) : M D := fo.bind fun x => (isLst x).bind fun _ => fa.bind fun y => fun ρ ω => match x with
  | .oid k => match ω[k]? with
    | some (.lst ds) => if ds.length < 1000000 then some (.val .non (ω.set k (Cell.lst (ds ++ [y])))) else none
    | _ => none
  | _ => none
def extM (fo fa : M D) : M D := fo.bind fun x => (isLst x).bind fun _ => fa.bind fun y => fun ρ ω => match x with
  | .oid k => match ω[k]? with
    | some (.lst ds) => match view ω y with
      | some (.lst es) => if ds.length + es.length < 1000000 then some (.val .non (ω.set k (Cell.lst (ds ++ es)))) else none
      | _ => none
    | _ => none
  | _ => none
def popM (fo : M D) : M D := fo.bind fun x => fun ρ ω => match x with
  | .oid k => match ω[k]? with
    | some (.lst ds) => match ds[ds.length - 1]? with
      | some d => some (.val d (ω.set k (Cell.lst ds.dropLast)))
      | none => none
    | _ => none
  | _ => none
/-- a list of the store, where it lies -/
theorem lst_at {g : G} {A : Ad} {B : Addr → Prop} {H : Hp} {ω : List Cell} {v : V} {k : Nat} {ds : List D} (w : Wo g A B H ω) (hk : ω[k]? = some (.lst ds)) (h : Dp g A B H v (.oid k)) : ∃ a vs, v = .ref a ∧ A[k]? = some (some a) ∧ H a = some (.lst vs) ∧ DpL g A B H vs ds := by
  rcases w.cell k _ hk with ⟨z, _⟩ | ⟨a, ha, vs, h1, h2⟩
  · cases z
  · cases h with
    | oid e => rw [ha] at e; cases e; exact ⟨a, vs, rfl, ha, h1, h2⟩
    | ded e => rw [ha] at e; cases e
section
variable {X : Cx} {g : G} {W : WX} {e o : Expr} {fa fo : M D} {p pos apos : Pos}
theorem de_append (ho : PE X o (tM g rD W fo)) (ha : PE X e (tM g rD W fa)) (hbase : attributeBase o "append" X.env (eval o X.env) = eval o X.env := by rfl)
    (hfew : ((backTo pos (starEach [e] X.env)).all (fun x => !x.1) && (backToKw pos (keywordEach [] X.env)).all (fun x => x.1.isSome)
      && decide ([e].length + ([] : List Keyword).length + (if ([] : List Keyword).isEmpty then 0 else 1) < 30)) = true := by rfl)
    (hline : (apos.endLine == pos.line) = true := by rfl) (hst : starEach [e] X.env = (false, eval e X.env) :: starEach [] X.env := by rfl) (hplain : (backTo pos (starEach [] X.env)).any (·.1) = false := by rfl) :
    PE X (.Call (.Attribute o "append" apos) [e] [] pos) (tM g rD W (appM fo fa)) :=
  (pe_bm PySem.F.plainAttrs_list PySem.F.slot_list_append PySem.F.type_list_append mt_append ho (pa_cons ha pa_nil hst) hbase hfew hline hst hplain).dl fun σ H Q ⟨H0, A, B, ρ, ω, r, fm, e, res⟩ => by
    refine tM_mono (tM_bind fm e res) fun x H1 ⟨A1, B1, ω1, d1, t1, fm1, r1, e1, res1⟩ => ?_
    obtain ⟨ds0, ev0, e1⟩ := isLst_some e1
    obtain ⟨q0, vs0, rfl, hp0, l0⟩ := Vw.of r1 fm1.wo ev0
    refine ⟨.inl ⟨rfl, vs0, SqL.of hp0⟩, ?_⟩
    refine tM_mono (tM_bind fm1 e1 res1) fun y H2 ⟨A2, B2, ω2, d2, t2, fm2, r2, e2, res2⟩ => ?_
    cases d1 with
    | oid k =>
      simp only at e2
      cases q : ω2[k]? with
      | none => simp only [q] at e2; cases e2
      | some c =>
        cases c with
        | lst ds =>
          simp only [q] at e2
          split at e2
          · rename_i hz
            cases e2
            obtain ⟨a, vs, ea, ha2, hp, l⟩ := lst_at fm2.wo q (Dp.mv (fm1.wo.mv t2) _ _ r1)
            cases ea
            refine ⟨_, vs, y, rfl, rfl, hp, by rw [l.length, sizeLine_eq]; omega, ?_⟩
            obtain ⟨fm3, m3⟩ := fm2.cellW (u := .lst (vs ++ [y])) (c := .lst (ds ++ [d2])) ha2 (frz_not hp) fun H' _ hu m => ⟨_, hu, DpL.mv m _ _ (l.append (.cons r2 .nil))⟩
            exact res2 _ A2 B2 _ ((Stp.refl _ _ _).cellW (Liv.of ha2) (frz_not hp)) fm3.wo .non
          · cases e2
        | _ => simp only [q] at e2; cases e2
    | _ => simp only at e2; cases e2
theorem de_extend (ho : PE X o (tM g rD W fo)) (ha : PE X e (tM g rW W fa)) (hbase : attributeBase o "extend" X.env (eval o X.env) = eval o X.env := by rfl)
    (hfew : ((backTo pos (starEach [e] X.env)).all (fun x => !x.1) && (backToKw pos (keywordEach [] X.env)).all (fun x => x.1.isSome)
      && decide ([e].length + ([] : List Keyword).length + (if ([] : List Keyword).isEmpty then 0 else 1) < 30)) = true := by rfl)
    (hline : (apos.endLine == pos.line) = true := by rfl) (hst : starEach [e] X.env = (false, eval e X.env) :: starEach [] X.env := by rfl) (hplain : (backTo pos (starEach [] X.env)).any (·.1) = false := by rfl) :
    PE X (.Call (.Attribute o "extend" apos) [e] [] pos) (tM g rD W (extM fo fa)) :=
  (pe_bm PySem.F.plainAttrs_list PySem.F.slot_list_extend PySem.F.type_list_extend mt_extend ho (pa_cons ha pa_nil hst) hbase hfew hline hst hplain).dl fun σ H Q ⟨H0, A, B, ρ, ω, r, fm, e, res⟩ => by
    refine tM_mono (tM_bind fm e res) fun x H1 ⟨A1, B1, ω1, d1, t1, fm1, r1, e1, res1⟩ => ?_
    obtain ⟨ds0, ev0, e1⟩ := isLst_some e1
    obtain ⟨q0, vs0, rfl, hp0, l0⟩ := Vw.of r1 fm1.wo ev0
    refine ⟨.inl ⟨rfl, vs0, SqL.of hp0⟩, ?_⟩
    refine tM_mono (tM_bind fm1 e1 res1) fun y H2 ⟨A2, B2, ω2, d2, t2, fm2, r2, e2, res2⟩ => ?_
    cases d1 with
    | oid k =>
      simp only at e2
      cases q : ω2[k]? with
      | none => simp only [q] at e2; cases e2
      | some c =>
        cases c with
        | lst ds =>
          simp only [q] at e2
          cases q2 : view ω2 d2 with
          | none => simp only [q2] at e2; cases e2
          | some d2' =>
            cases d2' with
            | lst es =>
              simp only [q2] at e2
              split at e2
              · rename_i hz
                cases e2
                obtain ⟨b, ws, rfl, hb, lw⟩ := view_ok fm2.wo r2 q2
                obtain ⟨a, vs, ea, ha2, hp, l⟩ := lst_at fm2.wo q (Dp.mv (fm1.wo.mv t2) _ _ r1)
                cases ea
                refine ⟨_, b, vs, ws, rfl, rfl, hp, hb, by rw [l.length, lw.length, sizeLine_eq]; omega, ?_⟩
                obtain ⟨fm3, m3⟩ := fm2.cellW (u := .lst (vs ++ ws)) (c := .lst (ds ++ es)) ha2 (frz_not hp) fun H' _ hu m => ⟨_, hu, DpL.mv m _ _ (l.append lw)⟩
                exact res2 _ A2 B2 _ ((Stp.refl _ _ _).cellW (Liv.of ha2) (frz_not hp)) fm3.wo .non
              · cases e2
            | _ => simp only [q2] at e2; cases e2
        | _ => simp only [q] at e2; cases e2
    | _ => simp only at e2; cases e2
theorem de_pop (ho : PE X o (tM g rD W fo)) (hbase : attributeBase o "pop" X.env (eval o X.env) = eval o X.env := by rfl) (hline : (apos.endLine == pos.line) = true := by rfl) :
    PE X (.Call (.Attribute o "pop" apos) [] [] pos) (tM g rD W (popM fo)) :=
  (pe_bm0 PySem.F.plainAttrs_list PySem.F.slot_list_pop PySem.F.type_list_pop mt_pop ho hbase hline).dl fun σ H Q ⟨H0, A, B, ρ, ω, r, fm, e, res⟩ => by
    refine tM_mono (tM_bind fm e res) fun x H1 ⟨A1, B1, ω1, d1, t1, fm1, r1, e1, res1⟩ => ?_
    cases d1 with
    | oid k =>
      simp only at e1
      cases q : ω1[k]? with
      | none => simp only [q] at e1; cases e1
      | some c =>
        cases c with
        | lst ds =>
          simp only [q] at e1
          cases q2 : ds[ds.length - 1]? with
          | none => simp only [q2] at e1; cases e1
          | some d =>
            simp only [q2] at e1
            cases e1
            obtain ⟨a, vs, rfl, ha, hp, l⟩ := lst_at fm1.wo q r1
            obtain ⟨v, hv, dv⟩ := l.get q2
            refine ⟨.inl ⟨rfl, vs, SqL.of hp⟩, a, vs, v, rfl, rfl, hp, by rw [l.length]; exact hv, ?_⟩
            obtain ⟨fm3, m3⟩ := fm1.cellW (u := .lst vs.dropLast) (c := .lst ds.dropLast) ha (frz_not hp) fun H' _ hu m => ⟨_, hu, DpL.mv m _ _ l.dropLast⟩
            exact res1 _ A1 B1 _ ((Stp.refl _ _ _).cellW (Liv.of ha) (frz_not hp)) fm3.wo (Dp.mv m3 _ _ dv)
        | _ => simp only [q] at e1; cases e1
    | _ => simp only at e1; cases e1
end
end DL
/-! DL40: a list times a number. -/
namespace DL
open PySem L2
def mulLD : D → D → Option D
  | .lst ds, .int n => if 0 ≤ n ∧ n ≤ 1000 ∧ ds.length ≤ 1000 then some (.lst (List.replicate n.toNat ds).flatten) else none
  | _, _ => none
theorem DpL.rep {g : G} {A : Ad} {B : Addr → Prop} {H : Hp} {vs : List V} {ds : List D} (h : DpL g A B H vs ds) : ∀ n : Nat, DpL g A B H (List.replicate n vs).flatten (List.replicate n ds).flatten
  | 0 => .nil
  | n + 1 => by
    rw [List.replicate_succ, List.replicate_succ, List.flatten_cons, List.flatten_cons]
    exact h.append (DpL.rep h n)
section
variable {X : Cx} {g : G} {W : WX} {a b : Expr} {fa fb : M D} {pos : Pos}
theorem v_mulL : V2 g rRep mulLD := by
  intro A B H ω x y a b c Q w ha hb e q
  cases a with
  | lst ds =>
    cases b with
    | int n =>
      obtain ⟨p, vs, rfl, hp, l⟩ := ha
      cases hb
      simp only [mulLD] at e
      split at e
      · rename_i h
        cases e
        refine ⟨p, n, vs, rfl, rfl, hp, by omega, by omega, ?_, q.lst w (l.rep n.toNat)⟩
        rw [l.length, sizeLine_eq]
        have h1 : n.toNat ≤ 1000 := by omega
        have h2 : ds.length * n.toNat ≤ 1000 * 1000 := Nat.mul_le_mul h.2.2 h1
        omega
      · cases e
    | _ => cases e
  | _ => cases e
theorem de_mulL (ha : PE X a (tM g rW W fa)) (hb : PE X b (tM g rW W fb)) : PE X (.BinOp a .Mult b pos) (tM g rD W (bo mulLD fa fb)) := de_op op_rep v_mulL ha hb
end
theorem mulLD_ev {ds : List D} {n : Int} (h0 : 0 ≤ n) (h1 : n ≤ 1000) (h2 : ds.length ≤ 1000) : mulLD (.lst ds) (.int n) = some (.lst (List.replicate n.toNat ds).flatten) := if_pos ⟨h0, h1, h2⟩
end DL
/-! DL41: name op= e by a class's own method. -/
namespace DL
open PySem L2
def tAugR (i : Nat) (te : TE) (ti : St → R2) : TS := fun D σ H => ∃ x, σ[i]? = some (some x) ∧ te σ H fun y H1 => ti σ x y H1 fun z H2 => D.nx (σ.set i (some z)) H2
theorem ps_augR {X : Cx} {pos : Pos} {i : Nat} {x : Str} {e : Expr} {te : TE} {op : Operator} {ti : St → R2} {pos' : Pos} (hN : X.N.Nodup) (hi : X.N[i]? = some x) (hx : Loc X.env.scope x) (he : PE X e te) (ho : OpRS X (inplaceOp op) ti) (hf : X.fn x = true ∨ X.env.scope.names.lookup x = some .local := by first | exact .inl rfl | exact .inr rfl | assumption) :
    PS X (.AugAssign (.Name x pos') op e pos) (tAugR i te ti) := by
  refine ⟨fun pins s σ H D I h => ?_⟩
  obtain ⟨v, e1, h⟩ := h
  obtain ⟨m, hn, hl⟩ := I.loc
  have vis : Vis X.env.scope x := by rcases hx with k | k; exact .inl k; exact .inr (.inl k)
  obtain ⟨u, r, l⟩ := hl i x v hi e1 vis
  refine wpAny_AugAssign_Name ?_
  have go : wpAny (model X.prog X.w) X.A (eval e X.env) (fun w s₂ => wpAny (model X.prog X.w) X.A (inplaceOp op u w) (fun r s₃ => wpAny (model X.prog X.w) X.A (storeName X.env x r) (fun _ => SP X pins D .next) X.xe s₃) X.xe s₂) X.xe s := by
    refine thn (he.run pins s σ H _ I h) fun w s1 ⟨y, H1, I1, r1, q1⟩ => ?_
    refine thn (ho pins s1 σ H1 v y u w _ I1 r r1 q1) fun z s2 ⟨zv, H2, I2, r2, q2⟩ => ?_
    exact store_ok I2 hN hi hx r2 (fun s3 I3 => ⟨_, H2, I3, q2⟩) hf
  rcases l with ⟨hk, hm⟩ | ⟨hk, c, hc, hcell⟩
  · exact wpAny_loadName_local I.ok.kind hk hn hm go
  · rcases hk with hk | hk
    · exact wpAny_loadName_cell I.ok.kind hk hc hcell go
    · rcases hx with k | k
      · have : X.env.scope.names.lookup x = some .free := hk
        rw [k] at this; cases this
      · have : X.env.scope.names.lookup x = some .free := hk
        rw [k] at this; cases this
section
variable {X : Cx} {W : WX} {n : En} {e : Expr} {fe : M D} {k j i : Nat} {T : List (Str × Fn)} {pos pos' : Pos} {m x : Str}
theorem op_iorO {op : Operator} {m : Str} (tk : Takes X W) (hm : m = PySem.dunderI op.info.2) : OpRS X (inplaceOp op) (fun σ x y H Q => OwnR X W m (fun v H' Q => Q v H') σ [x, y] H Q ∧ (∀ a C dx fs, x = .ref a → H a = some (.ins C dx fs) → OpC X.K C op)) := by
  subst hm
  intro pins s σ H x y v u Q I rx ry ⟨⟨a, C, dx, fs, f, fd, ps, sp, k, ys, e1, hp, ⟨hme, _⟩, hb, F, hr, q⟩, hop⟩
  cases e1
  cases (show v = Value.ref a from rx)
  have o := hop a C dx fs rfl hp
  obtain ⟨mA, J, _⟩ := ins_get I.hok hp
  obtain ⟨od, J, _⟩ := J.look
  obtain ⟨mm, hF⟩ := I.fr
  have run := wpAny_mono (run_at tk F (hr.mono (Nat.le_succ _)) I.env0 hb I (.cons (show RelV (.ref a) (.ref a) from rfl) (.cons ry .nil)) q) (fun u s' z => back_cmp z) fun _ _ x => x
  exact PySem.W.ksp_inplace hF I.ok.mod.kin J o.first hme.at_ hme.fn run
/-- x op= e, x a thing whose class has its own method for it -/
def augO (i : Nat) (m : Str) (T : List (Str × Fn)) (fe : M D) : MS := fun ρ ω => match ρ[i]? with
  | some (.fz x) => bindS fe (fun y => bindS (ownM m T x [y]) fun z ρ ω => some (.nx (ρ.set i (.fz z)) ω)) ρ ω
  | _ => none
theorem ds_augO {op : Operator} (tk : Takes X W) (hm : m = PySem.dunderI op.info.2) (cm : CalMs X.prog X.w X.K X.mg X.base m k T) (ho : OpFs X.K X.mg op T) (hr : Room j X.A) (hj : k + 1 ≤ j) (hN : X.N.Nodup) (he : PE X e (tM ⟨X.K, X.mg⟩ rD W fe)) (hi : X.N[i]? = some x := by rfl) (hx : Loc X.env.scope x := by first | exact Or.inl rfl | exact Or.inr rfl)
    (hf : X.fn x = true ∨ X.env.scope.names.lookup x = some .local := by first | exact .inl rfl | exact .inr rfl | assumption) : PS X (.AugAssign (.Name x pos') op e pos) (tS ⟨X.K, X.mg⟩ n W (augO i m T fe)) :=
  (ps_augR hN hi hx he (op_iorO tk hm) hf).dl fun D σ H ⟨A, B, ρ, ω, r, s, fm, e, res⟩ => by
    unfold augO at e
    split at e
    · rename_i d hd
      obtain ⟨v, hv, rv⟩ := fm.sl.val i _ hd
      refine ⟨v, hv, ?_⟩
      refine tM_mono (tS_bind s fm e res) fun y H1 ⟨A1, B1, ω1, d1, t1, m1, s1, fm1, r1, e1, res1⟩ => ?_
      have hx := Dp.mv m1 _ _ rv
      unfold bindS at e1
      cases q : ownM m T d [d1] ρ ω1 with
      | none => rw [q] at e1; cases e1
      | some z =>
        refine ⟨own_at (W := W) (r := z) rfl cm hr hj fm1 hx (.cons r1 .nil) q ?_, own_cls (Q := fun _ _ => True) (y := y) rfl fm1.wo hx ho q⟩
        rw [q] at e1
        cases z with
        | exc x ω' =>
          have e' : some (RS.exc x ρ ω') = some r := e1
          cases e'
          exact fun cls dd A' B' H' t w x => res1 cls dd σ A' B' H' (fm1.wo.mv t) (s1.trans t) (fm1.up t w) x
        | val a ω' =>
          have e' : some (RS.nx (ρ.set i (.fz a)) ω') = some r := e1
          cases e'
          exact fun v A2 B2 H2 t w rl => (res1.mv (fm1.wo.mv t)).next (.refl _ _ _) (s1.trans t) ((fm1.up t w).setF rl)
    · cases e
end
end DL
/-! DL42: == of two dicts of the store whose values are compared by own code. -/
namespace PySem.W
open Lean Elab Tactic Meta PySem PySem.Calls PyProof.Rows PyProof.V PySem.Spec
section
variable {prog : Program} {w : World} {K : Type} [DecidableEq K] {knd : KeyKind prog w K} {A : Around} {E : Value → Shared → Prop} {s : Shared}
/-- the two dicts stay what they are while their values are compared -/
theorem samePairsB {nm : String} {a b : Addr} {ka kb : List (K × Value)} {oa ob : Obj} {Q : Bool → Shared → Prop} (ha : (a == sysModules) = false) (hb : (b == sysModules) = false)
    (da : s.heap.DictOf knd a ka) (db : s.heap.DictOf knd b kb) (ga : s.heap.get? a = some oa) (gb : s.heap.get? b = some ob) (hlen : ka.length = kb.length)
    (J : Nat → Shared → Prop) (h0 : J 0 s) (hJ : ∀ i s', J i s' → s'.heap.get? a = some oa ∧ s'.heap.get? b = some ob)
    (turn : ∀ i (hi : i < ka.length) s', J i s' → (valueAt kb ka[i].1 = none ∧ Q false s') ∨ ∃ y, valueAt kb ka[i].1 = some y ∧ wpAny (model prog w) A (eqBool ka[i].2 y) (fun e s2 => (e = true ∧ J (i + 1) s2) ∨ (e = false ∧ Q false s2)) E s')
    (fin : ∀ s', J ka.length s' → Q true s') : wpAny (model prog w) A (Builtin.Dict.samePairs nm a b) Q E s := by
  obtain ⟨oa', es, ep, hoa, _, hda, hka, hpa, _⟩ := da
  obtain ⟨ob', es', ep', hob, _, hdb, hkb, hpb, _⟩ := db
  have eoa : oa' = oa := Option.some.inj (hoa.symm.trans ga)
  have eob : ob' = ob := Option.some.inj (hob.symm.trans gb)
  subst eoa eob
  have hla : ka.length = es.size := by rw [← hpa.length]; exact Array.length_toList
  have hlb : kb.length = es'.size := by rw [← hpb.length]; exact Array.length_toList
  have hfind : ∀ k, findBy knd.is es' k = valueAt kb k := fun k => by
    rw [← hpb.find k]
    clear hlb hpb hkb hdb hob gb hJ
    obtain ⟨l⟩ := es'
    simp [findBy]
  have hsz : es.size = es'.size := by omega
  unfold Builtin.Dict.samePairs Builtin.Dict.showsAll
  rw [if_neg (show ¬ (a == sysModules) = true by rw [ha]; exact Bool.false_ne_true), if_neg (show ¬ (b == sysModules) = true by rw [hb]; exact Bool.false_ne_true)]
  refine wpAny_bind (wpAny_pure (wpAny_bind (wpAny_pure ?_)))
  refine wpAny_bind (wpAny_dictEntries hoa hda ?_)
  dsimp only
  refine wpAny_bind (wpAny_dictEntries hob hdb ?_)
  rw [if_neg (by rw [hsz]; simp)]
  refine wpAny_bind (wpAny_dictEpoch hoa hda ?_)
  refine wpAny_bind ?_
  rw [Std.Legacy.Range.forIn_eq_forIn_range']
  simp only [Std.Legacy.Range.size, Nat.sub_zero, Nat.add_sub_cancel, Nat.div_one]
  refine wpAny_forIn_list _
    (fun rest q s' => q = (none, ()) ∧ ∃ i, rest = List.range' i (es.size - i) ∧ i ≤ es.size ∧ J i s')
    _ ?_ ?_ _ _ ⟨rfl, 0, by simp, Nat.zero_le _, h0⟩
  · rintro x rest q s' ⟨rfl, i, hr, hi, hpre⟩
    have hlt : i < es.size := by
      rcases Nat.lt_or_ge i es.size with h | h
      · exact h
      · rw [Nat.sub_eq_zero_of_le h] at hr; simp at hr
    obtain ⟨rfl, hrest⟩ : x = i ∧ rest = List.range' (i + 1) (es.size - (i + 1)) := by
      have e : es.size - i = (es.size - (i + 1)) + 1 := by omega
      rw [e, List.range'_succ] at hr
      injection hr with h1 h2
      exact ⟨h1, h2⟩
    obtain ⟨hoa1, hob1⟩ := hJ _ _ hpre
    refine wpAny_bind (wpAny_dictEntries hoa1 hda ?_)
    rw [Array.getElem?_eq_getElem hlt]
    have hlt' : x < ka.length := by rw [hla]; exact hlt
    obtain ⟨k, v, hkv⟩ : ∃ k v, ka[x] = (k, v) := ⟨_, _, rfl⟩
    have htu := turn x hlt' s' hpre
    rw [hkv] at htu
    obtain ⟨hkey, hval⟩ := hpa.get? (i := x) (e := es[x]) (k := k) (v := v) (by rw [Array.getElem?_toList]; exact Array.getElem?_eq_getElem hlt) (by rw [List.getElem?_eq_getElem hlt', hkv])
    obtain ⟨k', hk', hh⟩ := hka es[x] (Array.getElem_mem hlt)
    have ekk : k' = k := knd.inj _ _ _ hk' hkey
    rw [ekk] at hh
    show wpAny _ _ (holding [es[x].key, es[x].val] _ >>= _) _ _ _
    rw [hh]
    refine wpAny_bind (wpAny_holding (wpAny_bind (wpAny_dictFind_of hkey hob1 hdb hkb ?_)))
    cases hj : es'.findIdx? fun e => knd.is k e.key with
    | none =>
      have hn : valueAt kb k = none := by rw [← hfind k, findBy_of_findIdx?, hj]
      rcases htu with ⟨_, hq⟩ | ⟨y, hy, _⟩
      · refine wpAny_pure ?_
        show wpAny _ _ (if (!false) = true then _ else _) _ _ _
        rw [if_pos (by decide)]
        exact wpAny_pure (wpAny_pure hq)
      · rw [hn] at hy; exact nomatch hy
    | some j =>
      obtain ⟨hjlt, _, _⟩ := Array.findIdx?_eq_some_iff_getElem.mp hj
      have hv' : valueAt kb k = some es'[j].val := by
        rw [← hfind k, findBy_of_findIdx?, hj]
        simp [Array.getElem?_eq_getElem hjlt]
      refine wpAny_bind (wpAny_dictEntries hob1 hdb ?_)
      rw [Array.getElem?_eq_getElem hjlt]
      rcases htu with ⟨hn, _⟩ | ⟨y, hy, he⟩
      · rw [hv'] at hn; exact nomatch hn
      · have ey : es'[j].val = y := Option.some.inj (hv'.symm.trans hy)
        rw [← ey] at he
        change wpAny (model prog w) A (eqBool v es'[j].val) _ E s' at he
        rw [← hval] at he
        refine wpAny_holding (wpAny_mono he (fun e s2 h2 => ?_) fun _ _ x => x)
        rcases h2 with ⟨rfl, h2⟩ | ⟨rfl, h2⟩
        · show wpAny _ _ (if (!true) = true then _ else _) _ _ _
          rw [if_neg (by decide)]
          refine wpAny_bind (wpAny_dictEpoch (hJ _ _ h2).1 hda ?_)
          rw [if_neg (by simp)]
          exact wpAny_pure ⟨rfl, x + 1, hrest, hlt, h2⟩
        · show wpAny _ _ (if (!false) = true then _ else _) _ _ _
          rw [if_pos (by decide)]
          exact wpAny_pure (wpAny_pure h2)
  · rintro q s' ⟨rfl, i, hr, hi, hpre⟩
    have hin : i = es.size := by
      rcases Nat.lt_or_ge i es.size with h | h
      · have e : es.size - i = (es.size - (i + 1)) + 1 := by omega
        rw [e, List.range'_succ] at hr; exact nomatch hr
      · exact Nat.le_antisymm hi h
    refine wpAny_pure ?_
    rw [hin, ← hla] at hpre
    exact fin _ hpre
theorem rcB_dicts {a b : Addr} {ka kb : List (K × Value)} {oa ob : Obj} {E Q : Value → Shared → Prop} (ha : (a == sysModules) = false) (hb : (b == sysModules) = false)
    (da : s.heap.DictOf knd a ka) (db : s.heap.DictOf knd b kb) (ga : s.heap.get? a = some oa) (gb : s.heap.get? b = some ob) (hu : A.units < cLine)
    (J : Nat → Shared → Prop) (h0 : J 0 s) (hJ : ∀ i s', J i s' → s'.heap.get? a = some oa ∧ s'.heap.get? b = some ob)
    (turn : ka.length = kb.length → ∀ i (hi : i < ka.length) s', J i s' → (valueAt kb ka[i].1 = none ∧ Q (.bool false) s') ∨ ∃ y, valueAt kb ka[i].1 = some y ∧ wpAny (model prog w) A.in1 (eqBool ka[i].2 y) (fun e s2 => (e = true ∧ J (i + 1) s2) ∨ (e = false ∧ Q (.bool false) s2)) E s')
    (fin : ka.length = kb.length → ∀ s', J ka.length s' → Q (.bool true) s') (hne : ka.length ≠ kb.length → Q (.bool false) s) : wpAny (model prog w) A (richCompare .Eq (.ref a) (.ref b)) Q E s := by
  by_cases hlen : ka.length = kb.length
  case neg =>
    refine rcP_dicts (r := false) ha hb da db hu (fun e => absurd e hlen) E Q ?_
    have : (ka.length == kb.length && false) = false := Bool.and_false _
    rw [this]
    exact hne hlen
  case pos =>
    refine wpAny_richCompare_same_room (op := .Eq) da.typeIs db.typeIs PySem.F.slot_dict_eq (wpAny_call_entry PySem.F.slot_dict_eq da.typeIs PySem.F.entry_dict_eq ?_ (PySem.F.args_dict_eq_2 _ _)) hu
    show wpAny _ _ (Builtin.Dict.dictSlotArgs "__eq__" ⟨[.ref a, .ref b], []⟩ >>= _) _ _ s
    refine wpAny_bind ?_
    unfold Builtin.Dict.dictSlotArgs
    refine wpAny_bind (wpAny_notOrdered_dict da.typeIs ?_)
    show wpAny _ _ (pure (Value.ref a, Value.ref b)) _ _ s
    refine wpAny_pure ?_
    refine wpAny_bind (wpAny_isInstance (T := "dict") db.typeIs PySem.F.sub_dict_dict ?_)
    simp only [Bool.not_true, Bool.false_eq_true, if_false]
    refine wpAny_bind (wpAny_pure (wpAny_bind (wpAny_pure ?_)))
    refine wpAny_bind (wpAny_mono (samePairsB (Q := fun r s' => Q (.bool r) s') ha hb da db ga gb hlen J h0 hJ (turn hlen) (fin hlen)) (fun r s' h => ?_) fun _ _ x => x)
    refine wpAny_pure ⟨_, rfl, ?_, ?_⟩
    · exact fun x => nomatch x
    · simpa using h
end
end PySem.W
/-! DL43: == of two locked dicts of the store, their values compared by own __eq__. -/
namespace DL
open PySem L2
section
/-- the pairs of one dict against another dict -/
noncomputable def eqKv (T : List (Str × Fn)) (ω : List Cell) (kb : List (Key × D)) : List (Key × D) → Option Bool
  | [] => some true
  | p :: r => match valD kb p.1 with
    | none => some false
    | some e => match eqv T ω p.2 e with
      | some true => eqKv T ω kb r
      | q => q
noncomputable def eqDic (T : List (Str × Fn)) (ω : List Cell) (ka kb : List (Key × D)) : Option Bool := if ka.length = kb.length then eqKv T ω kb ka else some false
def okK (cs : List Str) (ks : List (Key × D)) : Bool := ks.all fun p => shp cs p.2 && decide (ht p.2 ≤ 6)
noncomputable def eqKTop (T : List (Str × Fn)) (x y : D) : M D := fun _ ω => match x, y with
  | .oid i, .oid j => match ω[i]?, ω[j]? with
    | some (.ldc ka), some (.ldc kb) => if (okK (T.map (·.1)) ka && okK (T.map (·.1)) kb) = true then (eqDic T ω ka kb).map fun b => .val (.bl b) ω else none
    | _, _ => none
  | _, _ => none
noncomputable def eqKM (T : List (Str × Fn)) (fa fb : M D) : M D := fa.bind fun x => fb.bind fun y => eqKTop T x y
theorem DpK.at' {g : G} {A : Ad} {B : Addr → Prop} {H : Hp} : ∀ {ds : List (Key × D)} {vs : List (Key × V)}, DpK g A B H vs ds → ∀ {i : Nat} {k : Key} {x : V}, vs[i]? = some (k, x) → ∃ d, ds[i]? = some (k, d) ∧ Dp g A B H x d
  | [], _, h, i, k, x, e => by cases h; cases e
  | p :: ds, _, h, i, k, x, e => by
    cases h with
    | cons h1 h2 =>
      cases i with
      | zero => cases e; exact ⟨_, rfl, h1⟩
      | succ i => exact DpK.at' h2 e
def rEqK (X : Cx) (W : WX) (T : List (Str × Fn)) : St → R2 := fun σ x y H Q => ∃ A B ω a c oa oc va vc ka kb b, Wo ⟨X.K, X.mg⟩ A B H ω ∧ x = .ref a ∧ y = .ref c ∧ H a = some (.frz oa (.dK va)) ∧ H c = some (.frz oc (.dK vc)) ∧ DpK ⟨X.K, X.mg⟩ A B H va ka ∧ DpK ⟨X.K, X.mg⟩ A B H vc kb ∧ okK (T.map (·.1)) ka = true ∧ okK (T.map (·.1)) kb = true ∧ eqDic T ω ka kb = some b ∧
  ∀ A1 B1 H1, Stp A B H A1 B1 H1 → Wo ⟨X.K, X.mg⟩ A1 B1 H1 ω → Q (.bl b) H1
variable {X : Cx} {W : WX} {T : List (Str × Fn)} {k : Nat}
theorem okK_mem {cs : List Str} {ks : List (Key × D)} (h : okK cs ks = true) {i : Nat} {p : Key × D} (hp : ks[i]? = some p) : shp cs p.2 = true ∧ ht p.2 ≤ 6 := by
  have := List.all_eq_true.mp h p (List.mem_of_getElem? hp)
  simpa using this
theorem valD_mem {ks : List (Key × D)} {key : Key} {d : D} (h : valD ks key = some d) : ∃ i : Nat, ks[i]? = some (key, d) := by
  induction ks with
  | nil => cases h
  | cons p r ih =>
    obtain ⟨k', d'⟩ := p
    rw [valD_cons] at h
    by_cases e : k' = key
    · rw [if_pos e] at h
      cases h
      exact ⟨0, by rw [← e]; rfl⟩
    · rw [if_neg e] at h
      obtain ⟨i, hi⟩ := ih h
      exact ⟨i + 1, hi⟩
theorem op_eqK {j : Nat} (tk : Takes X W) (cm : CalMs X.prog X.w X.K X.mg X.base "__eq__" k T) (hi : InjC X.mg (T.map (·.1))) (hr : Room j X.A) (hj : k + 8 ≤ j) : OpRS X (compareOp .Eq) (rEqK X W T) := by
  intro pins s σ H x y v u Q I rx ry ⟨A, B, ω, a, c, oa, oc, va, vc, ka, kb, b, wo, ex, ey, ha, hc, la, lc, za, zc, e, q⟩
  subst ex ey
  cases (show v = Value.ref a from rx)
  cases (show u = Value.ref c from ry)
  show wpAny (model X.prog X.w) X.A (richCompare .Eq (.ref a) (.ref c)) (EP X pins σ Q) X.xe s
  obtain ⟨_, sa, ua, kva, da⟩ := dk_rd I.hok (.inr ⟨oa, ha⟩)
  obtain ⟨_, sc, uc, kvc, dc⟩ := dk_rd I.hok (.inr ⟨oc, hc⟩)
  have ga := (I.hok a _ ha).1
  have gc := (I.hok c _ hc).1
  have n1 : ua.length = ka.length := by rw [← kva.length]; exact la.len
  have n2 : uc.length = kb.length := by rw [← kvc.length]; exact lc.len
  have fin : ∀ s', AftE X pins σ A B H ω s' → EP X pins σ Q (.bool b) s' := fun s' ⟨A1, B1, H1, I1, t1, w1⟩ => ⟨.bl b, H1, I1, rfl, q A1 B1 H1 t1 w1⟩
  unfold eqDic at e
  refine PySem.W.rcB_dicts sa sc da dc ga gc (Room.u0 hr) (fun i s' => AftE X pins σ A B H ω s' ∧ eqKv T ω kb (ka.drop i) = some b ∧ ka.length = kb.length ∨ (AftE X pins σ A B H ω s' ∧ ka.length ≠ kb.length)) ?_ ?_ ?_ ?_ ?_
  · by_cases hl : ka.length = kb.length
    · rw [if_pos hl] at e
      exact .inl ⟨⟨A, B, H, I, .refl _ _ _, wo⟩, by rw [List.drop_zero]; exact e, hl⟩
    · exact .inr ⟨⟨A, B, H, I, .refl _ _ _, wo⟩, hl⟩
  · intro i s' h
    have af : AftE X pins σ A B H ω s' := by
      rcases h with h | h
      · exact h.1
      · exact h.1
    obtain ⟨A1, B1, H1, I1, t1, w1⟩ := af
    exact ⟨(I1.hok a _ (t1.frz a oa _ ha)).1, (I1.hok c _ (t1.frz c oc _ hc)).1⟩
  · intro hl i hi' s' h
    rcases h with ⟨af, e1, hl'⟩ | ⟨_, hl'⟩
    case inr => exact absurd (by omega) hl'
    obtain ⟨k0, v0, hkv⟩ : ∃ k0 v0, ua[i] = (k0, v0) := ⟨_, _, rfl⟩
    have hu : ua[i]? = some (k0, v0) := by rw [List.getElem?_eq_getElem hi', hkv]
    obtain ⟨x0, hx0, rv0⟩ := kva.at' hu
    obtain ⟨d0, hd0, dp0⟩ := la.at' hx0
    have hki : i < ka.length := by omega
    have hdr : ka.drop i = (k0, d0) :: ka.drop (i + 1) := by
      rw [List.drop_eq_getElem_cons hki]
      rw [List.getElem?_eq_getElem hki] at hd0
      rw [Option.some.inj hd0]
    rw [hdr] at e1
    unfold eqKv at e1
    rw [hkv]
    have rel := kvc.val k0
    rcases lc.val k0 with ⟨w1, w2⟩ | ⟨e0, y0, w1, w2, dp1⟩
    · left
      rw [w2] at rel
      simp only [w1] at e1
      cases e1
      refine ⟨?_, fin s' af⟩
      cases z : PySem.valueAt uc k0 with
      | none => rfl
      | some z' => rw [z] at rel; exact rel.elim
    · right
      rw [w2] at rel
      simp only [w1] at e1
      cases z : PySem.valueAt uc k0 with
      | none => rw [z] at rel; exact rel.elim
      | some y1 =>
        rw [z] at rel
        refine ⟨y1, rfl, ?_⟩
        cases q1 : eqv T ω d0 e0 with
        | none => simp only [q1] at e1; cases e1
        | some cb =>
          simp only [q1] at e1
          obtain ⟨A1, B1, H1, I1, t1, w3⟩ := af
          have mv := wo.mv t1
          have z1 := okK_mem za hd0
          obtain ⟨i2, hi2⟩ := valD_mem w1
          have z2 := okK_mem zc hi2
          refine wpAny_mono (eqP_all tk cm hi d0 e0 (j - 1) X.A.in1 pins s' σ H1 v0 y1 x0 y0 cb A1 B1 ω (by have hh : ht d0 ≤ 6 := z1.2; omega) (Sub.in1 ((show Sub X j X.A from ⟨hr, rfl⟩).mono (by omega))) I1 rv0 rel w3 z1.1 z2.1 (Dp.mv mv _ _ dp0) (Dp.mv mv _ _ dp1) q1) (fun r s2 p => ?_) fun _ _ x => x
          obtain ⟨rfl, A2, B2, H2, I2, t2, w4⟩ := p
          have af2 : AftE X pins σ A B H ω s2 := ⟨A2, B2, H2, I2, t1.trans t2, w4⟩
          cases r with
          | true => exact .inl ⟨rfl, .inl ⟨af2, e1, hl'⟩⟩
          | false => cases e1; exact .inr ⟨rfl, fin s2 af2⟩
  · intro hl s' h
    rcases h with ⟨af, e1, hl'⟩ | ⟨_, hl'⟩
    case inr => exact absurd (by omega) hl'
    rw [n1, List.drop_length] at e1
    cases e1
    exact fin s' af
  · intro hl
    rw [if_neg (by omega)] at e
    cases e
    exact fin s ⟨A, B, H, I, .refl _ _ _, wo⟩
theorem tM_eqK {fa fb : M D} : ∀ σ H Q, tM ⟨X.K, X.mg⟩ rD W (eqKM T fa fb) σ H Q → tOpS (rEqK X W T) (tM ⟨X.K, X.mg⟩ rD W fa) (tM ⟨X.K, X.mg⟩ rD W fb) σ H Q := by
  rintro σ H Q ⟨H0, A, B, ρ, ω, r, fm, e, res⟩
  refine tM_mono (tM_bind fm e res) fun x H1 ⟨A1, B1, ω1, d1, t1, fm1, r1, e1, res1⟩ => ?_
  refine tM_mono (tM_bind fm1 e1 res1) fun y H2 ⟨A2, B2, ω2, d2, t2, fm2, r2, e2, res2⟩ => ?_
  have hx := Dp.mv (fm1.wo.mv t2) _ _ r1
  unfold eqKTop at e2
  split at e2
  · rename_i i j
    split at e2
    · rename_i ka kb h1 h2
      split at e2
      · rename_i hz
        rw [Bool.and_eq_true] at hz
        cases q : eqDic T ω2 ka kb with
        | none => rw [q] at e2; cases e2
        | some b =>
          rw [q] at e2
          cases e2
          obtain ⟨a, oa, va, rfl, _, ha, la⟩ := ldc_at fm2.wo h1 hx
          obtain ⟨c, oc, vc, rfl, _, hc, lc⟩ := ldc_at fm2.wo h2 r2
          exact ⟨A2, B2, ω2, a, c, oa, oc, va, vc, ka, kb, b, fm2.wo, rfl, rfl, ha, hc, la, lc, hz.1, hz.2, q, fun A' B' H' t w => res2 _ A' B' H' t w (.bl b)⟩
      · cases e2
    · cases e2
  · cases e2
theorem de_eqK {a b : Expr} {fa fb : M D} {j : Nat} {pos : Pos} (tk : Takes X W) (cm : CalMs X.prog X.w X.K X.mg X.base "__eq__" k T) (hi : InjC X.mg (T.map (·.1))) (hr : Room j X.A) (hj : k + 8 ≤ j) (ha : PE X a (tM ⟨X.K, X.mg⟩ rD W fa)) (hb : PE X b (tM ⟨X.K, X.mg⟩ rD W fb)) : PE X (.Compare a [.Eq] [b] pos) (tM ⟨X.K, X.mg⟩ rD W (eqKM T fa fb)) :=
  (pe_cmpRS (op_eqK tk cm hi hr hj) ha hb (nomark _)).dl tM_eqK
end
end DL
/-! DL44: min of a list of texts; two classes apart. -/
namespace DL
open PySem L2
def minStr (x : Str) (r : List Str) : Str := r.foldl (fun a y => if PySem.W.dataLt (.str y) (.str a) = true then y else a) x
theorem minD_strs : ∀ (r : List Str) (x : Str), PySem.W.minD (.str x) (r.map PyData.str) = .str (minStr x r)
  | [], x => rfl
  | y :: r, x => by
    have ih := minD_strs r (if PySem.W.dataLt (.str y) (.str x) = true then y else x)
    unfold PySem.W.minD at ih ⊢
    unfold minStr at ih ⊢
    rw [List.map_cons, List.foldl_cons, List.foldl_cons, ← ih]
    congr 1
    split <;> rfl
theorem minStr_mem : ∀ (r : List Str) (x : Str), minStr x r ∈ x :: r
  | [], x => List.mem_cons_self ..
  | y :: r, x => by
    have := minStr_mem r (if PySem.W.dataLt (.str y) (.str x) = true then y else x)
    unfold minStr at this ⊢
    rw [List.foldl_cons]
    rcases List.mem_cons.mp this with h | h
    · rw [h]
      split
      · exact List.mem_cons_of_mem _ (List.mem_cons_self ..)
      · exact List.mem_cons_self ..
    · exact List.mem_cons_of_mem _ (List.mem_cons_of_mem _ h)
def rMinS (K : PySem.W.Frag) : List V → Hp → VK → Prop := fun vs H Q => ∃ (a : Addr) (x : Str) (xs : List Str), vs = [V.ref a] ∧ SqL K H a ((x :: xs).map V.str) ∧ Q (.str (minStr x xs)) H
theorem reads_strs {h : Heap} : ∀ {xs : List Str} {its : List Value}, Vals (xs.map V.str) its → ReadsAll h its (xs.map PyData.str) []
  | [], _, r => by cases r; exact .nil
  | x :: xs, _, r => by
    cases r with
    | cons r1 r2 =>
      obtain ⟨t, rfl⟩ := (show ∃ t, _ = Value.str x t from r1)
      exact ReadsAll.cons (as := []) (bs := []) (.str x t) (reads_strs r2)
theorem depth_strs : ∀ xs : List Str, PyData.depthAll (xs.map PyData.str) = 0
  | [] => rfl
  | x :: r => by
    show max 0 (PyData.depthAll (r.map PyData.str)) = 0
    rw [depth_strs r]; rfl
section
variable {X : Cx} {g : G} {W : WX} {e : Expr} {fa : M D} {j : Nat} {p pos : Pos}
theorem cr_minS (hc : X.calm = true) (hu : X.A.units + 1 < cLine) : CallR X (.builtin "min") (rMinS X.K) := by
  intro pins s σ H vs us Q I r h
  obtain ⟨a, x, xs, rfl, hs, q⟩ := h
  obtain ⟨its, rv, hl, _⟩ := I.list hs
  rw [Vals.ref1 r]
  have al : PySem.W.AlikeAll (PyData.str x :: xs.map PyData.str) := by
    refine ⟨fun y hy z hz => ?_, fun y hy => ?_⟩
    · obtain ⟨y', _, rfl⟩ := List.mem_map.mp (show y ∈ (x :: xs).map PyData.str from hy)
      obtain ⟨z', _, rfl⟩ := List.mem_map.mp (show z ∈ (x :: xs).map PyData.str from hz)
      rfl
    · obtain ⟨y', _, rfl⟩ := List.mem_map.mp (show y ∈ (x :: xs).map PyData.str from hy)
      exact fun z => by cases z
  refine PySem.W.min_list_data (x := .str x) (xs := xs.map PyData.str) (I.ok.hd hc) hl.isList (reads_strs (xs := x :: xs) rv) al (by rw [show PyData.str x :: xs.map PyData.str = (x :: xs).map PyData.str from rfl, depth_strs]; omega) fun i v h' tk bs hv hr hk => ?_
  rw [minD_strs] at hr
  cases hr with
  | str y t => exact ⟨.str _, H, I.kept hk, ⟨_, rfl⟩, q⟩
def minSD : D → Option D
  | .lst ds => match strsD ds with
    | some (x :: r) => some (.str (minStr x r))
    | _ => none
  | _ => none
theorem v_minS (g : G) : V1 g (fun x H Q => rMinS g.K [x] H Q) minSD := by
  intro A B H ω x a c Q w ha e q
  cases a with
  | lst ds =>
    obtain ⟨p, vs, rfl, hp, l⟩ := ha
    simp only [minSD] at e
    split at e
    · rename_i y r hs
      cases e
      have := strsD_eq hs
      subst this
      have hv := DpL.strs_eq l
      subst hv
      exact ⟨p, y, r, rfl, SqL.of hp, q.now w (.str _)⟩
    · cases e
  | _ => cases e
theorem de_minS (hK : X.K = g.K) (hc : X.calm = true) (hr : Room j X.A) (hg : Gl X "min") (hm : X.mg "min" = none) (ha : PE X e (tM g rW W fa)) (he : starEach [e] X.env = (false, eval e X.env) :: starEach [] X.env := by rfl) : PE X (.Call (.Name "min" p) [e] [] pos) (tM g rD W (uo minSD fa)) :=
  de_callB1 (cr_minS hc (hu1 hr)) (by rw [hK]; exact v_minS g) hg hm (by decide +kernel) ha (he := he)
end
theorem minSD_map (x : Str) (r : List Str) : minSD (.lst ((x :: r).map D.str)) = some (.str (minStr x r)) := by
  show (match strsD ((x :: r).map D.str) with | some (x :: r) => some (D.str (minStr x r)) | _ => none) = _
  rw [strsD_map]
theorem injC_two {mg : Str → Option Value} {c c' : Str} {C C' : Addr} (h : mg c = some (.ref C)) (h' : mg c' = some (.ref C')) (hne : (C == C') = false) : InjC mg [c, c'] := by
  have ne : C ≠ C' := fun e => by rw [e] at hne; simp at hne
  intro a ha b hb E h1 h2
  rcases List.mem_cons.mp ha with e1 | e1
  · rcases List.mem_cons.mp hb with e2 | e2
    · rw [e1, e2]
    · have e2 := List.mem_singleton.mp e2
      subst e1 e2
      rw [h] at h1; rw [h'] at h2
      cases h1; cases h2; exact absurd rfl ne
  · have e1 := List.mem_singleton.mp e1
    rcases List.mem_cons.mp hb with e2 | e2
    · subst e1 e2
      rw [h'] at h1; rw [h] at h2
      cases h1; cases h2; exact absurd rfl ne
    · rw [e1, List.mem_singleton.mp e2]
end DL
/-! DL45: a dict is locked while a test is evaluated. -/
namespace DL
open PySem L2
def unlkM (k : Nat) : Option (R D) → Option (R D)
  | some (.val (.bl b) ω) => match ω[k]? with
    | some (.ldc kvs) => some (.val (.bl b) (ω.set k (Cell.dic kvs)))
    | _ => none
  | _ => none
def lockM (f : M D) (F : M D) : M D := fun ρ ω => match f ρ ω with
  | some (.val (.oid k) _) => match ω[k]? with
    | some (.dic kvs) => unlkM k (F ρ (ω.set k (Cell.ldc kvs)))
    | _ => none
  | _ => none
theorem unlkM_some {k : Nat} {o : Option (R D)} {r : R D} (h : unlkM k o = some r) : ∃ b ω kvs, o = some (.val (.bl b) ω) ∧ ω[k]? = some (.ldc kvs) ∧ r = .val (.bl b) (ω.set k (Cell.dic kvs)) := by
  unfold unlkM at h
  split at h
  · rename_i b ω
    split at h
    · rename_i kvs q
      cases h
      exact ⟨b, ω, kvs, rfl, q, rfl⟩
    · cases h
  · cases h
theorem lockM_some {f : M D} {F : M D} {ρ : Rho} {ω : List Cell} {r : R D} (h : lockM f F ρ ω = some r) : ∃ k kvs, ω[k]? = some (.dic kvs) ∧ unlkM k (F ρ (ω.set k (Cell.ldc kvs))) = some r := by
  unfold lockM at h
  split at h
  · rename_i k ω' q
    split at h
    · rename_i kvs q2
      exact ⟨k, kvs, q2, h⟩
    · cases h
  · cases h
theorem de_lockM {X : Cx} {W : WX} {g : G} {F : M D} {e : Expr} (f : M D) (h : PE X e (tM g rD W F)) : PE X e (tM g rD W (lockM f F)) :=
  (pe_lock h).dl fun σ H Q ⟨H0, A, B, ρ, ω, r, fm, e, res⟩ => by
    obtain ⟨k, kvs, hk, e⟩ := lockM_some e
    obtain ⟨b, ω', kvs', eF, hk', rfl⟩ := unlkM_some e
    obtain ⟨a, ha, vs, hp, l⟩ : ∃ a, A[k]? = some (some a) ∧ CellOk g A B H a (.dic kvs) := by
      rcases fm.wo.cell k _ hk with ⟨z, _⟩ | z
      · cases z
      · exact z
    refine ⟨a, .dK vs, hp, True.intro, fun od => ?_⟩
    obtain ⟨fm2, m2⟩ := fm.cellW (u := .frz od (.dK vs)) (c := .ldc kvs) ha (frz_not hp) fun H' _ hu m => ⟨od, vs, hu, DpK.mv m _ _ l⟩
    refine ⟨H0, A, B, ρ, ω.set k (.ldc kvs), _, fm2, eF, fun v A' B' H' t w rl => ?_⟩
    have fz : H' a = some (.frz od (.dK vs)) := t.frz a od _ upd_same
    have ha' : A'[k]? = some (some a) := by
      rcases w.cell k _ hk' with ⟨z, _⟩ | ⟨b, hb, _⟩
      · cases z
      · rcases t.ids k _ ha with z | z
        · exact z
        · rw [hb] at z; cases z
    have l' : DpK g A' B' H' vs kvs' := by
      rcases w.cell k _ hk' with ⟨z, _⟩ | ⟨b, hb, o2, vs2, h1, h2⟩
      · cases z
      · rw [ha'] at hb; cases hb
        rw [fz] at h1; cases h1
        exact h2
    have un := (fm2.up t w).unlock ha' fz l'
    have la : Liv A a := Liv.of ha
    have ss : Stp A B H A' B' (upd H' a (.dK vs)) := by
      refine ⟨fun c o e nn => ?_, fun c o e nn => t.old c o (by rw [upd_ne (fun z => nn (by rw [z]; exact la))]; exact e) nn, fun c hc => ?_, t.ids, fun c o e => ?_, fun c o u e => ?_⟩
      · have ne : c ≠ a := fun z => nn (by rw [z]; exact la)
        rw [upd_ne ne]
        exact t.keep c o (by rw [upd_ne ne]; exact e) nn
      · rcases t.new c hc with z | z
        · exact .inl z
        · by_cases ne : c = a
          · rw [ne, upd_same] at z; cases z
          · rw [upd_ne ne] at z; exact .inr z
      · by_cases z : c = a
        · exact ⟨_, by rw [z]; exact upd_same⟩
        · obtain ⟨o', q⟩ := t.trk c o (by rw [upd_ne z]; exact e)
          exact ⟨o', by rw [upd_ne z]; exact q⟩
      · have ne : c ≠ a := fun z => by rw [z, hp] at e; cases e
        rw [upd_ne ne]
        exact t.frz c o u (by rw [upd_ne ne]; exact e)
    cases rl
    exact ⟨fz, res _ A' B' _ ss un.wo (.bl b)⟩
end DL
/-! DL46: an __init__ with one default value, called with all arguments. -/
namespace DL
open PySem L2
section
variable {P : Program} {w : World} {K : PySem.W.Frag} {mg : Str → Option Value} {base : Heap} {x qual : Str} {st : Stmt} {f : Addr} {fd : FuncData} {N ps : List Str} {k : Nat} {Gf : Fn} {F : MS} {dvs : List V} {kws : List (Str × V)}
theorem fn_xD (Fu : FunD K x qual (defArgs st) (defBody st) (defScope st) dvs kws f fd) (S : FnScope N ps (defScope st)) (hl : ∀ ds ω r, Gf ds ω = some r → ds.length = ps.length)
    (body : ∀ (cdv : Value) (A : Around) (outer : List PySem.Env) (s : Shared) (H : Hp) (E : XK) (n : En), Room k (A.deeper (PyProof.Rows.envOfC qual (defScope st) s.heap.objs.size f cdv)) → PSs (cxOf (L2.CX P w) P w K mg base N qual (defScope st) f cdv A outer s H E) (defBody st) (tS ⟨K, mg⟩ n (fun cls d _ H => E cls d H) F))
    (hf : ∀ ds ω r, Gf ds ω = some r → ∃ rs, F (startE N ds) ω = some rs ∧ retOf rs = some r) : FnOk P w K mg base (L2.CX P w) (k + 1) f fd ps (spD ⟨K, mg⟩ Gf) := by
  refine Fu.ok S (fun vs H Q E ⟨A, B, ω, ds, r, w, l, e, q⟩ => by rw [l.length]; exact hl ds ω r e) fun cdv A outer s H vs Q E hr ⟨Aa, B, ω, ds, r, wo, l, e, q⟩ => ?_
  refine ⟨_, body cdv A outer s H E ⟨Aa, B, H⟩ hr, ?_⟩
  obtain ⟨rs, eF, er⟩ := hf ds ω r e
  refine ⟨Aa, B, startE N ds, ω, rs, .refl _ _ _, ⟨wo, slots_start l⟩, eF, ?_⟩
  cases rs with
  | rt d' ω2 =>
    cases er
    exact fun v A' B' H' t w dp => q v A' B' H' t w dp
  | nx ρ2 ω2 =>
    cases er
    exact fun σ' A' B' H' m t fm => q .non A' B' H' t fm.wo .non
  | exc x ρ2 ω2 =>
    cases er
    exact fun cls dd σ' A' B' H' m t fm xo => q cls dd A' B' H' t fm.wo xo
  | _ => cases er
theorem calG_ofD {c fl : Str} (T : FI0 K mg c fl qual st) (hps : ps.length = 2)
    (b : ∀ (T : Addr) (kV doc pm : Value) (an : Option Addr) (cdv ct : Value) (us its : List Value), us.length = 2 → its.length = 1 →
      ∃ k, bindArgs (PySem.W.fnOf "__init__" qual (defArgs st) (defBody st) (defScope st) (.ref T) kV doc pm an cdv ct) ⟨us, []⟩ = seqItems? (.ref T) >>= k ∧ k (some its.toArray) = pure (ps.zip (us ++ its.drop 1)))
    (h : ∀ a fd (T0 : Addr), FunD K "__init__" qual (defArgs st) (defBody st) (defScope st) [V.ref T0] [] a fd → FnOk P w K mg base (L2.CX P w) k a fd ps (spD ⟨K, mg⟩ Gf)) : CalG P w K mg base c ps k Gf := by
  obtain ⟨C, fI, fd, T0, h1, h2, h3, h4, h5, h6⟩ := T.ex
  obtain ⟨ds, hv, hb⟩ := h5.binds1 2 1 (by simp) (by rw [hps]; rfl) b
  cases hv
  exact ⟨C, fI, fd, h1, h2, hb, h fI fd T0 h5⟩
end
end DL
/-! DL47: operators of two own classes, and of a number on the left of a thing. -/
namespace PySem.W
open PySem PySem.Calls PyProof.Rows
section
variable {prog : Program} {w : World} {A : Around} {E : Value → Shared → Prop} {s : Shared} {K : Frag} {x y C D L f f' : Addr} {h₀ : Heap} {m : Str → Option Value} {ox oy : Obj} {od oe : Option Obj}
theorem dl_fillsR {M : Model} {h : Heap} {nm : String} {cd : ClassData} {rest : List Value} (X : K.In h) (hc : clsIn K C = some cd) (hm : cd.mro = .ref C :: rest) (h0 : findIn K (.ref C) (PySem.dunder nm) = some none) (hs : findIn K (.ref C) (dunderR nm) = some (some (.ref f))) : Looks M h (fillsNumberSlot (.ref C) nm) true := by
  intro A Q E s k q
  unfold fillsNumberSlot
  refine wpAny_bind ((looks_clsIn X hc).andThen (f := fun cd => pure cd.mro) .now A _ E s k ?_)
  rw [hm, List.anyM_cons]
  refine wpAny_bind ?_
  show wpAny M A (List.anyM _ [PySem.dunder nm, dunderR nm]) _ _ _
  rw [List.anyM_cons]
  refine wpAny_bind (wpAny_bind (looks_findIn X h0 A _ E s k ?_))
  dsimp only
  refine wpAny_pure ?_
  rw [if_neg Bool.false_ne_true, List.anyM_cons]
  refine wpAny_bind (wpAny_bind (looks_findIn X hs A _ E s k ?_))
  dsimp only
  rw [if_pos (show (!ownNameWrapper (.ref f) (dunderR nm)) = true from rfl)]
  refine wpAny_pure ?_
  rw [if_pos rfl]
  refine wpAny_pure ?_
  rw [if_pos rfl]
  exact wpAny_pure q
theorem dl_binTwo {op : Operator} {rc rd : Option Value} {Q : Value → Shared → Prop} (F : Fr h₀ L s.heap m) (X₀ : K.In h₀) (I : InstAt s.heap x ox C od) (J : InstAt s.heap y oy D oe) (hne : C ≠ D) (hc : selfFirst K C = true) (hd : selfFirst K D = true)
    (hs : findIn K (.ref C) (PySem.dunder op.info.2) = some (some (.ref f))) (hf : isFn K (.ref f) = true) (hr : findIn K (.ref C) (dunderR op.info.2) = some rc) (hp : rc = none ∨ ∃ g : Addr, rc = some (.ref g))
    (hs' : findIn K (.ref D) (PySem.dunder op.info.2) = some (some (.ref f'))) (hr' : findIn K (.ref D) (dunderR op.info.2) = some rd) (hp' : rd = none ∨ ∃ g : Addr, rd = some (.ref g)) (hsub : subIn K (.ref D) (.ref C) = some false)
    (h : wpAny (model prog w) A (call (.ref f) [.ref x, .ref y]) (CmpBack Q) E s) : wpAny (model prog w) A (binaryOp op (.ref x) (.ref y)) Q E s := by
  have X := X₀.keeps F.keep
  obtain ⟨cd, rest, hcd, hm⟩ := ksp_first hc
  obtain ⟨dd, rest', hdd, hm'⟩ := ksp_first hd
  rcases hi : op.info with ⟨sym, nm'⟩
  rw [hi] at hs hr hs' hr'
  dsimp only at hs hr hs' hr'
  have one := ksp_try X I hs hf h
  obtain ⟨hh, g, d, tt, os⟩ := s
  have L1 : Looks (model prog w) hh (typeOf (.ref x)) (.ref C) := I.type
  have L2 : Looks (model prog w) hh (typeOf (.ref y)) (.ref D) := J.type
  have L3 : Looks (model prog w) hh (fillsNumberSlot (.ref C) nm') true := fills_K X hcd hm hs
  have L4 : Looks (model prog w) hh (fillsNumberSlot (.ref D) nm') true := fills_K X hdd hm' hs'
  have L5 : Looks (model prog w) hh (isSubtype (.ref D) (.ref C)) false := looks_subIn X hsub
  have L6 : Looks (model prog w) hh (numberSlotInPython (.ref C) nm') true := ksp_inPy X hs hr hp
  have L7 : Looks (model prog w) hh (numberSlotInPython (.ref D) nm') true := ksp_inPy X hs' hr' hp'
  have hne' : (Value.ref C == Value.ref D) = false := Bool.eq_false_iff.mpr fun q => hne (by cases beq_iff_eq.mp q; rfl)
  simp only [binaryOp, hi]
  refine wpAny_holding (wpAny_bind ?_)
  unfold binaryOp1
  refine wpAny_bind (L1.at (wpAny_bind (L2.at (wpAny_bind (L3.at ?_)))))
  simp only [hne', Bool.false_eq_true, if_false]
  ksp_lk
  refine wpAny_mono one (fun r s' hr' => ?_) fun _ _ e => e
  obtain ⟨v, rfl, hq⟩ := hr'
  ksp_lk
  exact hq
theorem dl_int_mul_own (a : Int) (t : Tok) (l C dx : Addr) :
    Meets (Builtin.«int.__mul__» ⟨[.int a t, .ref l], []⟩) (fun _ R s => s.heap.get? l = some (instObj C dx) ∧ R (.ok (.ret Value.notImplemented)) s) :=
  .of_wp fun prog w A R s h => by obtain ⟨hp, g, d, tk, os⟩ := s; obtain ⟨hl, h⟩ := h; wp_walk; exact ⟨_, rfl, h⟩
theorem dl_rmul {Q : Value → Shared → Prop} {i : Int} {t : Tok} {dx : Addr} (Fm : Fr h₀ L s.heap m) (X₀ : K.In h₀) (J : InstAt s.heap y oy D oe) (hget : s.heap.get? y = some (instObj D dx)) (hd : selfFirst K D = true)
    (hs : findIn K (.ref D) (dunderR "mul") = some (some (.ref f))) (hf : isFn K (.ref f) = true) (hs' : findIn K (.ref D) (PySem.dunder "mul") = some none ∨ ∃ f' : Addr, findIn K (.ref D) (PySem.dunder "mul") = some (some (.ref f'))) (hsub : subIn K (.ref D) (.type "int") = some false)
    (h : wpAny (model prog w) A (call (.ref f) [.ref y, .int i t]) (CmpBack Q) E s) : wpAny (model prog w) A (binaryOp .Mult (.int i t) (.ref y)) Q E s := by
  have X := X₀.keeps Fm.keep
  obtain ⟨dd, rest', hdd, hm'⟩ := ksp_first hd
  have one := ksp_try X J hs hf h
  have no : wpAny (model prog w) A (tryMethod (.int i t) (PySem.dunder "mul") (.ref y)) (fun r s' => r = none ∧ s' = s) E s :=
    wpAny_tryMethod_declines (typeIs_int s i t) F.slot_int_mul (call_meets F.slot_int_mul (typeIs_int s i t) F.entry_int_mul (F.args_int_mul_2 _ _) (dl_int_mul_own i t y D dx) ⟨hget, rfl, rfl, rfl⟩)
  obtain ⟨hh, g, d, tt, os⟩ := s
  have L1 : Looks (model prog w) hh (typeOf (.ref y)) (.ref D) := J.type
  have L2 : Looks (model prog w) hh (typeOf (.int i t)) (.type "int") := Looks.of_pure rfl
  have L3 : Looks (model prog w) hh (fillsNumberSlot (.type "int") "mul") true := Looks.of_pure F.fills_int_mul
  have L4 : Looks (model prog w) hh (fillsNumberSlot (.ref D) "mul") true := by
    rcases hs' with q | ⟨f', q⟩
    · exact dl_fillsR X hdd hm' q hs
    · exact fills_K X hdd hm' q
  have L5 : Looks (model prog w) hh (isSubtype (.ref D) (.type "int")) false := looks_subIn X hsub
  have L7 : Looks (model prog w) hh (numberSlotInPython (.type "int") "mul") false := Looks.of_pure rfl
  have hne : (Value.type "int" == Value.ref D) = false := Bool.eq_false_iff.mpr fun q => by cases beq_iff_eq.mp q
  simp only [binaryOp, show Operator.Mult.info = ("*", "mul") from rfl]
  refine wpAny_holding (wpAny_bind ?_)
  unfold binaryOp1
  refine wpAny_bind (L2.at (wpAny_bind (L1.at (wpAny_bind (L3.at ?_)))))
  simp only [hne, Bool.false_eq_true, if_false]
  ksp_lk
  refine wpAny_mono no (fun r s' hr' => ?_) fun _ _ e => e
  obtain ⟨rfl, rfl⟩ := hr'
  ksp_lk
  refine wpAny_mono one (fun r s' hr' => ?_) fun _ _ e => e
  obtain ⟨v, rfl, hq⟩ := hr'
  ksp_lk
  exact hq
end
end PySem.W
/-! DL48: readings of operators of two own classes, of a number on the left of a thing, of a thing and a number where the class has the turned method too. -/
namespace DL
open PySem L2
/-- what an operator of two own classes asks of each -/
structure OpD (K : PySem.W.Frag) (C : Addr) (op : Operator) : Prop where
  first : PySem.W.selfFirst K C = true
  fn : ∃ f : Addr, PySem.W.findIn K (.ref C) (PySem.dunder op.info.2) = some (some (.ref f))
  refl : ∃ rc, PySem.W.findIn K (.ref C) (PySem.dunderR op.info.2) = some rc ∧ (rc = none ∨ ∃ g : Addr, rc = some (.ref g))
def OpP (K : PySem.W.Frag) (C D : Addr) (op : Operator) : Prop := OpD K C op ∧ OpD K D op ∧ (C = D ∨ (C ≠ D ∧ PySem.W.subIn K (.ref D) (.ref C) = some false))
def OpXs (K : PySem.W.Frag) (mg : Str → Option Value) (op : Operator) (T : List (Str × Fn)) : Prop := ∀ c Gf c' Gf', T.lookup c = some Gf → T.lookup c' = some Gf' → ∃ C D, mg c = some (.ref C) ∧ mg c' = some (.ref D) ∧ OpP K C D op
theorem opx_two {K : PySem.W.Frag} {mg : Str → Option Value} {op : Operator} {c d : Str} {C D : Addr} {Gf Gd : Fn} (hc : mg c = some (.ref C)) (hd : mg d = some (.ref D)) (oc : OpD K C op) (od : OpD K D op) (hne : (C == D) = false) (s1 : PySem.W.subIn K (.ref D) (.ref C) = some false) (s2 : PySem.W.subIn K (.ref C) (.ref D) = some false) : OpXs K mg op [(c, Gf), (d, Gd)] := by
  have ne : C ≠ D := fun e => by rw [e] at hne; simp at hne
  have one : ∀ x G, ([(c, Gf), (d, Gd)] : List (Str × Fn)).lookup x = some G → x = c ∨ x = d := by
    intro x G e
    rw [List.lookup_cons] at e
    cases q : x == c with
    | true => exact .inl (eq_of_beq q)
    | false =>
      rw [q] at e
      rw [List.lookup_cons] at e
      cases q2 : x == d with
      | true => exact .inr (eq_of_beq q2)
      | false => rw [q2] at e; cases e
  intro x G y G' e e'
  rcases one x G e with rfl | rfl <;> rcases one y G' e' with rfl | rfl
  · exact ⟨C, C, hc, hc, oc, oc, .inl rfl⟩
  · exact ⟨C, D, hc, hd, oc, od, .inr ⟨ne, s1⟩⟩
  · exact ⟨D, C, hd, hc, od, oc, .inr ⟨fun z => ne z.symm, s2⟩⟩
  · exact ⟨D, D, hd, hd, od, od, .inl rfl⟩
def kdX (T : List (Str × Fn)) (ω : List Cell) (x y : D) : Bool := match view ω x with
  | some (.obj c _) => match view ω y with
    | some (.obj c' _) => (T.lookup c).isSome && (T.lookup c').isSome
    | _ => false
  | _ => false
def binX (m : Str) (T : List (Str × Fn)) (fa fb : M D) : M D := fa.bind fun x => fb.bind fun y ρ ω => if kdX T ω x y = true then ownM m T x [y] ρ ω else none
def rmulO (m : Str) (T : List (Str × Fn)) (fa fb : M D) : M D := fa.bind fun x => fb.bind fun y ρ ω => match x with
  | .int _ => ownM m T y [x] ρ ω
  | _ => none
section
variable {X : Cx} {W : WX} {a b : Expr} {fa fb : M D} {k j : Nat} {T : List (Str × Fn)} {pos : Pos} {m : Str}
def rTwo (K : PySem.W.Frag) (op : Operator) (H : Hp) (x y : V) : Prop := ∃ a b C D dx dy fs gs, x = .ref a ∧ y = .ref b ∧ H a = some (.ins C dx fs) ∧ H b = some (.ins D dy gs) ∧ OpP K C D op
theorem kdX_ok {op : Operator} {K : PySem.W.Frag} {mg : Str → Option Value} {A : Ad} {B : Addr → Prop} {H : Hp} {ω : List Cell} {d e : D} {x y : V} (ho : OpXs K mg op T) (w : Wo ⟨K, mg⟩ A B H ω) (hx : Dp ⟨K, mg⟩ A B H x d) (hy : Dp ⟨K, mg⟩ A B H y e) (h : kdX T ω d e = true) : rTwo K op H x y := by
  unfold kdX at h
  split at h
  · rename_i c fs e1
    split at h
    · rename_i c' gs e2
      obtain ⟨a1, C1, dx1, vs1, rfl, h1, h2, h3⟩ := Vw.of hx w e1
      obtain ⟨a2, C2, dx2, vs2, rfl, h4, h5, h6⟩ := Vw.of hy w e2
      rw [Bool.and_eq_true] at h
      cases q1 : T.lookup c with
      | none => rw [q1] at h; cases h.1
      | some G1 =>
        cases q2 : T.lookup c' with
        | none => rw [q2] at h; cases h.2
        | some G2 =>
          obtain ⟨C, D, e3, e4, p⟩ := ho c G1 c' G2 q1 q2
          have z1 : (some (Value.ref C) : Option Value) = some (.ref C1) := e3.symm.trans h2
          have z2 : (some (Value.ref D) : Option Value) = some (.ref C2) := e4.symm.trans h5
          cases z1; cases z2
          exact ⟨a1, a2, _, _, dx1, dx2, vs1, vs2, rfl, rfl, h1, h4, p⟩
    · cases h
  · cases h
theorem op_binX {op : Operator} {m : Str} (tk : Takes X W) (hm : m = PySem.dunder op.info.2) : OpRS X (binaryOp op) (fun σ x y H Q => OwnR X W m (fun v H' Q => Q v H') σ [x, y] H Q ∧ rTwo X.K op H x y) := by
  subst hm
  intro pins s σ H x y v u Q I rx ry ⟨⟨a, C, dx, fs, f, fd, ps, sp, k, ys, e1, hp, ⟨hme, _⟩, hb, F, hr, q⟩, hs⟩
  cases e1
  cases (show v = Value.ref a from rx)
  obtain ⟨mA, J, _⟩ := ins_get I.hok hp
  obtain ⟨od, J, _⟩ := J.look
  obtain ⟨mm, hF⟩ := I.fr
  have run := wpAny_mono (run_at tk F (hr.mono (Nat.le_succ _)) I.env0 hb I (.cons (show RelV (.ref a) (.ref a) from rfl) (.cons ry .nil)) q) (fun u s' z => back_cmp z) fun _ _ x => x
  obtain ⟨a', b, C', D, _, dy, _, gs, ea, rfl, ha, hb', oc, od, hcd⟩ := hs
  cases ea
  rw [hp] at ha
  cases ha
  cases (show u = Value.ref b from ry)
  obtain ⟨mB, J', _⟩ := ins_get I.hok hb'
  obtain ⟨od', J', _⟩ := J'.look
  rcases hcd with rfl | ⟨hne, hsub⟩
  · exact PySem.W.binop_K hF I.ok.mod.kin J J'.type oc.first hme.at_ hme.fn run
  · obtain ⟨f', hf'⟩ := od.fn
    obtain ⟨rc, h1, h2⟩ := oc.refl
    obtain ⟨rd, h3, h4⟩ := od.refl
    exact PySem.W.dl_binTwo hF I.ok.mod.kin J J' hne oc.first od.first hme.at_ hme.fn h1 h2 hf' h3 h4 hsub run
theorem de_binX {op : Operator} (tk : Takes X W) (hm : m = PySem.dunder op.info.2) (cm : CalMs X.prog X.w X.K X.mg X.base m k T) (ho : OpXs X.K X.mg op T) (hr : Room j X.A) (hj : k + 1 ≤ j) (ha : PE X a (tM ⟨X.K, X.mg⟩ rD W fa)) (hb : PE X b (tM ⟨X.K, X.mg⟩ rD W fb)) : PE X (.BinOp a op b pos) (tM ⟨X.K, X.mg⟩ rD W (binX m T fa fb)) := by
  refine (pe_opS (op_binX tk hm) ha hb).dl ?_
  rintro σ H Q ⟨H0, A, B, ρ, ω, r, fm, e, res⟩
  refine tM_mono (tM_bind fm e res) fun x H1 ⟨A1, B1, ω1, d1, t1, fm1, r1, e1, res1⟩ => ?_
  refine tM_mono (tM_bind fm1 e1 res1) fun y H2 ⟨A2, B2, ω2, d2, t2, fm2, r2, e2, res2⟩ => ?_
  have hx := Dp.mv (fm1.wo.mv t2) _ _ r1
  split at e2
  · rename_i hk
    exact ⟨own_at (W := W) rfl cm hr hj fm2 hx (.cons r2 .nil) e2 res2, kdX_ok ho fm2.wo hx r2 hk⟩
  · cases e2
/-! ### a number times a thing -/
structure OpR (K : PySem.W.Frag) (C : Addr) : Prop where
  first : PySem.W.selfFirst K C = true
  fn : PySem.W.findIn K (.ref C) (PySem.dunder "mul") = some none ∨ ∃ f : Addr, PySem.W.findIn K (.ref C) (PySem.dunder "mul") = some (some (.ref f))
  sub : PySem.W.subIn K (.ref C) (.type "int") = some false
def OpRF (K : PySem.W.Frag) (mg : Str → Option Value) (c : Str) : Prop := ∃ C, mg c = some (.ref C) ∧ OpR K C
def OpRs (K : PySem.W.Frag) (mg : Str → Option Value) (T : List (Str × Fn)) : Prop := ∀ c Gf, T.lookup c = some Gf → OpRF K mg c
theorem opr_nil {K : PySem.W.Frag} {mg : Str → Option Value} : OpRs K mg [] := fun c Gf e => by cases e
theorem opr_cons {K : PySem.W.Frag} {mg : Str → Option Value} {c : Str} {Gf : Fn} {T : List (Str × Fn)} (h : OpRF K mg c) (t : OpRs K mg T) : OpRs K mg ((c, Gf) :: T) := fun c' Gf' e => by
  rw [List.lookup_cons] at e
  cases q : c' == c with
  | true => rw [eq_of_beq q]; exact h
  | false => rw [q] at e; exact t c' Gf' e
theorem op_rmul {m : Str} (tk : Takes X W) (hm : m = PySem.dunderR "mul") : OpRS X (binaryOp .Mult) (fun σ x y H Q => OwnR X W m (fun v H' Q => Q v H') σ [y, x] H Q ∧ (∃ i, x = .int i) ∧ (∀ a C dx fs, y = .ref a → H a = some (.ins C dx fs) → OpR X.K C)) := by
  subst hm
  intro pins s σ H x y v u Q I rx ry ⟨⟨a, C, dx, fs, f, fd, ps, sp, k, ys, e1, hp, ⟨hme, _⟩, hb, F, hr, q⟩, ⟨i, ei⟩, hop⟩
  cases e1
  subst ei
  cases (show u = Value.ref a from ry)
  have o := hop a C dx fs rfl hp
  obtain ⟨_, _, _, hget, _⟩ := (show ObjOk X.prog X.w H s.heap a (.ins C dx fs) from I.hok a _ hp)
  obtain ⟨mA, J, _⟩ := ins_get I.hok hp
  obtain ⟨od, J, _⟩ := J.look
  obtain ⟨mm, hF⟩ := I.fr
  have run := wpAny_mono (run_at tk F (hr.mono (Nat.le_succ _)) I.env0 hb I (.cons (show RelV (.ref a) (.ref a) from rfl) (.cons rx .nil)) q) (fun u s' z => back_cmp z) fun _ _ x => x
  obtain ⟨t, rfl⟩ := (show ∃ t, v = Value.int i t from rx)
  exact PySem.W.dl_rmul hF I.ok.mod.kin J hget o.first hme.at_ hme.fn o.fn o.sub run
theorem own_clsR {x y : V} {H : Hp} {g : G} {A : Ad} {B : Addr → Prop} {ω : List Cell} {ρ : Rho} {d e : D} {r : R D} (hg : g = ⟨X.K, X.mg⟩) (w : Wo g A B H ω) (hx : Dp g A B H x d) (ho : OpRs X.K X.mg T) (h : ownM m T d [e] ρ ω = some r) : ∀ a C dx fs, x = .ref a → H a = some (.ins C dx fs) → OpR X.K C := by
  subst hg
  intro a C dx fs ex hp
  unfold ownM at h
  split at h
  · rename_i c fl ev
    cases q2 : T.lookup c with
    | none => simp only [q2] at h; cases h
    | some Gf =>
      obtain ⟨a', C', dx', vs, e1, h1, h2, _⟩ := Vw.of hx w ev
      rw [ex] at e1
      cases e1
      rw [hp] at h1
      cases h1
      obtain ⟨C2, h3, h4⟩ := ho c Gf q2
      have : (some (Value.ref C2) : Option Value) = some (.ref C) := h3.symm.trans h2
      cases this
      exact h4
  · cases h
theorem de_rmulO (tk : Takes X W) (hm : m = PySem.dunderR "mul") (cm : CalMs X.prog X.w X.K X.mg X.base m k T) (ho : OpRs X.K X.mg T) (hr : Room j X.A) (hj : k + 1 ≤ j) (ha : PE X a (tM ⟨X.K, X.mg⟩ rD W fa)) (hb : PE X b (tM ⟨X.K, X.mg⟩ rD W fb)) : PE X (.BinOp a .Mult b pos) (tM ⟨X.K, X.mg⟩ rD W (rmulO m T fa fb)) := by
  refine (pe_opS (op_rmul tk hm) ha hb).dl ?_
  rintro σ H Q ⟨H0, A, B, ρ, ω, r, fm, e, res⟩
  refine tM_mono (tM_bind fm e res) fun x H1 ⟨A1, B1, ω1, d1, t1, fm1, r1, e1, res1⟩ => ?_
  refine tM_mono (tM_bind fm1 e1 res1) fun y H2 ⟨A2, B2, ω2, d2, t2, fm2, r2, e2, res2⟩ => ?_
  have hx := Dp.mv (fm1.wo.mv t2) _ _ r1
  cases d1 with
  | int i =>
    have hxi : x = .int i := by cases hx; rfl
    exact ⟨own_at (W := W) rfl cm hr hj fm2 r2 (.cons hx .nil) e2 res2, ⟨i, hxi⟩, own_clsR (X := X) (m := m) (x := y) (y := x) rfl fm2.wo r2 ho e2⟩
  | _ => cases e2
/-! ### a thing and a number, the class having the turned method too -/
structure OpC2 (K : PySem.W.Frag) (C : Addr) (op : Operator) : Prop where
  first : PySem.W.selfFirst K C = true
  refl : ∃ rc, PySem.W.findIn K (.ref C) (PySem.dunderR op.info.2) = some rc ∧ (rc = none ∨ ∃ g : Addr, rc = some (.ref g))
  int1 : ∃ fo, PySem.W.findIn K (.type "int") (PySem.dunder op.info.2) = some fo
  int2 : ∃ ro, PySem.W.findIn K (.type "int") (PySem.dunderR op.info.2) = some ro
  sub : PySem.W.subIn K (.type "int") (.ref C) = some false
def OpF2 (K : PySem.W.Frag) (mg : Str → Option Value) (c : Str) (op : Operator) : Prop := ∃ C, mg c = some (.ref C) ∧ OpC2 K C op
def OpFs2 (K : PySem.W.Frag) (mg : Str → Option Value) (op : Operator) (T : List (Str × Fn)) : Prop := ∀ c Gf, T.lookup c = some Gf → OpF2 K mg c op
theorem opf2_nil {K : PySem.W.Frag} {mg : Str → Option Value} {op : Operator} : OpFs2 K mg op [] := fun c Gf e => by cases e
theorem opf2_cons {K : PySem.W.Frag} {mg : Str → Option Value} {op : Operator} {c : Str} {Gf : Fn} {T : List (Str × Fn)} (h : OpF2 K mg c op) (t : OpFs2 K mg op T) : OpFs2 K mg op ((c, Gf) :: T) := fun c' Gf' e => by
  rw [List.lookup_cons] at e
  cases q : c' == c with
  | true => rw [eq_of_beq q]; exact h
  | false => rw [q] at e; exact t c' Gf' e
theorem op_binO2 {op : Operator} {m : Str} (tk : Takes X W) (hm : m = PySem.dunder op.info.2) : OpRS X (binaryOp op) (fun σ x y H Q => OwnR X W m (fun v H' Q => Q v H') σ [x, y] H Q ∧ (∀ a C dx fs, x = .ref a → H a = some (.ins C dx fs) → OpC2 X.K C op) ∧ (rSame H x y ∨ ∃ i, y = .int i)) := by
  subst hm
  intro pins s σ H x y v u Q I rx ry ⟨⟨a, C, dx, fs, f, fd, ps, sp, k, ys, e1, hp, ⟨hme, _⟩, hb, F, hr, q⟩, hop, hs⟩
  cases e1
  cases (show v = Value.ref a from rx)
  have o := hop a C dx fs rfl hp
  obtain ⟨mA, J, _⟩ := ins_get I.hok hp
  obtain ⟨od, J, _⟩ := J.look
  obtain ⟨mm, hF⟩ := I.fr
  have run := wpAny_mono (run_at tk F (hr.mono (Nat.le_succ _)) I.env0 hb I (.cons (show RelV (.ref a) (.ref a) from rfl) (.cons ry .nil)) q) (fun u s' z => back_cmp z) fun _ _ x => x
  rcases hs with ⟨a', b, C', _, dy, _, gs, ea, rfl, ha, hb'⟩ | ⟨i, rfl⟩
  · cases ea
    rw [hp] at ha
    cases ha
    cases (show u = Value.ref b from ry)
    obtain ⟨mB, J', _⟩ := ins_get I.hok hb'
    obtain ⟨od', J', _⟩ := J'.look
    exact PySem.W.binop_K hF I.ok.mod.kin J J'.type o.first hme.at_ hme.fn run
  · obtain ⟨t, rfl⟩ := (show ∃ t, u = Value.int i t from ry)
    obtain ⟨fo, h1⟩ := o.int1
    obtain ⟨ro, h2⟩ := o.int2
    obtain ⟨rc, h3, h4⟩ := o.refl
    exact PySem.W.ksp_binT hF I.ok.mod.kin J rfl o.first hme.at_ hme.fn h3 h4 h1 h2 o.sub run
theorem own_cls2 {x y : V} {H : Hp} {op : Operator} {g : G} {A : Ad} {B : Addr → Prop} {ω : List Cell} {ρ : Rho} {d e : D} {r : R D} (hg : g = ⟨X.K, X.mg⟩) (w : Wo g A B H ω) (hx : Dp g A B H x d) (ho : OpFs2 X.K X.mg op T) (h : ownM m T d [e] ρ ω = some r) : ∀ a C dx fs, x = .ref a → H a = some (.ins C dx fs) → OpC2 X.K C op := by
  subst hg
  intro a C dx fs ex hp
  unfold ownM at h
  split at h
  · rename_i c fl ev
    cases q2 : T.lookup c with
    | none => simp only [q2] at h; cases h
    | some Gf =>
      obtain ⟨a', C', dx', vs, e1, h1, h2, _⟩ := Vw.of hx w ev
      rw [ex] at e1
      cases e1
      rw [hp] at h1
      cases h1
      obtain ⟨C2, h3, h4⟩ := ho c Gf q2
      have : (some (Value.ref C2) : Option Value) = some (.ref C) := h3.symm.trans h2
      cases this
      exact h4
  · cases h
theorem de_binO2 {op : Operator} (tk : Takes X W) (hm : m = PySem.dunder op.info.2) (cm : CalMs X.prog X.w X.K X.mg X.base m k T) (ho : OpFs2 X.K X.mg op T) (hr : Room j X.A) (hj : k + 1 ≤ j) (ha : PE X a (tM ⟨X.K, X.mg⟩ rD W fa)) (hb : PE X b (tM ⟨X.K, X.mg⟩ rD W fb)) : PE X (.BinOp a op b pos) (tM ⟨X.K, X.mg⟩ rD W (binO m T fa fb)) := by
  refine (pe_opS (op_binO2 tk hm) ha hb).dl ?_
  rintro σ H Q ⟨H0, A, B, ρ, ω, r, fm, e, res⟩
  refine tM_mono (tM_bind fm e res) fun x H1 ⟨A1, B1, ω1, d1, t1, fm1, r1, e1, res1⟩ => ?_
  refine tM_mono (tM_bind fm1 e1 res1) fun y H2 ⟨A2, B2, ω2, d2, t2, fm2, r2, e2, res2⟩ => ?_
  have hx := Dp.mv (fm1.wo.mv t2) _ _ r1
  split at e2
  · rename_i hk
    refine ⟨own_at (W := W) rfl cm hr hj fm2 hx (.cons r2 .nil) e2 res2, own_cls2 (y := y) rfl fm2.wo hx ho e2, ?_⟩
    rcases Bool.or_eq_true_iff.mp hk with hk | hk
    · exact .inl (kdS_ok fm2.wo hx r2 hk)
    · exact .inr (kdI_ok fm2.wo r2 hk)
  · cases e2
end
section
variable {X : Cx} {g : G} {n : En} {W : WX} {elt tg iter : Expr} {ifs : List Expr} {scope : Scope} {own : List (Str × Nat)} {src : M (List D)} {T : TT1} {t : M Bool} {f : M D} {is : List Nat} {pos spos py : Pos} {i : Nat} {y : Str}
theorem ds_setLcN (hc : X.calm = true) (hN : X.N.Nodup) (hy : X.N[i]? = some y) (hyl : X.env.scope.names.lookup y = some .local) (hsw : swapsWith (.ListComp elt [⟨tg, iter, ifs, 0⟩] scope pos) (some (.Name y py)) spos.line X.env = pure true)
    (hi : PI X tg iter (tI g W stayS src)) (ok : BlkOk X.N X.env.scope scope own) (hv : ∀ i ∈ is, i ∈ own.map (·.2))
    (hg : ∀ (s : Shared) (H : Hp) (C : Addr) (cl : List (Str × Addr)) (fp : List Addr), PG (X.blk s H scope (compEnvC scope cl C X.env) fp) tg (tGM g is T))
    (ht : ∀ (s : Shared) (H : Hp) (C : Addr) (cl : List (Str × Addr)) (fp : List Addr), PTs (X.blk s H scope (compEnvC scope cl C X.env) fp) ifs (tM g rB W0 t))
    (he : ∀ (s : Shared) (H : Hp) (C : Addr) (cl : List (Str × Addr)) (fp : List Addr), PE (X.blk s H scope (compEnvC scope cl C X.env) fp) elt (tM g rD W0 f)) (hs : ∀ x, foldedSetIterable iter X.env x = pure x := by intro _; rfl) :
    PS X (.Assign [.Name y py] (.ListComp elt [⟨tg, iter, ifs, 0⟩] scope pos) spos) (tS g n W (setN i (lcM (own.map (·.2)) src T t f))) :=
  (ps_setLc hc hN hy hyl hsw hi ok hg ht he hs).dl fun D σ H h => tLc_of hv σ H _ (tN_setN h)
end
/-! ### steps -/
section
variable {T : List (Str × Fn)} {m c c' : Str} {fa fb : M D} {x y : D} {fl fl' : List (Str × D)} {Gf : Fn} {ρ : Rho} {ω ω1 ω2 : List Cell} {r : Option (R D)}
theorem binX_at (ha : fa ρ ω = some (.val x ω1)) (hb : fb ρ ω1 = some (.val y ω2)) (hv : view ω2 x = some (.obj c fl)) (hw : view ω2 y = some (.obj c' fl')) (ht : T.lookup c = some Gf) (ht' : (T.lookup c').isSome = true) (h : Gf [x, y] ω2 = r) : binX m T fa fb ρ ω = r := by
  unfold binX
  rw [bind_ev ha, bind_ev hb]
  have hk : kdX T ω2 x y = true := by unfold kdX; rw [hv]; simp only [hw]; rw [ht, ht']; rfl
  rw [if_pos hk]
  exact (ownM_at hv ht).trans h
theorem rmulO_at {i : Int} (ha : fa ρ ω = some (.val (.int i) ω1)) (hb : fb ρ ω1 = some (.val y ω2)) (hv : view ω2 y = some (.obj c fl)) (ht : T.lookup c = some Gf) (h : Gf [y, .int i] ω2 = r) : rmulO m T fa fb ρ ω = r := by
  unfold rmulO
  rw [bind_ev ha, bind_ev hb]
  exact (ownM_at hv ht).trans h
theorem binO_at (ha : fa ρ ω = some (.val x ω1)) (hb : fb ρ ω1 = some (.val y ω2)) (hk : (kdS ω2 x y || kdI ω2 y) = true) (hv : view ω2 x = some (.obj c fl)) (ht : T.lookup c = some Gf) (h : Gf [x, y] ω2 = r) : binO m T fa fb ρ ω = r := by
  unfold binO
  rw [bind_ev ha, bind_ev hb, if_pos hk]
  exact (ownM_at hv ht).trans h
end
end DL
/-! DL49: things made within an except suite, by an __init__ that raises nothing there. -/
namespace DL
open PySem L2
open PyProof.Rows hiding St
/-- room, whatever exception is handled -/
structure RoomQ (k : Nat) (A : Around) : Prop where
  dq : A.depth + 3 * k + 5 < recursionLimit
  uq : A.units + 16 * k + 200 < cLine
theorem RoomQ.of {k : Nat} {A : Around} (r : Room k A) : RoomQ k A := ⟨r.dp, r.un⟩
theorem RoomQ.suite {k : Nat} {A : Around} (v : Option Value) (r : Room k A) : RoomQ k (A.mark v) := ⟨r.dp, r.un⟩
theorem RoomQ.less {j k : Nat} {A : Around} (r : RoomQ k A) (h : j ≤ k) : RoomQ j A := ⟨by have := r.dq; omega, by have := r.uq; omega⟩
/-- the same room with no exception -/
abbrev coldA (A : Around) : Around := { A with handled := none }
theorem RoomQ.cold {k : Nat} {A : Around} (r : RoomQ k A) : Room k (coldA A) := ⟨rfl, r.dq, r.uq⟩
theorem env0_cold {P : Program} {w : World} {K : PySem.W.Frag} {mg : Str → Option Value} {base : Heap} {A : Around} {outer : List PySem.Env} {s : Shared} {H : Hp} (e : Env0 P w K mg base A outer s H) : Env0 P w K mg base (coldA A) outer s H :=
  ⟨e.frames, e.mod, e.bs, e.bsz, e.funs, e.frf, e.hok, e.bare⟩
/-- the context of a body that runs while an exception is handled -/
abbrev cxQ (P : Program) (w : World) (K : PySem.W.Frag) (mg : Str → Option Value) (base : Heap) (N : List Str) (qual : Str) (scope : Scope) (f : Addr) (cd : Value) (A : Around) (outer : List PySem.Env) (s : Shared) (H : Hp) (E : XK) : Cx :=
  { cxOf (L2.CX P w) P w K mg base N qual scope f cd A outer s H E with calm := false }
section
variable {P : Program} {w : World} {K : PySem.W.Frag} {mg : Str → Option Value} {base : Heap} {N ps : List Str} {qual x : Str} {scope : Scope} {f : Addr} {cd : Value} {A : Around} {outer : List PySem.Env} {s s1 : Shared} {H : Hp} {E : XK}
theorem inv_warm {pins : List (Addr × Obj)} {σ : St} {H' : Hp} (I : Inv (cxOf (L2.CX P w) P w K mg base N qual scope f cd (coldA A) outer s H E) pins σ H' s1) (hf : ((coldA A).deeper (envOfC qual scope s.heap.objs.size f cd)).frames = (A.deeper (envOfC qual scope s.heap.objs.size f cd)).frames := by rfl) : Inv (cxQ P w K mg base N qual scope f cd A outer s H E) pins σ H' s1 :=
  ⟨⟨I.ok.mod, I.ok.kind, I.ok.glob, I.ok.blt, I.ok.above, I.ok.inj, I.ok.has, I.ok.cab, (fun z => Bool.noConfusion (show false = true from z)), hf.symm.trans I.ok.frames, I.ok.stk, I.ok.exf, I.ok.bs, I.ok.bsz, I.ok.noex, I.ok.exfs, I.ok.funs, I.ok.frf⟩,
    I.os, I.bare, I.base, I.loc, I.cell, I.free, I.freeC, I.pin, I.hok, I.len⟩
/-- what a def promises there -/
structure FnQ (P : Program) (w : World) (K : PySem.W.Frag) (mg : Str → Option Value) (base : Heap) (k : Nat) (f : Addr) (fd : FuncData) (ps : List Str) (sp : Sp) : Prop where
  ln : ∀ vs H Q E, sp vs H Q E → vs.length = ps.length
  go : ∀ (A : Around) (outer : List PySem.Env) (s : Shared) (H : Hp) (args : Args) (us : List Value) (vs : List V) (Q : VK) (E : XK), RoomQ k A → Env0 P w K mg base A outer s H → BindsTo s fd args (ps.zip us) → Vals vs us → sp vs H Q E →
    codeAny (model P w) A (.call (.ref f) args) (CR (L2.CX P w) outer P w H s Q E) s
theorem fnq_of {k : Nat} {sp : Sp} {st : Stmt} {fd : FuncData} (Fu : Fun K x qual st f fd) (S : FnScope N ps (defScope st)) (ln : ∀ vs H Q E, sp vs H Q E → vs.length = ps.length)
    (bd : ∀ (cdv : Value) (A : Around) (outer : List PySem.Env) (s : Shared) (H : Hp) (vs : List V) (Q : VK) (E : XK), RoomQ k (A.deeper (envOfC qual (defScope st) s.heap.objs.size f cdv)) → sp vs H Q E →
      ∃ t, PSs (cxQ P w K mg base N qual (defScope st) f cdv A outer s H E) (defBody st) t ∧ t { nx := fun _ H' => Q .non H', rt := Q } (L2.start N vs) H) : FnQ P w K mg base (k + 1) f fd ps sp := by
  obtain ⟨oc, od, kV, doc, pm, an, cdv, ct, osl, rfl, lk, hcd⟩ := Fu.ex
  refine ⟨ln, fun A outer s H args us vs Q E hr e0 hb rv hsp => ?_⟩
  have hlen := ln _ _ _ _ hsp
  have inK : K.In s.heap := e0.mod.kin.keeps fun b o z => (e0.bs b o z).1
  have noL : s.heap.NoLimit := e0.mod.nolimit.keeps fun b o z => (e0.bs b o z).1
  have kinds : ∀ y ∈ ps.zip us, (defScope st).names.lookup y.1 = some .local ∨ ((defScope st).names.lookup y.1 = some .cell ∧ ((cellsFrom (s.heap.objs.size + 1) (defScope st).names []).lookup y.1).isSome = true) := fun ⟨nn, vv⟩ hy =>
    (S.par nn (List.of_mem_zip hy).1).elim .inl fun z => .inr ⟨z, PySem.W.cellsFrom_some _ _ _ (.inl z)⟩
  refine codeAny_call_function (by have := hr.dq; omega) (inK _ _ lk) rfl S.co S.gen rfl (PySem.W.codeRec_of inK hcd) (hb _ _ _ _ (wpAny_newFunctionEnv_cells S.kind kinds fun env he s1 ic => ?_))
  subst he
  refine ⟨noL.keeps ic.toInCall.keep, codeAny_func ?_⟩
  have rc := hr.cold.deeper (envOfC qual (defScope st) s.heap.objs.size f cdv)
  have rq : RoomQ k (A.deeper (envOfC qual (defScope st) s.heap.objs.size f cdv)) := ⟨rc.dp, rc.un⟩
  obtain ⟨t, pt, hq⟩ := bd cdv A outer s H vs Q E rq hsp
  have I0 : Inv (cxOf (L2.CX P w) P w K mg base N qual (defScope st) f cdv (coldA A) outer s H E) [] (L2.start N vs) H s1 := inv_start S rfl (env0_cold e0) hlen rv ic
  refine wpAny_mono (pt.run [] s1 (L2.start N vs) H _ (inv_warm I0) hq) (fun fl s' hs => ?_) fun e s' hs => hs
  cases fl with
  | ret u => obtain ⟨v, σ', H', J, r1, q⟩ := hs; exact ⟨v, H', J.os, J.bare, J.base, J.hok, r1, q⟩
  | next => obtain ⟨σ', H', J, q⟩ := hs; exact ⟨V.non, H', J.os, J.bare, J.base, J.hok, rfl, q⟩
  | brk => exact hs.elim fun _ z => z.elim fun _ z => z.2.elim
  | cont => exact hs.elim fun _ z => z.elim fun _ z => z.2.elim
theorem fnq_x {k : Nat} {st : Stmt} {fd : FuncData} {Gf : Fn} {F : MS} (Fu : Fun K x qual st f fd) (S : FnScope N ps (defScope st)) (hl : ∀ ds ω r, Gf ds ω = some r → ds.length = ps.length)
    (body : ∀ (cdv : Value) (A : Around) (outer : List PySem.Env) (s : Shared) (H : Hp) (E : XK) (n : En), RoomQ k (A.deeper (envOfC qual (defScope st) s.heap.objs.size f cdv)) → PSs (cxQ P w K mg base N qual (defScope st) f cdv A outer s H E) (defBody st) (tS ⟨K, mg⟩ n (fun cls d _ H => E cls d H) F))
    (hf : ∀ ds ω r, Gf ds ω = some r → ∃ rs, F (startE N ds) ω = some rs ∧ retOf rs = some r) : FnQ P w K mg base (k + 1) f fd ps (spD ⟨K, mg⟩ Gf) := by
  refine fnq_of Fu S (fun vs H Q E ⟨A, B, ω, ds, r, w, l, e, q⟩ => by rw [l.length]; exact hl ds ω r e) fun cdv A outer s H vs Q E hr ⟨Aa, B, ω, ds, r, wo, l, e, q⟩ => ?_
  refine ⟨_, body cdv A outer s H E ⟨Aa, B, H⟩ hr, ?_⟩
  obtain ⟨rs, eF, er⟩ := hf ds ω r e
  refine ⟨Aa, B, startE N ds, ω, rs, .refl _ _ _, ⟨wo, slots_start l⟩, eF, ?_⟩
  cases rs with
  | rt d' ω2 =>
    cases er
    exact fun v A' B' H' t w dp => q v A' B' H' t w dp
  | nx ρ2 ω2 =>
    cases er
    exact fun σ' A' B' H' m t fm => q .non A' B' H' t fm.wo .non
  | exc x ρ2 ω2 =>
    cases er
    exact fun cls dd σ' A' B' H' m t fm xo => q cls dd A' B' H' t fm.wo xo
  | bk ρ2 ω2 => cases er
  | ct ρ2 ω2 => cases er
/-- a class of the text whose things can be made there -/
structure CalQ (P : Program) (w : World) (K : PySem.W.Frag) (mg : Str → Option Value) (base : Heap) (c : Str) (ps : List Str) (k : Nat) (Gf : Fn) : Prop where
  ex : ∃ C f fd, mg c = some (.ref C) ∧ Mk K C f ∧ Binds K fd ps [] ∧ FnQ P w K mg base k f fd ps (spD ⟨K, mg⟩ Gf)
theorem calQ_of {c : Str} {st : Stmt} {k : Nat} {Gf : Fn} (T : FI K mg c qual st) (b : ∀ a fd, Fun K "__init__" qual st a fd → Binds K fd ps [])
    (h : ∀ a fd, Fun K "__init__" qual st a fd → FnQ P w K mg base k a fd ps (spD ⟨K, mg⟩ Gf)) : CalQ P w K mg base c ps k Gf := by
  obtain ⟨C, f, fd, h1, h2, F⟩ := T.ex
  exact ⟨C, f, fd, h1, h2, b f fd F, h f fd F⟩
end
section
variable {X : Cx} {W : WX} {c x : Str} {p pos : Pos} {e : Expr} {es : List Expr} {fs : M (List D)} {k j : Nat} {ps : List Str} {Gf : Fn} {C f : Addr} {fd : FuncData} {sp : Sp}
theorem run_makeQ {pins : List (Addr × Obj)} {σ : St} {H : Hp} {s : Shared} {Q : VK} {us : List Value} {vs : List V} (tk : Takes X W) (Mm : Mk X.K C f) (F : FnQ X.prog X.w X.K X.mg X.base k f fd ps sp) (hr : RoomQ (k + 1) X.A) (hb : Binds X.K fd ps [])
    (I : Inv X pins σ H s) (r : Vals vs us) (h : ∀ x dx, H x = none → H dx = none → dx ≠ x → sp (.ref x :: vs) (upd (upd H dx (.own x)) x (.ins C dx [])) (fun v H2 => v = .non ∧ Q (.ref x) H2) (WE W σ)) :
    wpAny (model X.prog X.w) X.A (call (.ref C) us) (EP X pins σ Q) X.xe s := by
  have hq := h (s.heap.objs.size + 1) s.heap.objs.size (I.hok.fresh (Nat.le_succ _)) (I.hok.fresh (Nat.le_refl _)) (Nat.ne_of_lt (Nat.lt_succ_self _))
  have I2 := Inv.made (C := C) I
  have r2 : Vals (V.ref (s.heap.objs.size + 1) :: vs) (Value.ref (s.heap.objs.size + 1) :: us) := .cons rfl r
  have hl : (Value.ref (s.heap.objs.size + 1) :: us ++ []).length = ps.length := by
    rw [List.append_nil, ← r2.length]
    exact F.ln _ _ _ _ hq
  have bb := hb _ (Value.ref (s.heap.objs.size + 1) :: us) I2.kIn hl
  rw [List.append_nil] at bb
  have rm := hr.cold.make C us []
  refine wpAny_call (make_map (f := f) I.kIn Mm.makes Mm.init (beq_iff_eq.mp Mm.fn) (codeAny_mono (F.go _ X.stack _ _ ⟨Value.ref (s.heap.objs.size + 1) :: us, []⟩ (Value.ref (s.heap.objs.size + 1) :: us) _ _ (WE W σ) ⟨rm.dp, rm.un⟩ (I2.env0.make C us []) bb r2 hq) fun r s' hq' => ?_))
  cases r with
  | error e => exact passAt tk σ pins _ _ e s' I2 hq'
  | ok fl =>
    cases fl with
    | ret u =>
      obtain ⟨v, H', I3, rv, ev, q3⟩ := I2.after hq'
      subst ev
      exact ⟨rv, ⟨V.ref (s.heap.objs.size + 1), H', I3, rfl, q3⟩⟩
    | next => exact False.elim hq'
    | brk => exact False.elim hq'
    | cont => exact False.elim hq'
theorem de_makeQ (tk : Takes X W) (cg : CalQ X.prog X.w X.K X.mg X.base c ps k Gf) (hr : RoomQ j X.A) (hj : k + 1 ≤ j) (hg : Gl X c) (ha : PA X (e :: es) (tM ⟨X.K, X.mg⟩ rL W fs)) (hdb : (c == ("__debug__" : Str)) = false := by decide)
    (he : starEach (e :: es) X.env = (false, eval e X.env) :: starEach es X.env := by rfl) (hpl : (backTo pos (starEach es X.env)).any (·.1) = false := by rfl) : PE X (.Call (.Name c p) (e :: es) [] pos) (tM ⟨X.K, X.mg⟩ rD W (fs.bind (mkN c Gf))) := by
  obtain ⟨C, f, fd, h1, h2, h3, h4⟩ := cg.ex
  have pe : PE X (.Call (.Name c p) (e :: es) [] pos) (tMakeS C (spD ⟨X.K, X.mg⟩ Gf) W (tM ⟨X.K, X.mg⟩ rL W fs)) :=
    ⟨fun pins s σ H Q I h => wpAny_Call_Name_kw (ld_glob I hg h1 (PySem.W.callWith_K (h₀ := X.base) I.ok.mod.kin h2.kp (thn (ha.run pos pins s σ H _ I h) fun us s1 ⟨vs, H1, I1, r, q⟩ => ⟨I1.kIn, run_makeQ tk h2 h4 (hr.less hj) h3 I1 r q⟩) he hpl) hdb)⟩
  exact pe.dl (tM_makeN h1)
theorem kit_no {K : PySem.W.Frag} {C D : Addr} {b : Bool} (h0 : (C == D) = false) (hs : PySem.W.selfFirst K D = true) (ht : PySem.W.typeIn K (.ref D) = some (.type "type")) (hb : PySem.W.subIn K (.ref C) (.ref D) = some b) : PySem.W.kitOne K (.ref C) (.ref D) = some b := by
  obtain ⟨cd, rest, hcd, hm⟩ := PySem.W.ksp_first hs
  have hne : (Value.ref C == Value.ref D) = false := Bool.eq_false_iff.mpr fun q => by cases beq_iff_eq.mp q; simp at h0
  unfold PySem.W.kitOne
  rw [hne, if_neg Bool.false_ne_true]
  unfold PySem.W.kitCls
  simp only
  rw [hcd, ht, if_pos (by simp), hb]
/-- a statement that is not reached -/
theorem ds_no {n : En} {st : Stmt} {g : G} : PS X st (tS g n W fun _ _ => none) := ⟨fun pins s σ H D I ⟨_, _, _, _, _, _, _, e, _⟩ => by cases e⟩
end
end DL
noncomputable section
namespace L06
open PySem L2 DL
def ca_BadTerm : List (Str × Bool) := [("BadTerm", true)]
/-- the built-ins that the text leaves as they are, the classes' fields -/
structure Blt (K : PySem.W.Frag) (mg : Str → Option Value) : Prop where
  tt : True
  b_abs : mg "abs" = none
  b_all : mg "all" = none
  b_bool : mg "bool" = none
  b_int : mg "int" = none
  b_isinstance : mg "isinstance" = none
  b_len : mg "len" = none
  b_list : mg "list" = none
  b_range : mg "range" = none
  b_str : mg "str" = none
  b_tuple : mg "tuple" = none
  f_depth : ClFs K mg "depth" ["Process"]
  f_kind : ClFs K mg "kind" ["Process"]
  f_parts : ClFs K mg "parts" ["Process"]
  f_rows : ClFs K mg "rows" ["Net"]
  f_size : ClFs K mg "size" ["Process"]
  o_Net_BitOr : OpF K mg "Net" .BitOr
  ox_Process_Net_BitOr : ∀ Gc Gd : Fn, OpXs K mg .BitOr [("Process", Gc), ("Net", Gd)]
  o2_Net_Mult : OpF2 K mg "Net" .Mult
  or_Net : OpRF K mg "Net"
  or_Process : OpRF K mg "Process"
  m_Net : ∃ C, mg "Net" = some (.ref C)
  m_Process : ∃ C, mg "Process" = some (.ref C)
  i_Net_Net : IsF K mg "Net" "Net" true
  i_Net_Process : IsF K mg "Net" "Process" false
  i_Process_Process : IsF K mg "Process" "Process" true
  g_RESERVED : GlT K mg "RESERVED" ["stop", "new", "if", "then", "else", "put", "get", "channel", "at", "define", "start"]
  c_DIGITS : ∃ t, mg "DIGITS" = some (.str "0123456789" t)
  c_LETTERS : ∃ t, mg "LETTERS" = some (.str "abcdefghijklmnopqrstuvwxyz" t)
  c_MOST_MACHINES : ∃ t, mg "MOST_MACHINES" = some (.int 6 t)
  c_MOST_OPERANDS : ∃ t, mg "MOST_OPERANDS" = some (.int 4 t)
  c_MOST_SIGNS : ∃ t, mg "MOST_SIGNS" = some (.int 8 t)
  c_VALUE_LIMIT : ∃ t, mg "VALUE_LIMIT" = some (.int 1000000000000000000000000000000 t)
  se_SeatsError : SeI K mg "SeatsError"
  ca_BadTerm : CatF K mg "BadTerm" ca_BadTerm
  xf_BadTerm : XfF K mg "BadTerm" "field"
def top (i : Nat) : Stmt := PySem.Challenge.pw_fullseats_k06_nets.main.body.getD i (.Pass ⟨0, 0, 0, 0⟩)

/-! ### BadTerm -/
abbrev s_x_BadTerm : Stmt := inClass (top 3) 0
abbrev P_x_BadTerm : List Str := ["self", "field"]
theorem sc_x_BadTerm : FnScope P_x_BadTerm P_x_BadTerm (defScope s_x_BadTerm) := ⟨rfl, rfl, rfl, by decide +kernel, rfl, by decide +kernel, by decide +kernel⟩
theorem kx_BadTerm {P : Program} {w : World} {K : PySem.W.Frag} {mg : Str → Option Value} {base : Heap} (T : FX K mg "BadTerm" "field" "BadTerm.__init__" s_x_BadTerm) (S : SeI K mg "SeatsError") : CalX P w K mg base "BadTerm" "field" P_x_BadTerm 1 :=
  calX_of (m := "term not allowed") T sc_x_BadTerm rfl rfl (fun a fd F => F.binds (ps := P_x_BadTerm) fun _ _ _ _ _ _ us hl => match us, hl with | [_, _], _ => rfl) fun fI cdv A outer s H E => pss_cons (ps_expr (pe_seinit S rfl (pa_cons (pv 0) (pa_cons pe_str pa_nil)))) (pss_one (ps_ost (pv 0) (pv 1)))

/-! ### is_name -/
abbrev s_is_name : Stmt := top 10
abbrev N_is_name : List Str := ["text", "sign"]
abbrev P_is_name : List Str := ["text"]
theorem sc_is_name : FnScope N_is_name P_is_name (defScope s_is_name) := ⟨rfl, rfl, rfl, by decide +kernel, rfl, by decide +kernel, by decide +kernel⟩
def cm_is_name_1  : M (List D) :=
  (lcM [1] ((vW 0).bind itemsOf) (nmT 1) (M.pure true) (orV (bo inD (vW 1) (M.pure (.str "abcdefghijklmnopqrstuvwxyz"))) (bo inD (vW 1) (M.pure (.str "0123456789")))))
def b_is_name  : MS :=
  (seqS (ifS (orM (notM (truM (uo (isiB "str") (vW 0)))) (orM (tst (bo ltD (uo lenD (vW 0)) (M.pure (.int 1)))) (orM (tst (bo gtD (uo lenD (vW 0)) (M.pure (.int 8)))) (tst (bo inD (vW 0) (M.pure (.tup ((["stop", "new", "if", "then", "else", "put", "get", "channel", "at", "define", "start"] : List Str).map D.str)))))))) (retS (M.pure (.bl false))) (fun ρ ω => some (.nx ρ ω)))
  (retS (andV (bo inD (bo ixD (vW 0) (M.pure (.int 0))) (M.pure (.str "abcdefghijklmnopqrstuvwxyz"))) (uo allD (cm_is_name_1.bind fun ds => M.pure (.lst ds))))))
theorem d_is_name {P : Program} {w : World} {K : PySem.W.Frag} {mg : Str → Option Value} {base : Heap}  {a : Addr} {cdv : Value} {A : Around} {outer : List PySem.Env} {s : Shared} {H : Hp} {E : XK} (n : En) (B : Blt K mg)
    (hr : Room 0 (A.deeper (PyProof.Rows.envOfC "is_name" (defScope s_is_name) s.heap.objs.size a cdv))) :
    PSs (cxOf (L2.CX P w) P w K mg base N_is_name "is_name" (defScope s_is_name) a cdv A outer s H E) (defBody s_is_name) (tS ⟨K, mg⟩ n (fun cls d _ H => E cls d H) (b_is_name)) := by
  unfold b_is_name
  have tk := takes_of (X := (cxOf (L2.CX P w) P w K mg base N_is_name "is_name" (defScope s_is_name) a cdv A outer s H E)) (E := E) rfl rfl rfl rfl
  have pw := passes_of (X := (cxOf (L2.CX P w) P w K mg base N_is_name "is_name" (defScope s_is_name) a cdv A outer s H E)) rfl
  exact (dss_cons (ds_if (dt_w (dw_or (dt_not (dt_truth rfl (dw (de_isiB rfl B.b_isinstance rfl B.b_str (by decide +kernel) (dw_v 0))))) (dw_or (dt_lt (dw (de_len rfl rfl B.b_len (dw_v 0))) (dw de_int)) (dw_or (dt_gt (dw (de_len rfl rfl B.b_len (dw_v 0))) (dw (de_globI B.c_MOST_SIGNS rfl))) (dw_or1 (dt_in rfl hr (dw_v 0) (dw (de_globT B.g_RESERVED rfl)))))))) (dss_one (ds_ret de_bl)) dss_nil)
  (dss_one (ds_ret (de_and (de_in rfl hr (dw (de_item rfl (dw_v 0) (dw de_int))) (dw (de_globS B.c_LETTERS rfl))) (de_one (de_all rfl rfl rfl B.b_all (dw (de_new (dn_lc rfl sc_is_name.nd (own := [("sign", 1)]) (di_own rfl (dw_v 0)) (blkOk_by (own := [("sign", 1)]) (N := N_is_name) (sc := defScope s_is_name) (by decide +kernel)) (by decide) (fun _ _ _ _ _ => (dg_name 1 sc_is_name.nd)) (fun _ _ _ _ _ => dts_nil) (fun _ _ _ _ _ => (de_or (de_in rfl hr (dw_v 1) (dw (de_globS B.c_LETTERS rfl))) (de_one (de_in rfl hr (dw_v 1) (dw (de_globS B.c_DIGITS rfl)))))))))))))))
theorem k_is_name {P : Program} {w : World} {K : PySem.W.Frag} {mg : Str → Option Value} {base : Heap}  {gg : Fn} (T : FT K mg "is_name" s_is_name) (B : Blt K mg)
    (hf : ∀ ds ω r, gg ds ω = some r → ds.length = 1 ∧ ∃ rs, b_is_name (startE N_is_name ds) ω = some rs ∧ retOf rs = some r) : Cal P w K mg base "is_name" P_is_name 1 gg :=
  cal_of T (fun a fd F => F.binds (ps := P_is_name) fun _ _ _ _ _ _ us hl => match us, hl with | [_], _ => rfl) fun a fd F => fn_x F sc_is_name (fun ds ω r e => (hf ds ω r e).1) (fun cdv A outer s H E n hr => d_is_name n B hr) fun ds ω r e => (hf ds ω r e).2

/-! ### is_number -/
abbrev s_is_number : Stmt := top 11
abbrev N_is_number : List Str := ["thing"]
abbrev P_is_number : List Str := ["thing"]
theorem sc_is_number : FnScope N_is_number P_is_number (defScope s_is_number) := ⟨rfl, rfl, rfl, by decide +kernel, rfl, by decide +kernel, by decide +kernel⟩
def b_is_number  : MS :=
  (retS (andV (uo (isiB "int") (vW 0)) (andV (notV (uo (isiB "bool") (vW 0))) (chainV ltD ltD (uo negD (M.pure (.int 1000000000000000000000000000000))) (vW 0) (M.pure (.int 1000000000000000000000000000000))))))
theorem d_is_number {P : Program} {w : World} {K : PySem.W.Frag} {mg : Str → Option Value} {base : Heap}  {a : Addr} {cdv : Value} {A : Around} {outer : List PySem.Env} {s : Shared} {H : Hp} {E : XK} (n : En) (B : Blt K mg)
    (hr : Room 0 (A.deeper (PyProof.Rows.envOfC "is_number" (defScope s_is_number) s.heap.objs.size a cdv))) :
    PSs (cxOf (L2.CX P w) P w K mg base N_is_number "is_number" (defScope s_is_number) a cdv A outer s H E) (defBody s_is_number) (tS ⟨K, mg⟩ n (fun cls d _ H => E cls d H) (b_is_number)) := by
  unfold b_is_number
  have tk := takes_of (X := (cxOf (L2.CX P w) P w K mg base N_is_number "is_number" (defScope s_is_number) a cdv A outer s H E)) (E := E) rfl rfl rfl rfl
  have pw := passes_of (X := (cxOf (L2.CX P w) P w K mg base N_is_number "is_number" (defScope s_is_number) a cdv A outer s H E)) rfl
  exact (dss_one (ds_ret (de_and (de_isiB rfl B.b_isinstance rfl B.b_int (by decide +kernel) (dw_v 0)) (de_and (de_not (de_isiB rfl B.b_isinstance rfl B.b_bool (by decide +kernel) (dw_v 0))) (de_one (de_ltlt (dw (de_neg (dw (de_globI B.c_VALUE_LIMIT rfl)))) (dw_v 0) (dw (de_globI B.c_VALUE_LIMIT rfl))))))))
theorem k_is_number {P : Program} {w : World} {K : PySem.W.Frag} {mg : Str → Option Value} {base : Heap}  {gg : Fn} (T : FT K mg "is_number" s_is_number) (B : Blt K mg)
    (hf : ∀ ds ω r, gg ds ω = some r → ds.length = 1 ∧ ∃ rs, b_is_number (startE N_is_number ds) ω = some rs ∧ retOf rs = some r) : Cal P w K mg base "is_number" P_is_number 1 gg :=
  cal_of T (fun a fd F => F.binds (ps := P_is_number) fun _ _ _ _ _ _ us hl => match us, hl with | [_], _ => rfl) fun a fd F => fn_x F sc_is_number (fun ds ω r e => (hf ds ω r e).1) (fun cdv A outer s H E n hr => d_is_number n B hr) fun ds ω r e => (hf ds ω r e).2

/-! ### is_operand -/
abbrev s_is_operand : Stmt := top 12
abbrev N_is_operand : List Str := ["thing"]
abbrev P_is_operand : List Str := ["thing"]
theorem sc_is_operand : FnScope N_is_operand P_is_operand (defScope s_is_operand) := ⟨rfl, rfl, rfl, by decide +kernel, rfl, by decide +kernel, by decide +kernel⟩
def b_is_operand (g_is_name : Fn) (g_is_number : Fn) : MS :=
  (retS (orV (calM g_is_number (consM (vF 0) (M.pure []))) (calM g_is_name (consM (vF 0) (M.pure [])))))
theorem d_is_operand {P : Program} {w : World} {K : PySem.W.Frag} {mg : Str → Option Value} {base : Heap} {g_is_name : Fn} {g_is_number : Fn} {a : Addr} {cdv : Value} {A : Around} {outer : List PySem.Env} {s : Shared} {H : Hp} {E : XK} (n : En) (B : Blt K mg) (c_is_name : Cal P w K mg base "is_name" P_is_name 1 g_is_name) (c_is_number : Cal P w K mg base "is_number" P_is_number 1 g_is_number)
    (hr : Room 1 (A.deeper (PyProof.Rows.envOfC "is_operand" (defScope s_is_operand) s.heap.objs.size a cdv))) :
    PSs (cxOf (L2.CX P w) P w K mg base N_is_operand "is_operand" (defScope s_is_operand) a cdv A outer s H E) (defBody s_is_operand) (tS ⟨K, mg⟩ n (fun cls d _ H => E cls d H) (b_is_operand g_is_name g_is_number)) := by
  unfold b_is_operand
  have tk := takes_of (X := (cxOf (L2.CX P w) P w K mg base N_is_operand "is_operand" (defScope s_is_operand) a cdv A outer s H E)) (E := E) rfl rfl rfl rfl
  have pw := passes_of (X := (cxOf (L2.CX P w) P w K mg base N_is_operand "is_operand" (defScope s_is_operand) a cdv A outer s H E)) rfl
  exact (dss_one (ds_ret (de_or (de_fn tk c_is_number hr (by decide) rfl (da_cons (de_v 0) da_nil)) (de_one (de_fn tk c_is_name hr (by decide) rfl (da_cons (de_v 0) da_nil))))))
theorem k_is_operand {P : Program} {w : World} {K : PySem.W.Frag} {mg : Str → Option Value} {base : Heap} {g_is_name : Fn} {g_is_number : Fn} {gg : Fn} (T : FT K mg "is_operand" s_is_operand) (B : Blt K mg) (c_is_name : Cal P w K mg base "is_name" P_is_name 1 g_is_name) (c_is_number : Cal P w K mg base "is_number" P_is_number 1 g_is_number)
    (hf : ∀ ds ω r, gg ds ω = some r → ds.length = 1 ∧ ∃ rs, b_is_operand g_is_name g_is_number (startE N_is_operand ds) ω = some rs ∧ retOf rs = some r) : Cal P w K mg base "is_operand" P_is_operand 2 gg :=
  cal_of T (fun a fd F => F.binds (ps := P_is_operand) fun _ _ _ _ _ _ us hl => match us, hl with | [_], _ => rfl) fun a fd F => fn_x F sc_is_operand (fun ds ω r e => (hf ds ω r e).1) (fun cdv A outer s H E n hr => d_is_operand n B c_is_name c_is_number hr) fun ds ω r e => (hf ds ω r e).2

/-! ### Process.__init__ -/
abbrev s_Process___init__ : Stmt := inClass (top 22) 0
abbrev N_Process___init__ : List Str := ["self", "kind", "parts", "depth", "size"]
abbrev P_Process___init__ : List Str := ["self", "kind", "parts", "depth", "size"]
theorem sc_Process___init__ : FnScope N_Process___init__ P_Process___init__ (defScope s_Process___init__) := ⟨rfl, rfl, rfl, by decide +kernel, rfl, by decide +kernel, by decide +kernel⟩
def b_Process___init__  : MS :=
  (seqS (fldS ["Process"] "kind" (vF 0) (vF 1))
  (seqS (fldS ["Process"] "parts" (vF 0) (vF 2))
  (seqS (fldS ["Process"] "depth" (vF 0) (vF 3))
  (fldS ["Process"] "size" (vF 0) (vF 4)))))
theorem d_Process___init__ {P : Program} {w : World} {K : PySem.W.Frag} {mg : Str → Option Value} {base : Heap}  {a : Addr} {cdv : Value} {A : Around} {outer : List PySem.Env} {s : Shared} {H : Hp} {E : XK} (n : En) (B : Blt K mg)
    (hr : Room 0 (A.deeper (PyProof.Rows.envOfC "Process.__init__" (defScope s_Process___init__) s.heap.objs.size a cdv))) :
    PSs (cxOf (L2.CX P w) P w K mg base N_Process___init__ "Process.__init__" (defScope s_Process___init__) a cdv A outer s H E) (defBody s_Process___init__) (tS ⟨K, mg⟩ n (fun cls d _ H => E cls d H) (b_Process___init__)) := by
  unfold b_Process___init__
  have tk := takes_of (X := (cxOf (L2.CX P w) P w K mg base N_Process___init__ "Process.__init__" (defScope s_Process___init__) a cdv A outer s H E)) (E := E) rfl rfl rfl rfl
  have pw := passes_of (X := (cxOf (L2.CX P w) P w K mg base N_Process___init__ "Process.__init__" (defScope s_Process___init__) a cdv A outer s H E)) rfl
  exact (dss_cons (ds_fld rfl B.f_kind (de_v 0) (de_v 1))
  (dss_cons (ds_fld rfl B.f_parts (de_v 0) (de_v 2))
  (dss_cons (ds_fld rfl B.f_depth (de_v 0) (de_v 3))
  (dss_one (ds_fld rfl B.f_size (de_v 0) (de_v 4))))))
theorem k_mk_Process {P : Program} {w : World} {K : PySem.W.Frag} {mg : Str → Option Value} {base : Heap}  {gg : Fn} (T : FI K mg "Process" "Process.__init__" s_Process___init__) (B : Blt K mg)
    (hf : ∀ ds ω r, gg ds ω = some r → ds.length = 5 ∧ ∃ rs, b_Process___init__ (startE N_Process___init__ ds) ω = some rs ∧ retOf rs = some r) : CalG P w K mg base "Process" P_Process___init__ 1 gg :=
  calG_of T (fun a fd F => F.binds (ps := P_Process___init__) fun _ _ _ _ _ _ us hl => match us, hl with | [_, _, _, _, _], _ => rfl) fun a fd F => fn_x F sc_Process___init__ (fun ds ω r e => (hf ds ω r e).1) (fun cdv A outer s H E n hr => d_Process___init__ n B hr) fun ds ω r e => (hf ds ω r e).2

/-! ### Process.stop -/
abbrev s_Process_stop : Stmt := inClass (top 22) 1
abbrev N_Process_stop : List Str := []
abbrev P_Process_stop : List Str := []
theorem sc_Process_stop : FnScope N_Process_stop P_Process_stop (defScope s_Process_stop) := ⟨rfl, rfl, rfl, by decide +kernel, rfl, by decide +kernel, by decide +kernel⟩
def b_Process_stop (g_mk_Process : Fn) : MS :=
  (retS ((consM (M.pure (.str "choice")) (consM ((M.pure []).bind mkTup) (consM (M.pure (.int 1)) (consM (M.pure (.int 1)) (M.pure []))))).bind (mkG "Process" g_mk_Process)))
theorem d_Process_stop {P : Program} {w : World} {K : PySem.W.Frag} {mg : Str → Option Value} {base : Heap} {g_mk_Process : Fn} {a : Addr} {cdv : Value} {A : Around} {outer : List PySem.Env} {s : Shared} {H : Hp} {E : XK} (n : En) (B : Blt K mg) (c_mk_Process : CalG P w K mg base "Process" P_Process___init__ 1 g_mk_Process)
    (hr : Room 2 (A.deeper (PyProof.Rows.envOfC "Process.stop" (defScope s_Process_stop) s.heap.objs.size a cdv))) :
    PSs (cxOf (L2.CX P w) P w K mg base N_Process_stop "Process.stop" (defScope s_Process_stop) a cdv A outer s H E) (defBody s_Process_stop) (tS ⟨K, mg⟩ n (fun cls d _ H => E cls d H) (b_Process_stop g_mk_Process)) := by
  unfold b_Process_stop
  have tk := takes_of (X := (cxOf (L2.CX P w) P w K mg base N_Process_stop "Process.stop" (defScope s_Process_stop) a cdv A outer s H E)) (E := E) rfl rfl rfl rfl
  have pw := passes_of (X := (cxOf (L2.CX P w) P w K mg base N_Process_stop "Process.stop" (defScope s_Process_stop) a cdv A outer s H E)) rfl
  exact (dss_one (ds_ret (de_makeG tk c_mk_Process hr (by decide) rfl (da_cons de_str (da_cons (de_tup da_nil) (da_cons de_int (da_cons de_int da_nil)))))))
theorem k_Process_stop {P : Program} {w : World} {K : PySem.W.Frag} {mg : Str → Option Value} {base : Heap} {g_mk_Process : Fn} {gg : Fn} (T : FS K mg "Process" "stop" "Process.stop" s_Process_stop) (B : Blt K mg) (c_mk_Process : CalG P w K mg base "Process" P_Process___init__ 1 g_mk_Process)
    (hf : ∀ ds ω r, gg ds ω = some r → ds.length = 0 ∧ ∃ rs, b_Process_stop g_mk_Process (startE N_Process_stop ds) ω = some rs ∧ retOf rs = some r) : CalS P w K mg base "Process" "stop" P_Process_stop 3 gg :=
  calS_of T (fun a fd F => F.binds (ps := P_Process_stop) fun _ _ _ _ _ _ us hl => match us, hl with | [], _ => rfl) fun a fd F => fn_x F sc_Process_stop (fun ds ω r e => (hf ds ω r e).1) (fun cdv A outer s H E n hr => d_Process_stop n B c_mk_Process hr) fun ds ω r e => (hf ds ω r e).2

/-! ### Process.call -/
abbrev s_Process_call : Stmt := inClass (top 22) 5
abbrev N_Process_call : List Str := ["name", "operands", "given", "one"]
abbrev P_Process_call : List Str := ["name", "operands"]
theorem sc_Process_call : FnScope N_Process_call P_Process_call (defScope s_Process_call) := ⟨rfl, rfl, rfl, by decide +kernel, rfl, by decide +kernel, by decide +kernel⟩
def cm_Process_call_1 (g_is_operand : Fn) : M (List D) :=
  (lcM [3] ((vW 2).bind itemsOf) (nmT 3) (M.pure true) (calM g_is_operand (consM (vF 3) (M.pure []))))
def b_Process_call (g_is_name : Fn) (g_is_operand : Fn) (g_mk_Process : Fn) : MS :=
  (seqS (ifS (notM (truM (calM g_is_name (consM (vF 0) (M.pure []))))) (raiS "BadTerm" "field" (M.pure (.str "name"))) (fun ρ ω => some (.nx ρ ω)))
  (seqS (setS 2 (uo tupleD (vW 1)))
  (seqS (ifS (orM (tst (bo gtD (uo lenD (vW 2)) (M.pure (.int 4)))) (notM (truM (uo allD ((cm_Process_call_1 g_is_operand).bind fun ds => M.pure (.lst ds)))))) (raiS "BadTerm" "field" (M.pure (.str "operands"))) (fun ρ ω => some (.nx ρ ω)))
  (retS ((consM (M.pure (.str "call")) (consM ((consM (vF 0) (consM (vF 2) (M.pure []))).bind mkTup) (consM (M.pure (.int 1)) (consM (M.pure (.int 1)) (M.pure []))))).bind (mkG "Process" g_mk_Process))))))
theorem d_Process_call {P : Program} {w : World} {K : PySem.W.Frag} {mg : Str → Option Value} {base : Heap} {g_is_name : Fn} {g_is_operand : Fn} {g_mk_Process : Fn} {a : Addr} {cdv : Value} {A : Around} {outer : List PySem.Env} {s : Shared} {H : Hp} {E : XK} (n : En) (B : Blt K mg) (c_is_name : Cal P w K mg base "is_name" P_is_name 1 g_is_name) (c_is_operand : Cal P w K mg base "is_operand" P_is_operand 2 g_is_operand) (c_mk_Process : CalG P w K mg base "Process" P_Process___init__ 1 g_mk_Process) (c_x_BadTerm : CalX P w K mg base "BadTerm" "field" P_x_BadTerm 1)
    (hr : Room 2 (A.deeper (PyProof.Rows.envOfC "Process.call" (defScope s_Process_call) s.heap.objs.size a cdv))) :
    PSs (cxOf (L2.CX P w) P w K mg base N_Process_call "Process.call" (defScope s_Process_call) a cdv A outer s H E) (defBody s_Process_call) (tS ⟨K, mg⟩ n (fun cls d _ H => E cls d H) (b_Process_call g_is_name g_is_operand g_mk_Process)) := by
  unfold b_Process_call
  have tk := takes_of (X := (cxOf (L2.CX P w) P w K mg base N_Process_call "Process.call" (defScope s_Process_call) a cdv A outer s H E)) (E := E) rfl rfl rfl rfl
  have pw := passes_of (X := (cxOf (L2.CX P w) P w K mg base N_Process_call "Process.call" (defScope s_Process_call) a cdv A outer s H E)) rfl
  exact (dss_cons (ds_if (dt_not (dt_truth rfl (dw (de_fn tk c_is_name hr (by decide) rfl (da_cons (de_v 0) da_nil))))) (dss_one (ds_raise tk rfl c_x_BadTerm hr (by decide) rfl de_str)) dss_nil)
  (dss_cons (ds_set (i := 2) sc_Process_call.nd (de_tuple rfl rfl B.b_tuple (dw_v 1)))
  (dss_cons (ds_if (dt_w (dw_or (dt_gt (dw (de_len rfl rfl B.b_len (dw_v 2))) (dw (de_globI B.c_MOST_OPERANDS rfl))) (dw_or1 (dt_not (dt_truth rfl (dw (de_all rfl rfl rfl B.b_all (dw (de_new (dn_lc rfl sc_Process_call.nd (own := [("one", 3)]) (di_own rfl (dw_v 2)) (blkOk_by (own := [("one", 3)]) (N := N_Process_call) (sc := defScope s_Process_call) (by decide +kernel)) (by decide) (fun _ _ _ _ _ => (dg_name 3 sc_Process_call.nd)) (fun _ _ _ _ _ => dts_nil) (fun _ _ _ _ _ => (de_fn takes0 c_is_operand hr (by decide) rfl (da_cons (de_v 3) da_nil))))))))))))) (dss_one (ds_raise tk rfl c_x_BadTerm hr (by decide) rfl de_str)) dss_nil)
  (dss_one (ds_ret (de_makeG tk c_mk_Process hr (by decide) rfl (da_cons de_str (da_cons (de_tup (da_cons (de_v 0) (da_cons (de_v 2) da_nil))) (da_cons de_int (da_cons de_int da_nil))))))))))
theorem k_Process_call {P : Program} {w : World} {K : PySem.W.Frag} {mg : Str → Option Value} {base : Heap} {g_is_name : Fn} {g_is_operand : Fn} {g_mk_Process : Fn} {gg : Fn} (T : FS K mg "Process" "call" "Process.call" s_Process_call) (B : Blt K mg) (c_is_name : Cal P w K mg base "is_name" P_is_name 1 g_is_name) (c_is_operand : Cal P w K mg base "is_operand" P_is_operand 2 g_is_operand) (c_mk_Process : CalG P w K mg base "Process" P_Process___init__ 1 g_mk_Process) (c_x_BadTerm : CalX P w K mg base "BadTerm" "field" P_x_BadTerm 1)
    (hf : ∀ ds ω r, gg ds ω = some r → ds.length = 2 ∧ ∃ rs, b_Process_call g_is_name g_is_operand g_mk_Process (startE N_Process_call ds) ω = some rs ∧ retOf rs = some r) : CalS P w K mg base "Process" "call" P_Process_call 3 gg :=
  calS_of T (fun a fd F => F.binds (ps := P_Process_call) fun _ _ _ _ _ _ us hl => match us, hl with | [_, _], _ => rfl) fun a fd F => fn_x F sc_Process_call (fun ds ω r e => (hf ds ω r e).1) (fun cdv A outer s H E n hr => d_Process_call n B c_is_name c_is_operand c_mk_Process c_x_BadTerm hr) fun ds ω r e => (hf ds ω r e).2

/-! ### Process.__eq__ -/
abbrev s_Process___eq__ : Stmt := inClass (top 22) 6
abbrev N_Process___eq__ : List Str := ["self", "other"]
abbrev P_Process___eq__ : List Str := ["self", "other"]
theorem sc_Process___eq__ : FnScope N_Process___eq__ P_Process___eq__ (defScope s_Process___eq__) := ⟨rfl, rfl, rfl, by decide +kernel, rfl, by decide +kernel, by decide +kernel⟩
def b_Process___eq__ (g_Process___eq__ : Fn) : MS :=
  (retS (andV (uo (isiO [("Process", true)]) (vW 1)) (andV (bo eqD (uo (fldD ["Process"] "kind") (vW 0)) (uo (fldD ["Process"] "kind") (vW 1))) (eqX [("Process", g_Process___eq__)] (uo (fldD ["Process"] "parts") (vW 0)) (uo (fldD ["Process"] "parts") (vW 1))))))
theorem d_Process___eq__ {P : Program} {w : World} {K : PySem.W.Frag} {mg : Str → Option Value} {base : Heap} {g_Process___eq__ : Fn} {a : Addr} {cdv : Value} {A : Around} {outer : List PySem.Env} {s : Shared} {H : Hp} {E : XK} (n : En) (B : Blt K mg) {v : Nat} (hv : 0 ≤ v) (c_Process___eq__ : CalM P w K mg base "Process" "__eq__" P_Process___eq__ v g_Process___eq__)
    (hr : Room (v + 8) (A.deeper (PyProof.Rows.envOfC "Process.__eq__" (defScope s_Process___eq__) s.heap.objs.size a cdv))) :
    PSs (cxOf (L2.CX P w) P w K mg base N_Process___eq__ "Process.__eq__" (defScope s_Process___eq__) a cdv A outer s H E) (defBody s_Process___eq__) (tS ⟨K, mg⟩ n (fun cls d _ H => E cls d H) (b_Process___eq__ g_Process___eq__)) := by
  unfold b_Process___eq__
  have tk := takes_of (X := (cxOf (L2.CX P w) P w K mg base N_Process___eq__ "Process.__eq__" (defScope s_Process___eq__) a cdv A outer s H E)) (E := E) rfl rfl rfl rfl
  have pw := passes_of (X := (cxOf (L2.CX P w) P w K mg base N_Process___eq__ "Process.__eq__" (defScope s_Process___eq__) a cdv A outer s H E)) rfl
  exact (dss_one (ds_ret (de_and (de_isiO (isf_cons B.i_Process_Process isf_nil) rfl B.b_isinstance rfl B.m_Process (dw_v 1)) (de_and (de_eq rfl hr (dw (de_fld rfl B.f_kind (dw_v 0))) (dw (de_fld rfl B.f_kind (dw_v 1)))) (de_one (de_eqX (k := v) tk (cms_cons c_Process___eq__ (by first | decide | omega) cms_nil) injC_one hr (by first | decide | omega) (de_fld rfl B.f_parts (dw_v 0)) (de_fld rfl B.f_parts (dw_v 1))))))))
theorem k_Process___eq__ {P : Program} {w : World} {K : PySem.W.Frag} {mg : Str → Option Value} {base : Heap} {g_Process___eq__ : Fn} {gg : Fn} (T : FM K mg "Process" "__eq__" "Process.__eq__" s_Process___eq__) (B : Blt K mg) {v : Nat} (hv : 0 ≤ v) (c_Process___eq__ : CalM P w K mg base "Process" "__eq__" P_Process___eq__ v g_Process___eq__)
    (hf : ∀ ds ω r, gg ds ω = some r → ds.length = 2 ∧ ∃ rs, b_Process___eq__ g_Process___eq__ (startE N_Process___eq__ ds) ω = some rs ∧ retOf rs = some r) : CalM P w K mg base "Process" "__eq__" P_Process___eq__ (v + 9) gg :=
  calM_of T (fun a fd F => F.binds (ps := P_Process___eq__) fun _ _ _ _ _ _ us hl => match us, hl with | [_, _], _ => rfl) fun a fd F => fn_x F sc_Process___eq__ (fun ds ω r e => (hf ds ω r e).1) (fun cdv A outer s H E n hr => d_Process___eq__ n B hv c_Process___eq__ hr) fun ds ω r e => (hf ds ω r e).2
theorem z_Process___eq__ {P : Program} {w : World} {K : PySem.W.Frag} {mg : Str → Option Value} {base : Heap} {v : Nat} (T : FM K mg "Process" "__eq__" "Process.__eq__" s_Process___eq__) : CalM P w K mg base "Process" "__eq__" P_Process___eq__ v (fun _ _ => none) :=
  calM_of T (fun a fd F => F.binds (ps := P_Process___eq__) fun _ _ _ _ _ _ us hl => match us, hl with | [_, _], _ => rfl) fun a fd F => fnOk_none

/-! ### Net.__init__ -/
abbrev s_Net___init__ : Stmt := inClass (top 23) 0
abbrev N_Net___init__ : List Str := ["self", "processes"]
abbrev P_Net___init__ : List Str := ["self", "processes"]
theorem sc_Net___init__ : FnScope N_Net___init__ P_Net___init__ (defScope s_Net___init__) := ⟨rfl, rfl, rfl, by decide +kernel, rfl, by decide +kernel, by decide +kernel⟩
def b_Net___init__  : MS :=
  (seqS (ifS (tst (bo gtD (uo lenD (vW 1)) (M.pure (.int 6)))) (raiS "BadTerm" "field" (M.pure (.str "machines"))) (fun ρ ω => some (.nx ρ ω)))
  (fldS ["Net"] "rows" (vF 0) (uo listD (vW 1))))
theorem d_Net___init__ {P : Program} {w : World} {K : PySem.W.Frag} {mg : Str → Option Value} {base : Heap}  {a : Addr} {cdv : Value} {A : Around} {outer : List PySem.Env} {s : Shared} {H : Hp} {E : XK} (n : En) (B : Blt K mg) (c_x_BadTerm : CalX P w K mg base "BadTerm" "field" P_x_BadTerm 1)
    (hr : Room 2 (A.deeper (PyProof.Rows.envOfC "Net.__init__" (defScope s_Net___init__) s.heap.objs.size a cdv))) :
    PSs (cxOf (L2.CX P w) P w K mg base N_Net___init__ "Net.__init__" (defScope s_Net___init__) a cdv A outer s H E) (defBody s_Net___init__) (tS ⟨K, mg⟩ n (fun cls d _ H => E cls d H) (b_Net___init__)) := by
  unfold b_Net___init__
  have tk := takes_of (X := (cxOf (L2.CX P w) P w K mg base N_Net___init__ "Net.__init__" (defScope s_Net___init__) a cdv A outer s H E)) (E := E) rfl rfl rfl rfl
  have pw := passes_of (X := (cxOf (L2.CX P w) P w K mg base N_Net___init__ "Net.__init__" (defScope s_Net___init__) a cdv A outer s H E)) rfl
  exact (dss_cons (ds_if (dt_gt (dw (de_len rfl rfl B.b_len (dw_v 1))) (dw (de_globI B.c_MOST_MACHINES rfl))) (dss_one (ds_raise tk rfl c_x_BadTerm hr (by decide) rfl de_str)) dss_nil)
  (dss_one (ds_fld rfl B.f_rows (de_v 0) (de_list rfl rfl B.b_list (dw_v 1)))))
theorem k_mk_Net {P : Program} {w : World} {K : PySem.W.Frag} {mg : Str → Option Value} {base : Heap}  {gg : Fn} (T : FI K mg "Net" "Net.__init__" s_Net___init__) (B : Blt K mg) (c_x_BadTerm : CalX P w K mg base "BadTerm" "field" P_x_BadTerm 1)
    (hf : ∀ ds ω r, gg ds ω = some r → ds.length = 2 ∧ ∃ rs, b_Net___init__ (startE N_Net___init__ ds) ω = some rs ∧ retOf rs = some r) : CalG P w K mg base "Net" P_Net___init__ 3 gg :=
  calG_of T (fun a fd F => F.binds (ps := P_Net___init__) fun _ _ _ _ _ _ us hl => match us, hl with | [_, _], _ => rfl) fun a fd F => fn_x F sc_Net___init__ (fun ds ω r e => (hf ds ω r e).1) (fun cdv A outer s H E n hr => d_Net___init__ n B c_x_BadTerm hr) fun ds ω r e => (hf ds ω r e).2
def bq_Net___init__ : MS :=
  (seqS (ifS (tst (bo gtD (uo lenD (vW 1)) (M.pure (.int 6)))) (fun _ _ => none) (fun ρ ω => some (.nx ρ ω)))
  (fldS ["Net"] "rows" (vF 0) (uo listD (vW 1))))
theorem dq_Net___init__ {P : Program} {w : World} {K : PySem.W.Frag} {mg : Str → Option Value} {base : Heap} {a : Addr} {cdv : Value} {A : Around} {outer : List PySem.Env} {s : Shared} {H : Hp} {E : XK} (n : En) (B : Blt K mg)
    (hr : RoomQ 2 (A.deeper (PyProof.Rows.envOfC "Net.__init__" (defScope s_Net___init__) s.heap.objs.size a cdv))) :
    PSs (cxQ P w K mg base N_Net___init__ "Net.__init__" (defScope s_Net___init__) a cdv A outer s H E) (defBody s_Net___init__) (tS ⟨K, mg⟩ n (fun cls d _ H => E cls d H) bq_Net___init__) := by
  unfold bq_Net___init__
  exact (dss_cons (ds_if (dt_gt (dw (de_len rfl rfl B.b_len (dw_v 1))) (dw (de_globI B.c_MOST_MACHINES rfl))) (dss_one ds_no) dss_nil)
  (dss_one (ds_fld rfl B.f_rows (de_v 0) (de_list rfl rfl B.b_list (dw_v 1)))))
theorem k_q_mk_Net {P : Program} {w : World} {K : PySem.W.Frag} {mg : Str → Option Value} {base : Heap} {gg : Fn} (T : FI K mg "Net" "Net.__init__" s_Net___init__) (B : Blt K mg)
    (hf : ∀ ds ω r, gg ds ω = some r → ds.length = 2 ∧ ∃ rs, bq_Net___init__ (startE N_Net___init__ ds) ω = some rs ∧ retOf rs = some r) : CalQ P w K mg base "Net" P_Net___init__ 3 gg :=
  calQ_of T (fun a fd F => F.binds (ps := P_Net___init__) fun _ _ _ _ _ _ us hl => match us, hl with | [_, _], _ => rfl) fun a fd F => fnq_x F sc_Net___init__ (fun ds ω r e => (hf ds ω r e).1) (fun cdv A outer s H E n hr => dq_Net___init__ n B hr) fun ds ω r e => (hf ds ω r e).2

/-! ### rows_of -/
abbrev s_rows_of : Stmt := top 24
abbrev N_rows_of : List Str := ["thing"]
abbrev P_rows_of : List Str := ["thing"]
theorem sc_rows_of : FnScope N_rows_of P_rows_of (defScope s_rows_of) := ⟨rfl, rfl, rfl, by decide +kernel, rfl, by decide +kernel, by decide +kernel⟩
def b_rows_of  : MS :=
  (seqS (ifS (truM (uo (isiO [("Net", true), ("Process", false)]) (vW 0))) (retS (uo listD (uo (fldD ["Net"] "rows") (vW 0)))) (fun ρ ω => some (.nx ρ ω)))
  (retS (((consM (vF 0) (M.pure [])).bind lenOk).bind fun ds => M.pure (.lst ds))))
theorem d_rows_of {P : Program} {w : World} {K : PySem.W.Frag} {mg : Str → Option Value} {base : Heap}  {a : Addr} {cdv : Value} {A : Around} {outer : List PySem.Env} {s : Shared} {H : Hp} {E : XK} (n : En) (B : Blt K mg)
    (hr : Room 0 (A.deeper (PyProof.Rows.envOfC "rows_of" (defScope s_rows_of) s.heap.objs.size a cdv))) :
    PSs (cxOf (L2.CX P w) P w K mg base N_rows_of "rows_of" (defScope s_rows_of) a cdv A outer s H E) (defBody s_rows_of) (tS ⟨K, mg⟩ n (fun cls d _ H => E cls d H) (b_rows_of)) := by
  unfold b_rows_of
  have tk := takes_of (X := (cxOf (L2.CX P w) P w K mg base N_rows_of "rows_of" (defScope s_rows_of) a cdv A outer s H E)) (E := E) rfl rfl rfl rfl
  have pw := passes_of (X := (cxOf (L2.CX P w) P w K mg base N_rows_of "rows_of" (defScope s_rows_of) a cdv A outer s H E)) rfl
  exact (dss_cons (ds_if (dt_truth rfl (dw (de_isiO (isf_cons B.i_Net_Net (isf_cons B.i_Net_Process isf_nil)) rfl B.b_isinstance rfl B.m_Net (dw_v 0)))) (dss_one (ds_ret (de_list rfl rfl B.b_list (dw (de_fld rfl B.f_rows (dw_v 0)))))) dss_nil)
  (dss_one (ds_ret (de_new (dn_lst (da_cons (de_v 0) da_nil))))))
theorem k_rows_of {P : Program} {w : World} {K : PySem.W.Frag} {mg : Str → Option Value} {base : Heap}  {gg : Fn} (T : FT K mg "rows_of" s_rows_of) (B : Blt K mg)
    (hf : ∀ ds ω r, gg ds ω = some r → ds.length = 1 ∧ ∃ rs, b_rows_of (startE N_rows_of ds) ω = some rs ∧ retOf rs = some r) : Cal P w K mg base "rows_of" P_rows_of 1 gg :=
  cal_of T (fun a fd F => F.binds (ps := P_rows_of) fun _ _ _ _ _ _ us hl => match us, hl with | [_], _ => rfl) fun a fd F => fn_x F sc_rows_of (fun ds ω r e => (hf ds ω r e).1) (fun cdv A outer s H E n hr => d_rows_of n B hr) fun ds ω r e => (hf ds ω r e).2

/-! ### Process.__or__ -/
abbrev s_Process___or__ : Stmt := inClass (top 22) 8
abbrev N_Process___or__ : List Str := ["self", "other"]
abbrev P_Process___or__ : List Str := ["self", "other"]
theorem sc_Process___or__ : FnScope N_Process___or__ P_Process___or__ (defScope s_Process___or__) := ⟨rfl, rfl, rfl, by decide +kernel, rfl, by decide +kernel, by decide +kernel⟩
def b_Process___or__ (g_mk_Net : Fn) (g_rows_of : Fn) : MS :=
  (retS ((consM (bo addD (((consM (vF 0) (M.pure [])).bind lenOk).bind fun ds => M.pure (.lst ds)) (calM g_rows_of (consM (vF 1) (M.pure [])))) (M.pure [])).bind (mkN "Net" g_mk_Net)))
theorem d_Process___or__ {P : Program} {w : World} {K : PySem.W.Frag} {mg : Str → Option Value} {base : Heap} {g_mk_Net : Fn} {g_rows_of : Fn} {a : Addr} {cdv : Value} {A : Around} {outer : List PySem.Env} {s : Shared} {H : Hp} {E : XK} (n : En) (B : Blt K mg) (c_mk_Net : CalG P w K mg base "Net" P_Net___init__ 3 g_mk_Net) (c_rows_of : Cal P w K mg base "rows_of" P_rows_of 1 g_rows_of)
    (hr : Room 4 (A.deeper (PyProof.Rows.envOfC "Process.__or__" (defScope s_Process___or__) s.heap.objs.size a cdv))) :
    PSs (cxOf (L2.CX P w) P w K mg base N_Process___or__ "Process.__or__" (defScope s_Process___or__) a cdv A outer s H E) (defBody s_Process___or__) (tS ⟨K, mg⟩ n (fun cls d _ H => E cls d H) (b_Process___or__ g_mk_Net g_rows_of)) := by
  unfold b_Process___or__
  have tk := takes_of (X := (cxOf (L2.CX P w) P w K mg base N_Process___or__ "Process.__or__" (defScope s_Process___or__) a cdv A outer s H E)) (E := E) rfl rfl rfl rfl
  have pw := passes_of (X := (cxOf (L2.CX P w) P w K mg base N_Process___or__ "Process.__or__" (defScope s_Process___or__) a cdv A outer s H E)) rfl
  exact (dss_one (ds_ret (de_makeN tk c_mk_Net hr (by decide) rfl (da_cons (de_add rfl (dw (de_new (dn_lst (da_cons (de_v 0) da_nil)))) (dw (de_fn tk c_rows_of hr (by decide) rfl (da_cons (de_v 1) da_nil)))) da_nil))))
theorem k_Process___or__ {P : Program} {w : World} {K : PySem.W.Frag} {mg : Str → Option Value} {base : Heap} {g_mk_Net : Fn} {g_rows_of : Fn} {gg : Fn} (T : FM K mg "Process" "__or__" "Process.__or__" s_Process___or__) (B : Blt K mg) (c_mk_Net : CalG P w K mg base "Net" P_Net___init__ 3 g_mk_Net) (c_rows_of : Cal P w K mg base "rows_of" P_rows_of 1 g_rows_of)
    (hf : ∀ ds ω r, gg ds ω = some r → ds.length = 2 ∧ ∃ rs, b_Process___or__ g_mk_Net g_rows_of (startE N_Process___or__ ds) ω = some rs ∧ retOf rs = some r) : CalM P w K mg base "Process" "__or__" P_Process___or__ 5 gg :=
  calM_of T (fun a fd F => F.binds (ps := P_Process___or__) fun _ _ _ _ _ _ us hl => match us, hl with | [_, _], _ => rfl) fun a fd F => fn_x F sc_Process___or__ (fun ds ω r e => (hf ds ω r e).1) (fun cdv A outer s H E n hr => d_Process___or__ n B c_mk_Net c_rows_of hr) fun ds ω r e => (hf ds ω r e).2

/-! ### Net.__mul__ -/
abbrev s_Net___mul__ : Stmt := inClass (top 23) 7
abbrev N_Net___mul__ : List Str := ["self", "many", "rows", "k"]
abbrev P_Net___mul__ : List Str := ["self", "many"]
theorem sc_Net___mul__ : FnScope N_Net___mul__ P_Net___mul__ (defScope s_Net___mul__) := ⟨rfl, rfl, rfl, by decide +kernel, rfl, by decide +kernel, by decide +kernel⟩
def lb_Net___mul___1  : MS :=
  (setS 2 (bo addD (vW 2) (uo (fldD ["Net"] "rows") (vW 0))))
def b_Net___mul__ (g_mk_Net : Fn) : MS :=
  (seqS (ifS (tst (bo gtD (bo mulD (vW 1) (uo lenD (uo (fldD ["Net"] "rows") (vW 0)))) (M.pure (.int 6)))) (raiS "BadTerm" "field" (M.pure (.str "machines"))) (fun ρ ω => some (.nx ρ ω)))
  (seqS (setS 2 (((M.pure []).bind lenOk).bind fun ds => M.pure (.lst ds)))
  (seqS (ifS (truM (uo (fldD ["Net"] "rows") (vW 0))) (forS ((vF 1).bind rng1) (nmT 3) lb_Net___mul___1) (fun ρ ω => some (.nx ρ ω)))
  (retS ((consM (vF 2) (M.pure [])).bind (mkN "Net" g_mk_Net))))))
theorem d_Net___mul__ {P : Program} {w : World} {K : PySem.W.Frag} {mg : Str → Option Value} {base : Heap} {g_mk_Net : Fn} {a : Addr} {cdv : Value} {A : Around} {outer : List PySem.Env} {s : Shared} {H : Hp} {E : XK} (n : En) (B : Blt K mg) (c_mk_Net : CalG P w K mg base "Net" P_Net___init__ 3 g_mk_Net) (c_x_BadTerm : CalX P w K mg base "BadTerm" "field" P_x_BadTerm 1)
    (hr : Room 4 (A.deeper (PyProof.Rows.envOfC "Net.__mul__" (defScope s_Net___mul__) s.heap.objs.size a cdv))) :
    PSs (cxOf (L2.CX P w) P w K mg base N_Net___mul__ "Net.__mul__" (defScope s_Net___mul__) a cdv A outer s H E) (defBody s_Net___mul__) (tS ⟨K, mg⟩ n (fun cls d _ H => E cls d H) (b_Net___mul__ g_mk_Net)) := by
  unfold b_Net___mul__
  have tk := takes_of (X := (cxOf (L2.CX P w) P w K mg base N_Net___mul__ "Net.__mul__" (defScope s_Net___mul__) a cdv A outer s H E)) (E := E) rfl rfl rfl rfl
  have pw := passes_of (X := (cxOf (L2.CX P w) P w K mg base N_Net___mul__ "Net.__mul__" (defScope s_Net___mul__) a cdv A outer s H E)) rfl
  exact (dss_cons (ds_if (dt_gt (dw (de_mul (dw_v 1) (dw (de_len rfl rfl B.b_len (dw (de_fld rfl B.f_rows (dw_v 0))))))) (dw (de_globI B.c_MOST_MACHINES rfl))) (dss_one (ds_raise tk rfl c_x_BadTerm hr (by decide) rfl de_str)) dss_nil)
  (dss_cons (ds_set (i := 2) sc_Net___mul__.nd (de_new (dn_lst da_nil)))
  (dss_cons (ds_if (dt_truth rfl (dw (de_fld rfl B.f_rows (dw_v 0)))) (dss_one (ds_for pw rfl (di_range1 rfl B.b_range (de_v 1)) (dg_name 3 sc_Net___mul__.nd) (dss_one (ds_set (i := 2) sc_Net___mul__.nd (de_add rfl (dw_v 2) (dw (de_fld rfl B.f_rows (dw_v 0)))))))) dss_nil)
  (dss_one (ds_ret (de_makeN tk c_mk_Net hr (by decide) rfl (da_cons (de_v 2) da_nil)))))))
theorem k_Net___mul__ {P : Program} {w : World} {K : PySem.W.Frag} {mg : Str → Option Value} {base : Heap} {g_mk_Net : Fn} {gg : Fn} (T : FM K mg "Net" "__mul__" "Net.__mul__" s_Net___mul__) (B : Blt K mg) (c_mk_Net : CalG P w K mg base "Net" P_Net___init__ 3 g_mk_Net) (c_x_BadTerm : CalX P w K mg base "BadTerm" "field" P_x_BadTerm 1)
    (hf : ∀ ds ω r, gg ds ω = some r → ds.length = 2 ∧ ∃ rs, b_Net___mul__ g_mk_Net (startE N_Net___mul__ ds) ω = some rs ∧ retOf rs = some r) : CalM P w K mg base "Net" "__mul__" P_Net___mul__ 5 gg :=
  calM_of T (fun a fd F => F.binds (ps := P_Net___mul__) fun _ _ _ _ _ _ us hl => match us, hl with | [_, _], _ => rfl) fun a fd F => fn_x F sc_Net___mul__ (fun ds ω r e => (hf ds ω r e).1) (fun cdv A outer s H E n hr => d_Net___mul__ n B c_mk_Net c_x_BadTerm hr) fun ds ω r e => (hf ds ω r e).2

/-! ### Process.__rmul__ -/
abbrev s_Process___rmul__ : Stmt := inClass (top 22) 9
abbrev N_Process___rmul__ : List Str := ["self", "many"]
abbrev P_Process___rmul__ : List Str := ["self", "many"]
theorem sc_Process___rmul__ : FnScope N_Process___rmul__ P_Process___rmul__ (defScope s_Process___rmul__) := ⟨rfl, rfl, rfl, by decide +kernel, rfl, by decide +kernel, by decide +kernel⟩
def b_Process___rmul__ (g_Net___mul__ : Fn) (g_mk_Net : Fn) : MS :=
  (retS (binO "__mul__" [("Net", g_Net___mul__)] ((consM (((consM (vF 0) (M.pure [])).bind lenOk).bind fun ds => M.pure (.lst ds)) (M.pure [])).bind (mkN "Net" g_mk_Net)) (vF 1)))
theorem d_Process___rmul__ {P : Program} {w : World} {K : PySem.W.Frag} {mg : Str → Option Value} {base : Heap} {g_Net___mul__ : Fn} {g_mk_Net : Fn} {a : Addr} {cdv : Value} {A : Around} {outer : List PySem.Env} {s : Shared} {H : Hp} {E : XK} (n : En) (B : Blt K mg) (c_Net___mul__ : CalM P w K mg base "Net" "__mul__" P_Net___mul__ 5 g_Net___mul__) (c_mk_Net : CalG P w K mg base "Net" P_Net___init__ 3 g_mk_Net)
    (hr : Room 6 (A.deeper (PyProof.Rows.envOfC "Process.__rmul__" (defScope s_Process___rmul__) s.heap.objs.size a cdv))) :
    PSs (cxOf (L2.CX P w) P w K mg base N_Process___rmul__ "Process.__rmul__" (defScope s_Process___rmul__) a cdv A outer s H E) (defBody s_Process___rmul__) (tS ⟨K, mg⟩ n (fun cls d _ H => E cls d H) (b_Process___rmul__ g_Net___mul__ g_mk_Net)) := by
  unfold b_Process___rmul__
  have tk := takes_of (X := (cxOf (L2.CX P w) P w K mg base N_Process___rmul__ "Process.__rmul__" (defScope s_Process___rmul__) a cdv A outer s H E)) (E := E) rfl rfl rfl rfl
  have pw := passes_of (X := (cxOf (L2.CX P w) P w K mg base N_Process___rmul__ "Process.__rmul__" (defScope s_Process___rmul__) a cdv A outer s H E)) rfl
  exact (dss_one (ds_ret (de_binO2 (k := 5) tk rfl (cms_cons c_Net___mul__ (by decide) cms_nil) (opf2_cons B.o2_Net_Mult opf2_nil) hr (by decide) (de_makeN tk c_mk_Net hr (by decide) rfl (da_cons (de_new (dn_lst (da_cons (de_v 0) da_nil))) da_nil)) (de_v 1))))
theorem k_Process___rmul__ {P : Program} {w : World} {K : PySem.W.Frag} {mg : Str → Option Value} {base : Heap} {g_Net___mul__ : Fn} {g_mk_Net : Fn} {gg : Fn} (T : FM K mg "Process" "__rmul__" "Process.__rmul__" s_Process___rmul__) (B : Blt K mg) (c_Net___mul__ : CalM P w K mg base "Net" "__mul__" P_Net___mul__ 5 g_Net___mul__) (c_mk_Net : CalG P w K mg base "Net" P_Net___init__ 3 g_mk_Net)
    (hf : ∀ ds ω r, gg ds ω = some r → ds.length = 2 ∧ ∃ rs, b_Process___rmul__ g_Net___mul__ g_mk_Net (startE N_Process___rmul__ ds) ω = some rs ∧ retOf rs = some r) : CalM P w K mg base "Process" "__rmul__" P_Process___rmul__ 7 gg :=
  calM_of T (fun a fd F => F.binds (ps := P_Process___rmul__) fun _ _ _ _ _ _ us hl => match us, hl with | [_, _], _ => rfl) fun a fd F => fn_x F sc_Process___rmul__ (fun ds ω r e => (hf ds ω r e).1) (fun cdv A outer s H E n hr => d_Process___rmul__ n B c_Net___mul__ c_mk_Net hr) fun ds ω r e => (hf ds ω r e).2

/-! ### Net.__len__ -/
abbrev s_Net___len__ : Stmt := inClass (top 23) 1
abbrev N_Net___len__ : List Str := ["self"]
abbrev P_Net___len__ : List Str := ["self"]
theorem sc_Net___len__ : FnScope N_Net___len__ P_Net___len__ (defScope s_Net___len__) := ⟨rfl, rfl, rfl, by decide +kernel, rfl, by decide +kernel, by decide +kernel⟩
def b_Net___len__  : MS :=
  (retS (uo lenD (uo (fldD ["Net"] "rows") (vW 0))))
theorem d_Net___len__ {P : Program} {w : World} {K : PySem.W.Frag} {mg : Str → Option Value} {base : Heap}  {a : Addr} {cdv : Value} {A : Around} {outer : List PySem.Env} {s : Shared} {H : Hp} {E : XK} (n : En) (B : Blt K mg)
    (hr : Room 0 (A.deeper (PyProof.Rows.envOfC "Net.__len__" (defScope s_Net___len__) s.heap.objs.size a cdv))) :
    PSs (cxOf (L2.CX P w) P w K mg base N_Net___len__ "Net.__len__" (defScope s_Net___len__) a cdv A outer s H E) (defBody s_Net___len__) (tS ⟨K, mg⟩ n (fun cls d _ H => E cls d H) (b_Net___len__)) := by
  unfold b_Net___len__
  have tk := takes_of (X := (cxOf (L2.CX P w) P w K mg base N_Net___len__ "Net.__len__" (defScope s_Net___len__) a cdv A outer s H E)) (E := E) rfl rfl rfl rfl
  have pw := passes_of (X := (cxOf (L2.CX P w) P w K mg base N_Net___len__ "Net.__len__" (defScope s_Net___len__) a cdv A outer s H E)) rfl
  exact (dss_one (ds_ret (de_len rfl rfl B.b_len (dw (de_fld rfl B.f_rows (dw_v 0))))))
theorem k_Net___len__ {P : Program} {w : World} {K : PySem.W.Frag} {mg : Str → Option Value} {base : Heap}  {gg : Fn} (T : FM K mg "Net" "__len__" "Net.__len__" s_Net___len__) (B : Blt K mg)
    (hf : ∀ ds ω r, gg ds ω = some r → ds.length = 1 ∧ ∃ rs, b_Net___len__ (startE N_Net___len__ ds) ω = some rs ∧ retOf rs = some r) : CalM P w K mg base "Net" "__len__" P_Net___len__ 1 gg :=
  calM_of T (fun a fd F => F.binds (ps := P_Net___len__) fun _ _ _ _ _ _ us hl => match us, hl with | [_], _ => rfl) fun a fd F => fn_x F sc_Net___len__ (fun ds ω r e => (hf ds ω r e).1) (fun cdv A outer s H E n hr => d_Net___len__ n B hr) fun ds ω r e => (hf ds ω r e).2

/-! ### Net.__getitem__ -/
abbrev s_Net___getitem__ : Stmt := inClass (top 23) 2
abbrev N_Net___getitem__ : List Str := ["self", "at"]
abbrev P_Net___getitem__ : List Str := ["self", "at"]
theorem sc_Net___getitem__ : FnScope N_Net___getitem__ P_Net___getitem__ (defScope s_Net___getitem__) := ⟨rfl, rfl, rfl, by decide +kernel, rfl, by decide +kernel, by decide +kernel⟩
def b_Net___getitem__  : MS :=
  (retS (bo ixD (uo (fldD ["Net"] "rows") (vW 0)) (vW 1)))
theorem d_Net___getitem__ {P : Program} {w : World} {K : PySem.W.Frag} {mg : Str → Option Value} {base : Heap}  {a : Addr} {cdv : Value} {A : Around} {outer : List PySem.Env} {s : Shared} {H : Hp} {E : XK} (n : En) (B : Blt K mg)
    (hr : Room 0 (A.deeper (PyProof.Rows.envOfC "Net.__getitem__" (defScope s_Net___getitem__) s.heap.objs.size a cdv))) :
    PSs (cxOf (L2.CX P w) P w K mg base N_Net___getitem__ "Net.__getitem__" (defScope s_Net___getitem__) a cdv A outer s H E) (defBody s_Net___getitem__) (tS ⟨K, mg⟩ n (fun cls d _ H => E cls d H) (b_Net___getitem__)) := by
  unfold b_Net___getitem__
  have tk := takes_of (X := (cxOf (L2.CX P w) P w K mg base N_Net___getitem__ "Net.__getitem__" (defScope s_Net___getitem__) a cdv A outer s H E)) (E := E) rfl rfl rfl rfl
  have pw := passes_of (X := (cxOf (L2.CX P w) P w K mg base N_Net___getitem__ "Net.__getitem__" (defScope s_Net___getitem__) a cdv A outer s H E)) rfl
  exact (dss_one (ds_ret (de_item rfl (dw (de_fld rfl B.f_rows (dw_v 0))) (dw_v 1))))
theorem k_Net___getitem__ {P : Program} {w : World} {K : PySem.W.Frag} {mg : Str → Option Value} {base : Heap}  {gg : Fn} (T : FM K mg "Net" "__getitem__" "Net.__getitem__" s_Net___getitem__) (B : Blt K mg)
    (hf : ∀ ds ω r, gg ds ω = some r → ds.length = 2 ∧ ∃ rs, b_Net___getitem__ (startE N_Net___getitem__ ds) ω = some rs ∧ retOf rs = some r) : CalM P w K mg base "Net" "__getitem__" P_Net___getitem__ 1 gg :=
  calM_of T (fun a fd F => F.binds (ps := P_Net___getitem__) fun _ _ _ _ _ _ us hl => match us, hl with | [_, _], _ => rfl) fun a fd F => fn_x F sc_Net___getitem__ (fun ds ω r e => (hf ds ω r e).1) (fun cdv A outer s H E n hr => d_Net___getitem__ n B hr) fun ds ω r e => (hf ds ω r e).2

/-! ### Net.__eq__ -/
abbrev s_Net___eq__ : Stmt := inClass (top 23) 4
abbrev N_Net___eq__ : List Str := ["self", "other"]
abbrev P_Net___eq__ : List Str := ["self", "other"]
theorem sc_Net___eq__ : FnScope N_Net___eq__ P_Net___eq__ (defScope s_Net___eq__) := ⟨rfl, rfl, rfl, by decide +kernel, rfl, by decide +kernel, by decide +kernel⟩
def b_Net___eq__ (g_Process___eq__ : Fn) : MS :=
  (retS (andV (uo (isiO [("Net", true), ("Process", false)]) (vW 1)) (eqX [("Process", g_Process___eq__)] (uo (fldD ["Net"] "rows") (vW 0)) (uo (fldD ["Net"] "rows") (vW 1)))))
theorem d_Net___eq__ {P : Program} {w : World} {K : PySem.W.Frag} {mg : Str → Option Value} {base : Heap} {g_Process___eq__ : Fn} {a : Addr} {cdv : Value} {A : Around} {outer : List PySem.Env} {s : Shared} {H : Hp} {E : XK} (n : En) (B : Blt K mg) (c_Process___eq__ : CalM P w K mg base "Process" "__eq__" P_Process___eq__ 36 g_Process___eq__)
    (hr : Room 44 (A.deeper (PyProof.Rows.envOfC "Net.__eq__" (defScope s_Net___eq__) s.heap.objs.size a cdv))) :
    PSs (cxOf (L2.CX P w) P w K mg base N_Net___eq__ "Net.__eq__" (defScope s_Net___eq__) a cdv A outer s H E) (defBody s_Net___eq__) (tS ⟨K, mg⟩ n (fun cls d _ H => E cls d H) (b_Net___eq__ g_Process___eq__)) := by
  unfold b_Net___eq__
  have tk := takes_of (X := (cxOf (L2.CX P w) P w K mg base N_Net___eq__ "Net.__eq__" (defScope s_Net___eq__) a cdv A outer s H E)) (E := E) rfl rfl rfl rfl
  have pw := passes_of (X := (cxOf (L2.CX P w) P w K mg base N_Net___eq__ "Net.__eq__" (defScope s_Net___eq__) a cdv A outer s H E)) rfl
  exact (dss_one (ds_ret (de_and (de_isiO (isf_cons B.i_Net_Net (isf_cons B.i_Net_Process isf_nil)) rfl B.b_isinstance rfl B.m_Net (dw_v 1)) (de_one (de_eqX (k := 36) tk (cms_cons c_Process___eq__ (by decide) cms_nil) injC_one hr (by decide) (de_fld rfl B.f_rows (dw_v 0)) (de_fld rfl B.f_rows (dw_v 1)))))))
theorem k_Net___eq__ {P : Program} {w : World} {K : PySem.W.Frag} {mg : Str → Option Value} {base : Heap} {g_Process___eq__ : Fn} {gg : Fn} (T : FM K mg "Net" "__eq__" "Net.__eq__" s_Net___eq__) (B : Blt K mg) (c_Process___eq__ : CalM P w K mg base "Process" "__eq__" P_Process___eq__ 36 g_Process___eq__)
    (hf : ∀ ds ω r, gg ds ω = some r → ds.length = 2 ∧ ∃ rs, b_Net___eq__ g_Process___eq__ (startE N_Net___eq__ ds) ω = some rs ∧ retOf rs = some r) : CalM P w K mg base "Net" "__eq__" P_Net___eq__ 45 gg :=
  calM_of T (fun a fd F => F.binds (ps := P_Net___eq__) fun _ _ _ _ _ _ us hl => match us, hl with | [_, _], _ => rfl) fun a fd F => fn_x F sc_Net___eq__ (fun ds ω r e => (hf ds ω r e).1) (fun cdv A outer s H E n hr => d_Net___eq__ n B c_Process___eq__ hr) fun ds ω r e => (hf ds ω r e).2

/-! ### Net.__or__ -/
abbrev s_Net___or__ : Stmt := inClass (top 23) 5
abbrev N_Net___or__ : List Str := ["self", "other"]
abbrev P_Net___or__ : List Str := ["self", "other"]
theorem sc_Net___or__ : FnScope N_Net___or__ P_Net___or__ (defScope s_Net___or__) := ⟨rfl, rfl, rfl, by decide +kernel, rfl, by decide +kernel, by decide +kernel⟩
def b_Net___or__ (g_mk_Net : Fn) (g_rows_of : Fn) : MS :=
  (retS ((consM (bo addD (uo (fldD ["Net"] "rows") (vW 0)) (calM g_rows_of (consM (vF 1) (M.pure [])))) (M.pure [])).bind (mkN "Net" g_mk_Net)))
theorem d_Net___or__ {P : Program} {w : World} {K : PySem.W.Frag} {mg : Str → Option Value} {base : Heap} {g_mk_Net : Fn} {g_rows_of : Fn} {a : Addr} {cdv : Value} {A : Around} {outer : List PySem.Env} {s : Shared} {H : Hp} {E : XK} (n : En) (B : Blt K mg) (c_mk_Net : CalG P w K mg base "Net" P_Net___init__ 3 g_mk_Net) (c_rows_of : Cal P w K mg base "rows_of" P_rows_of 1 g_rows_of)
    (hr : Room 4 (A.deeper (PyProof.Rows.envOfC "Net.__or__" (defScope s_Net___or__) s.heap.objs.size a cdv))) :
    PSs (cxOf (L2.CX P w) P w K mg base N_Net___or__ "Net.__or__" (defScope s_Net___or__) a cdv A outer s H E) (defBody s_Net___or__) (tS ⟨K, mg⟩ n (fun cls d _ H => E cls d H) (b_Net___or__ g_mk_Net g_rows_of)) := by
  unfold b_Net___or__
  have tk := takes_of (X := (cxOf (L2.CX P w) P w K mg base N_Net___or__ "Net.__or__" (defScope s_Net___or__) a cdv A outer s H E)) (E := E) rfl rfl rfl rfl
  have pw := passes_of (X := (cxOf (L2.CX P w) P w K mg base N_Net___or__ "Net.__or__" (defScope s_Net___or__) a cdv A outer s H E)) rfl
  exact (dss_one (ds_ret (de_makeN tk c_mk_Net hr (by decide) rfl (da_cons (de_add rfl (dw (de_fld rfl B.f_rows (dw_v 0))) (dw (de_fn tk c_rows_of hr (by decide) rfl (da_cons (de_v 1) da_nil)))) da_nil))))
theorem k_Net___or__ {P : Program} {w : World} {K : PySem.W.Frag} {mg : Str → Option Value} {base : Heap} {g_mk_Net : Fn} {g_rows_of : Fn} {gg : Fn} (T : FM K mg "Net" "__or__" "Net.__or__" s_Net___or__) (B : Blt K mg) (c_mk_Net : CalG P w K mg base "Net" P_Net___init__ 3 g_mk_Net) (c_rows_of : Cal P w K mg base "rows_of" P_rows_of 1 g_rows_of)
    (hf : ∀ ds ω r, gg ds ω = some r → ds.length = 2 ∧ ∃ rs, b_Net___or__ g_mk_Net g_rows_of (startE N_Net___or__ ds) ω = some rs ∧ retOf rs = some r) : CalM P w K mg base "Net" "__or__" P_Net___or__ 5 gg :=
  calM_of T (fun a fd F => F.binds (ps := P_Net___or__) fun _ _ _ _ _ _ us hl => match us, hl with | [_, _], _ => rfl) fun a fd F => fn_x F sc_Net___or__ (fun ds ω r e => (hf ds ω r e).1) (fun cdv A outer s H E n hr => d_Net___or__ n B c_mk_Net c_rows_of hr) fun ds ω r e => (hf ds ω r e).2

/-! ### Net.__ior__ -/
abbrev s_Net___ior__ : Stmt := inClass (top 23) 6
abbrev N_Net___ior__ : List Str := ["self", "other", "longer"]
abbrev P_Net___ior__ : List Str := ["self", "other"]
theorem sc_Net___ior__ : FnScope N_Net___ior__ P_Net___ior__ (defScope s_Net___ior__) := ⟨rfl, rfl, rfl, by decide +kernel, rfl, by decide +kernel, by decide +kernel⟩
def b_Net___ior__ (g_rows_of : Fn) : MS :=
  (seqS (setS 2 (bo addD (uo (fldD ["Net"] "rows") (vW 0)) (calM g_rows_of (consM (vF 1) (M.pure [])))))
  (seqS (ifS (tst (bo gtD (uo lenD (vW 2)) (M.pure (.int 6)))) (raiS "BadTerm" "field" (M.pure (.str "machines"))) (fun ρ ω => some (.nx ρ ω)))
  (seqS (fldS ["Net"] "rows" (vF 0) (vF 2))
  (retS (vF 0)))))
theorem d_Net___ior__ {P : Program} {w : World} {K : PySem.W.Frag} {mg : Str → Option Value} {base : Heap} {g_rows_of : Fn} {a : Addr} {cdv : Value} {A : Around} {outer : List PySem.Env} {s : Shared} {H : Hp} {E : XK} (n : En) (B : Blt K mg) (c_rows_of : Cal P w K mg base "rows_of" P_rows_of 1 g_rows_of) (c_x_BadTerm : CalX P w K mg base "BadTerm" "field" P_x_BadTerm 1)
    (hr : Room 2 (A.deeper (PyProof.Rows.envOfC "Net.__ior__" (defScope s_Net___ior__) s.heap.objs.size a cdv))) :
    PSs (cxOf (L2.CX P w) P w K mg base N_Net___ior__ "Net.__ior__" (defScope s_Net___ior__) a cdv A outer s H E) (defBody s_Net___ior__) (tS ⟨K, mg⟩ n (fun cls d _ H => E cls d H) (b_Net___ior__ g_rows_of)) := by
  unfold b_Net___ior__
  have tk := takes_of (X := (cxOf (L2.CX P w) P w K mg base N_Net___ior__ "Net.__ior__" (defScope s_Net___ior__) a cdv A outer s H E)) (E := E) rfl rfl rfl rfl
  have pw := passes_of (X := (cxOf (L2.CX P w) P w K mg base N_Net___ior__ "Net.__ior__" (defScope s_Net___ior__) a cdv A outer s H E)) rfl
  exact (dss_cons (ds_set (i := 2) sc_Net___ior__.nd (de_add rfl (dw (de_fld rfl B.f_rows (dw_v 0))) (dw (de_fn tk c_rows_of hr (by decide) rfl (da_cons (de_v 1) da_nil)))))
  (dss_cons (ds_if (dt_gt (dw (de_len rfl rfl B.b_len (dw_v 2))) (dw (de_globI B.c_MOST_MACHINES rfl))) (dss_one (ds_raise tk rfl c_x_BadTerm hr (by decide) rfl de_str)) dss_nil)
  (dss_cons (ds_fld rfl B.f_rows (de_v 0) (de_v 2))
  (dss_one (ds_ret (de_v 0))))))
theorem k_Net___ior__ {P : Program} {w : World} {K : PySem.W.Frag} {mg : Str → Option Value} {base : Heap} {g_rows_of : Fn} {gg : Fn} (T : FM K mg "Net" "__ior__" "Net.__ior__" s_Net___ior__) (B : Blt K mg) (c_rows_of : Cal P w K mg base "rows_of" P_rows_of 1 g_rows_of) (c_x_BadTerm : CalX P w K mg base "BadTerm" "field" P_x_BadTerm 1)
    (hf : ∀ ds ω r, gg ds ω = some r → ds.length = 2 ∧ ∃ rs, b_Net___ior__ g_rows_of (startE N_Net___ior__ ds) ω = some rs ∧ retOf rs = some r) : CalM P w K mg base "Net" "__ior__" P_Net___ior__ 3 gg :=
  calM_of T (fun a fd F => F.binds (ps := P_Net___ior__) fun _ _ _ _ _ _ us hl => match us, hl with | [_, _], _ => rfl) fun a fd F => fn_x F sc_Net___ior__ (fun ds ω r e => (hf ds ω r e).1) (fun cdv A outer s H E n hr => d_Net___ior__ n B c_rows_of c_x_BadTerm hr) fun ds ω r e => (hf ds ω r e).2

/-! ### Net.__rmul__ -/
abbrev s_Net___rmul__ : Stmt := inClass (top 23) 8
abbrev N_Net___rmul__ : List Str := ["self", "many"]
abbrev P_Net___rmul__ : List Str := ["self", "many"]
theorem sc_Net___rmul__ : FnScope N_Net___rmul__ P_Net___rmul__ (defScope s_Net___rmul__) := ⟨rfl, rfl, rfl, by decide +kernel, rfl, by decide +kernel, by decide +kernel⟩
def b_Net___rmul__ (g_Net___mul__ : Fn) : MS :=
  (retS (binO "__mul__" [("Net", g_Net___mul__)] (vF 0) (vF 1)))
theorem d_Net___rmul__ {P : Program} {w : World} {K : PySem.W.Frag} {mg : Str → Option Value} {base : Heap} {g_Net___mul__ : Fn} {a : Addr} {cdv : Value} {A : Around} {outer : List PySem.Env} {s : Shared} {H : Hp} {E : XK} (n : En) (B : Blt K mg) (c_Net___mul__ : CalM P w K mg base "Net" "__mul__" P_Net___mul__ 5 g_Net___mul__)
    (hr : Room 6 (A.deeper (PyProof.Rows.envOfC "Net.__rmul__" (defScope s_Net___rmul__) s.heap.objs.size a cdv))) :
    PSs (cxOf (L2.CX P w) P w K mg base N_Net___rmul__ "Net.__rmul__" (defScope s_Net___rmul__) a cdv A outer s H E) (defBody s_Net___rmul__) (tS ⟨K, mg⟩ n (fun cls d _ H => E cls d H) (b_Net___rmul__ g_Net___mul__)) := by
  unfold b_Net___rmul__
  have tk := takes_of (X := (cxOf (L2.CX P w) P w K mg base N_Net___rmul__ "Net.__rmul__" (defScope s_Net___rmul__) a cdv A outer s H E)) (E := E) rfl rfl rfl rfl
  have pw := passes_of (X := (cxOf (L2.CX P w) P w K mg base N_Net___rmul__ "Net.__rmul__" (defScope s_Net___rmul__) a cdv A outer s H E)) rfl
  exact (dss_one (ds_ret (de_binO2 (k := 5) tk rfl (cms_cons c_Net___mul__ (by decide) cms_nil) (opf2_cons B.o2_Net_Mult opf2_nil) hr (by decide) (de_v 0) (de_v 1))))
theorem k_Net___rmul__ {P : Program} {w : World} {K : PySem.W.Frag} {mg : Str → Option Value} {base : Heap} {g_Net___mul__ : Fn} {gg : Fn} (T : FM K mg "Net" "__rmul__" "Net.__rmul__" s_Net___rmul__) (B : Blt K mg) (c_Net___mul__ : CalM P w K mg base "Net" "__mul__" P_Net___mul__ 5 g_Net___mul__)
    (hf : ∀ ds ω r, gg ds ω = some r → ds.length = 2 ∧ ∃ rs, b_Net___rmul__ g_Net___mul__ (startE N_Net___rmul__ ds) ω = some rs ∧ retOf rs = some r) : CalM P w K mg base "Net" "__rmul__" P_Net___rmul__ 7 gg :=
  calM_of T (fun a fd F => F.binds (ps := P_Net___rmul__) fun _ _ _ _ _ _ us hl => match us, hl with | [_, _], _ => rfl) fun a fd F => fn_x F sc_Net___rmul__ (fun ds ω r e => (hf ds ω r e).1) (fun cdv A outer s H E n hr => d_Net___rmul__ n B c_Net___mul__ hr) fun ds ω r e => (hf ds ω r e).2

/-! ### _law_cell_at -/
abbrev s__law_cell_at : Stmt := top 26
abbrev N__law_cell_at : List Str := ["_law_script", "_law_k"]
abbrev P__law_cell_at : List Str := ["_law_script", "_law_k"]
theorem sc__law_cell_at : FnScope N__law_cell_at P__law_cell_at (defScope s__law_cell_at) := ⟨rfl, rfl, rfl, by decide +kernel, rfl, by decide +kernel, by decide +kernel⟩
def b__law_cell_at  : MS :=
  (seqS (ifS (tst (bo ltD (vW 1) (uo lenD (vW 0)))) (retS (bo ixD (vW 0) (vW 1))) (fun ρ ω => some (.nx ρ ω)))
  (retS (M.pure (.int 0))))
theorem d__law_cell_at {P : Program} {w : World} {K : PySem.W.Frag} {mg : Str → Option Value} {base : Heap}  {a : Addr} {cdv : Value} {A : Around} {outer : List PySem.Env} {s : Shared} {H : Hp} {E : XK} (n : En) (B : Blt K mg)
    (hr : Room 0 (A.deeper (PyProof.Rows.envOfC "_law_cell_at" (defScope s__law_cell_at) s.heap.objs.size a cdv))) :
    PSs (cxOf (L2.CX P w) P w K mg base N__law_cell_at "_law_cell_at" (defScope s__law_cell_at) a cdv A outer s H E) (defBody s__law_cell_at) (tS ⟨K, mg⟩ n (fun cls d _ H => E cls d H) (b__law_cell_at)) := by
  unfold b__law_cell_at
  have tk := takes_of (X := (cxOf (L2.CX P w) P w K mg base N__law_cell_at "_law_cell_at" (defScope s__law_cell_at) a cdv A outer s H E)) (E := E) rfl rfl rfl rfl
  have pw := passes_of (X := (cxOf (L2.CX P w) P w K mg base N__law_cell_at "_law_cell_at" (defScope s__law_cell_at) a cdv A outer s H E)) rfl
  exact (dss_cons (ds_if (dt_lt (dw_v 1) (dw (de_len rfl rfl B.b_len (dw_v 0)))) (dss_one (ds_ret (de_item rfl (dw_v 0) (dw_v 1)))) dss_nil)
  (dss_one (ds_ret de_int)))
theorem k__law_cell_at {P : Program} {w : World} {K : PySem.W.Frag} {mg : Str → Option Value} {base : Heap}  {gg : Fn} (T : FT K mg "_law_cell_at" s__law_cell_at) (B : Blt K mg)
    (hf : ∀ ds ω r, gg ds ω = some r → ds.length = 2 ∧ ∃ rs, b__law_cell_at (startE N__law_cell_at ds) ω = some rs ∧ retOf rs = some r) : Cal P w K mg base "_law_cell_at" P__law_cell_at 1 gg :=
  cal_of T (fun a fd F => F.binds (ps := P__law_cell_at) fun _ _ _ _ _ _ us hl => match us, hl with | [_, _], _ => rfl) fun a fd F => fn_x F sc__law_cell_at (fun ds ω r e => (hf ds ω r e).1) (fun cdv A outer s H E n hr => d__law_cell_at n B hr) fun ds ω r e => (hf ds ω r e).2

/-! ### _law_mixed -/
abbrev s__law_mixed : Stmt := top 27
abbrev N__law_mixed : List Str := ["_law_cell", "_law_k"]
abbrev P__law_mixed : List Str := ["_law_cell", "_law_k"]
theorem sc__law_mixed : FnScope N__law_mixed P__law_mixed (defScope s__law_mixed) := ⟨rfl, rfl, rfl, by decide +kernel, rfl, by decide +kernel, by decide +kernel⟩
def b__law_mixed  : MS :=
  (retS (bo modD (bo mulD (uo intD (bo addD (bo modD (bo powD (bo addD (bo addD (bo modD (uo intD (vW 0)) (M.pure (.int 2147483647))) (bo mulD (M.pure (.int 7919)) (vW 1))) (M.pure (.int 104729))) (M.pure (.int 5))) (M.pure (.int 2147483647))) (vW 1))) (M.pure (.int 40692))) (M.pure (.int 2147483629))))
theorem d__law_mixed {P : Program} {w : World} {K : PySem.W.Frag} {mg : Str → Option Value} {base : Heap}  {a : Addr} {cdv : Value} {A : Around} {outer : List PySem.Env} {s : Shared} {H : Hp} {E : XK} (n : En) (B : Blt K mg)
    (hr : Room 0 (A.deeper (PyProof.Rows.envOfC "_law_mixed" (defScope s__law_mixed) s.heap.objs.size a cdv))) :
    PSs (cxOf (L2.CX P w) P w K mg base N__law_mixed "_law_mixed" (defScope s__law_mixed) a cdv A outer s H E) (defBody s__law_mixed) (tS ⟨K, mg⟩ n (fun cls d _ H => E cls d H) (b__law_mixed)) := by
  unfold b__law_mixed
  have tk := takes_of (X := (cxOf (L2.CX P w) P w K mg base N__law_mixed "_law_mixed" (defScope s__law_mixed) a cdv A outer s H E)) (E := E) rfl rfl rfl rfl
  have pw := passes_of (X := (cxOf (L2.CX P w) P w K mg base N__law_mixed "_law_mixed" (defScope s__law_mixed) a cdv A outer s H E)) rfl
  exact (dss_one (ds_ret (de_mod (dw (de_mul (dw (de_toInt rfl B.b_int (dw (de_add rfl (dw (de_mod (dw (de_pow (dw (de_add rfl (dw (de_add rfl (dw (de_mod (dw (de_toInt rfl B.b_int (dw_v 0))) (dw de_int))) (dw (de_mul (dw de_int) (dw_v 1))))) (dw de_int))) (dw de_int))) (dw de_int))) (dw_v 1))))) (dw de_int))) (dw de_int))))
theorem k__law_mixed {P : Program} {w : World} {K : PySem.W.Frag} {mg : Str → Option Value} {base : Heap}  {gg : Fn} (T : FT K mg "_law_mixed" s__law_mixed) (B : Blt K mg)
    (hf : ∀ ds ω r, gg ds ω = some r → ds.length = 2 ∧ ∃ rs, b__law_mixed (startE N__law_mixed ds) ω = some rs ∧ retOf rs = some r) : Cal P w K mg base "_law_mixed" P__law_mixed 1 gg :=
  cal_of T (fun a fd F => F.binds (ps := P__law_mixed) fun _ _ _ _ _ _ us hl => match us, hl with | [_, _], _ => rfl) fun a fd F => fn_x F sc__law_mixed (fun ds ω r e => (hf ds ω r e).1) (fun cdv A outer s H E n hr => d__law_mixed n B hr) fun ds ω r e => (hf ds ω r e).2

/-! ### _law_row -/
abbrev s__law_row : Stmt := top 28
abbrev N__law_row : List Str := ["_law_cell", "_law_many", "_law_row_here", "_law_rest", "_law_k"]
abbrev P__law_row : List Str := ["_law_cell", "_law_many"]
theorem sc__law_row : FnScope N__law_row P__law_row (defScope s__law_row) := ⟨rfl, rfl, rfl, by decide +kernel, rfl, by decide +kernel, by decide +kernel⟩
def lb__law_row_1 (g__law_mixed : Fn) : MS :=
  (ifS (tst (bo gtD (vW 3) (M.pure (.int 0)))) (seqS (appS 2 (bo modD (uo intD (vW 3)) (M.pure (.int 1000))))
  (setS 3 (bo fdivD (vW 3) (M.pure (.int 1000))))) (appS 2 (bo modD (uo intD (calM g__law_mixed (consM (vF 0) (consM (vF 4) (M.pure []))))) (M.pure (.int 1000)))))
def b__law_row (g__law_mixed : Fn) : MS :=
  (seqS (setO 2 ((M.pure []).bind lenOk))
  (seqS (setS 3 (M.pure (.int 0)))
  (seqS (ifS (tst (bo geD (uo absD (vW 0)) (bo powD (M.pure (.int 10)) (M.pure (.int 18))))) (setS 3 (uo absD (vW 0))) (fun ρ ω => some (.nx ρ ω)))
  (seqS (forS ((vF 1).bind rng1) (nmT 4) (lb__law_row_1 g__law_mixed))
  (frz 2 (retS (vF 2)))))))
theorem d__law_row {P : Program} {w : World} {K : PySem.W.Frag} {mg : Str → Option Value} {base : Heap} {g__law_mixed : Fn} {a : Addr} {cdv : Value} {A : Around} {outer : List PySem.Env} {s : Shared} {H : Hp} {E : XK} (n : En) (B : Blt K mg) (c__law_mixed : Cal P w K mg base "_law_mixed" P__law_mixed 1 g__law_mixed)
    (hr : Room 1 (A.deeper (PyProof.Rows.envOfC "_law_row" (defScope s__law_row) s.heap.objs.size a cdv))) :
    PSs (cxOf (L2.CX P w) P w K mg base N__law_row "_law_row" (defScope s__law_row) a cdv A outer s H E) (defBody s__law_row) (tS ⟨K, mg⟩ n (fun cls d _ H => E cls d H) (b__law_row g__law_mixed)) := by
  unfold b__law_row
  have tk := takes_of (X := (cxOf (L2.CX P w) P w K mg base N__law_row "_law_row" (defScope s__law_row) a cdv A outer s H E)) (E := E) rfl rfl rfl rfl
  have pw := passes_of (X := (cxOf (L2.CX P w) P w K mg base N__law_row "_law_row" (defScope s__law_row) a cdv A outer s H E)) rfl
  exact (dss_cons (ds_setO (i := 2) sc__law_row.nd (dn_lst da_nil))
  (dss_cons (ds_set (i := 3) sc__law_row.nd de_int)
  (dss_cons (ds_if (dt_ge (dw (de_abs rfl B.b_abs (dw_v 0))) (dw (de_pow (dw de_int) (dw de_int)))) (dss_one (ds_set (i := 3) sc__law_row.nd (de_abs rfl B.b_abs (dw_v 0)))) dss_nil)
  (dss_cons (ds_for pw rfl (di_range1 rfl B.b_range (de_v 1)) (dg_name 4 sc__law_row.nd) (dss_one (ds_if (dt_gt (dw_v 3) (dw de_int)) (dss_cons (ds_app (i := 2) (de_mod (dw (de_toInt rfl B.b_int (dw_v 3))) (dw de_int)))
  (dss_one (ds_set (i := 3) sc__law_row.nd (de_fdiv (dw_v 3) (dw de_int))))) (dss_one (ds_app (i := 2) (de_mod (dw (de_toInt rfl B.b_int (dw (de_fn tk c__law_mixed hr (by decide) rfl (da_cons (de_v 0) (da_cons (de_v 4) da_nil)))))) (dw de_int)))))))
  (dss_one (ds_frz 2 (ds_ret (de_v 2))))))))
theorem k__law_row {P : Program} {w : World} {K : PySem.W.Frag} {mg : Str → Option Value} {base : Heap} {g__law_mixed : Fn} {gg : Fn} (T : FT K mg "_law_row" s__law_row) (B : Blt K mg) (c__law_mixed : Cal P w K mg base "_law_mixed" P__law_mixed 1 g__law_mixed)
    (hf : ∀ ds ω r, gg ds ω = some r → ds.length = 2 ∧ ∃ rs, b__law_row g__law_mixed (startE N__law_row ds) ω = some rs ∧ retOf rs = some r) : Cal P w K mg base "_law_row" P__law_row 2 gg :=
  cal_of T (fun a fd F => F.binds (ps := P__law_row) fun _ _ _ _ _ _ us hl => match us, hl with | [_, _], _ => rfl) fun a fd F => fn_x F sc__law_row (fun ds ω r e => (hf ds ω r e).1) (fun cdv A outer s H E n hr => d__law_row n B c__law_mixed hr) fun ds ω r e => (hf ds ω r e).2

/-! ### _law_process -/
abbrev s__law_process : Stmt := top 29
abbrev N__law_process : List Str := ["_law_label"]
abbrev P__law_process : List Str := ["_law_label"]
theorem sc__law_process : FnScope N__law_process P__law_process (defScope s__law_process) := ⟨rfl, rfl, rfl, by decide +kernel, rfl, by decide +kernel, by decide +kernel⟩
def b__law_process (g_Process_call : Fn) : MS :=
  (retS (calM g_Process_call (consM (bo addD (M.pure (.str "p")) (bo ixD (M.pure (.str "abcdefgh")) (bo modD (uo intD (vW 0)) (M.pure (.int 8))))) (consM (((consM (vF 0) (M.pure [])).bind lenOk).bind fun ds => M.pure (.lst ds)) (M.pure [])))))
theorem d__law_process {P : Program} {w : World} {K : PySem.W.Frag} {mg : Str → Option Value} {base : Heap} {g_Process_call : Fn} {a : Addr} {cdv : Value} {A : Around} {outer : List PySem.Env} {s : Shared} {H : Hp} {E : XK} (n : En) (B : Blt K mg) (c_Process_call : CalS P w K mg base "Process" "call" P_Process_call 3 g_Process_call)
    (hr : Room 3 (A.deeper (PyProof.Rows.envOfC "_law_process" (defScope s__law_process) s.heap.objs.size a cdv))) :
    PSs (cxOf (L2.CX P w) P w K mg base N__law_process "_law_process" (defScope s__law_process) a cdv A outer s H E) (defBody s__law_process) (tS ⟨K, mg⟩ n (fun cls d _ H => E cls d H) (b__law_process g_Process_call)) := by
  unfold b__law_process
  have tk := takes_of (X := (cxOf (L2.CX P w) P w K mg base N__law_process "_law_process" (defScope s__law_process) a cdv A outer s H E)) (E := E) rfl rfl rfl rfl
  have pw := passes_of (X := (cxOf (L2.CX P w) P w K mg base N__law_process "_law_process" (defScope s__law_process) a cdv A outer s H E)) rfl
  exact (dss_one (ds_ret (de_stat tk c_Process_call hr (by decide) rfl (da_cons (de_add rfl (dw de_str) (dw (de_item rfl (dw de_str) (dw (de_mod (dw (de_toInt rfl B.b_int (dw_v 0))) (dw de_int)))))) (da_cons (de_new (dn_lst (da_cons (de_v 0) da_nil))) da_nil)))))
theorem k__law_process {P : Program} {w : World} {K : PySem.W.Frag} {mg : Str → Option Value} {base : Heap} {g_Process_call : Fn} {gg : Fn} (T : FT K mg "_law_process" s__law_process) (B : Blt K mg) (c_Process_call : CalS P w K mg base "Process" "call" P_Process_call 3 g_Process_call)
    (hf : ∀ ds ω r, gg ds ω = some r → ds.length = 1 ∧ ∃ rs, b__law_process g_Process_call (startE N__law_process ds) ω = some rs ∧ retOf rs = some r) : Cal P w K mg base "_law_process" P__law_process 4 gg :=
  cal_of T (fun a fd F => F.binds (ps := P__law_process) fun _ _ _ _ _ _ us hl => match us, hl with | [_], _ => rfl) fun a fd F => fn_x F sc__law_process (fun ds ω r e => (hf ds ω r e).1) (fun cdv A outer s H E n hr => d__law_process n B c_Process_call hr) fun ds ω r e => (hf ds ω r e).2

/-! ### _law_is -/
abbrev s__law_is : Stmt := top 30
abbrev N__law_is : List Str := ["_law_net", "_law_labels", "_law_k", "_law_one"]
abbrev P__law_is : List Str := ["_law_net", "_law_labels"]
theorem sc__law_is : FnScope N__law_is P__law_is (defScope s__law_is) := ⟨rfl, rfl, rfl, by decide +kernel, rfl, by decide +kernel, by decide +kernel⟩
def lb__law_is_1 (g_Net___getitem__ : Fn) : MS :=
  (seqS (setS 3 (ixO [("Net", g_Net___getitem__)] (vF 0) (vF 2)))
  (ifS (orM (tst (bo neD (uo (fldD ["Process"] "kind") (vW 3)) (M.pure (.str "call")))) (tst (bo neD (uo (fldD ["Process"] "parts") (vW 3)) ((consM (bo addD (M.pure (.str "p")) (bo ixD (M.pure (.str "abcdefgh")) (bo modD (uo intD (bo ixD (vW 1) (vW 2))) (M.pure (.int 8))))) (consM ((consM (bo ixD (vW 1) (vW 2)) (M.pure [])).bind mkTup) (M.pure []))).bind mkTup)))) (retS (M.pure (.bl false))) (fun ρ ω => some (.nx ρ ω))))
def b__law_is (g_Net___getitem__ : Fn) (g_Net___len__ : Fn) : MS :=
  (seqS (ifS (tst (bo neD (lenO [("Net", g_Net___len__)] (vF 0)) (uo lenD (vW 1)))) (retS (M.pure (.bl false))) (fun ρ ω => some (.nx ρ ω)))
  (seqS (forS ((uo lenD (vW 1)).bind rng1) (nmT 2) (lb__law_is_1 g_Net___getitem__))
  (retS (M.pure (.bl true)))))
theorem d__law_is {P : Program} {w : World} {K : PySem.W.Frag} {mg : Str → Option Value} {base : Heap} {g_Net___getitem__ : Fn} {g_Net___len__ : Fn} {a : Addr} {cdv : Value} {A : Around} {outer : List PySem.Env} {s : Shared} {H : Hp} {E : XK} (n : En) (B : Blt K mg) (c_Net___getitem__ : CalM P w K mg base "Net" "__getitem__" P_Net___getitem__ 1 g_Net___getitem__) (c_Net___len__ : CalM P w K mg base "Net" "__len__" P_Net___len__ 1 g_Net___len__)
    (hr : Room 2 (A.deeper (PyProof.Rows.envOfC "_law_is" (defScope s__law_is) s.heap.objs.size a cdv))) :
    PSs (cxOf (L2.CX P w) P w K mg base N__law_is "_law_is" (defScope s__law_is) a cdv A outer s H E) (defBody s__law_is) (tS ⟨K, mg⟩ n (fun cls d _ H => E cls d H) (b__law_is g_Net___getitem__ g_Net___len__)) := by
  unfold b__law_is
  have tk := takes_of (X := (cxOf (L2.CX P w) P w K mg base N__law_is "_law_is" (defScope s__law_is) a cdv A outer s H E)) (E := E) rfl rfl rfl rfl
  have pw := passes_of (X := (cxOf (L2.CX P w) P w K mg base N__law_is "_law_is" (defScope s__law_is) a cdv A outer s H E)) rfl
  exact (dss_cons (ds_if (dt_ne rfl hr (dw (de_lenO (k := 1) tk (cms_cons c_Net___len__ (by decide) cms_nil) hr (by decide) rfl B.b_len (de_v 0))) (dw (de_len rfl rfl B.b_len (dw_v 1)))) (dss_one (ds_ret de_bl)) dss_nil)
  (dss_cons (ds_for pw rfl (di_range1 rfl B.b_range (de_len rfl rfl B.b_len (dw_v 1))) (dg_name 2 sc__law_is.nd) (dss_cons (ds_set (i := 3) sc__law_is.nd (de_ixO (k := 1) tk (cms_cons c_Net___getitem__ (by decide) cms_nil) hr (by decide) (de_v 0) (de_v 2)))
  (dss_one (ds_if (dt_w (dw_or (dt_ne rfl hr (dw (de_fld rfl B.f_kind (dw_v 3))) (dw de_str)) (dw_or1 (dt_ne rfl hr (dw (de_fld rfl B.f_parts (dw_v 3))) (dw (de_tup (da_cons (de_add rfl (dw de_str) (dw (de_item rfl (dw de_str) (dw (de_mod (dw (de_toInt rfl B.b_int (dw (de_item rfl (dw_v 1) (dw_v 2))))) (dw de_int)))))) (da_cons (de_tup (da_cons (de_item rfl (dw_v 1) (dw_v 2)) da_nil)) da_nil)))))))) (dss_one (ds_ret de_bl)) dss_nil))))
  (dss_one (ds_ret de_bl))))
theorem k__law_is {P : Program} {w : World} {K : PySem.W.Frag} {mg : Str → Option Value} {base : Heap} {g_Net___getitem__ : Fn} {g_Net___len__ : Fn} {gg : Fn} (T : FT K mg "_law_is" s__law_is) (B : Blt K mg) (c_Net___getitem__ : CalM P w K mg base "Net" "__getitem__" P_Net___getitem__ 1 g_Net___getitem__) (c_Net___len__ : CalM P w K mg base "Net" "__len__" P_Net___len__ 1 g_Net___len__)
    (hf : ∀ ds ω r, gg ds ω = some r → ds.length = 2 ∧ ∃ rs, b__law_is g_Net___getitem__ g_Net___len__ (startE N__law_is ds) ω = some rs ∧ retOf rs = some r) : Cal P w K mg base "_law_is" P__law_is 3 gg :=
  cal_of T (fun a fd F => F.binds (ps := P__law_is) fun _ _ _ _ _ _ us hl => match us, hl with | [_, _], _ => rfl) fun a fd F => fn_x F sc__law_is (fun ds ω r e => (hf ds ω r e).1) (fun cdv A outer s H E n hr => d__law_is n B c_Net___getitem__ c_Net___len__ hr) fun ds ω r e => (hf ds ω r e).2

/-! ### _law_joined -/
abbrev s__law_joined : Stmt := top 31
abbrev N__law_joined : List Str := ["_law_one", "_law_two", "e"]
abbrev P__law_joined : List Str := ["_law_one", "_law_two"]
theorem sc__law_joined : FnScope N__law_joined P__law_joined (defScope s__law_joined) := ⟨rfl, rfl, rfl, by decide +kernel, rfl, by decide +kernel, by decide +kernel⟩
def tb__law_joined_1 (g_Net___or__ : Fn) (g_Process___or__ : Fn) : MS :=
  (retS ((consM (binX "__or__" [("Process", g_Process___or__), ("Net", g_Net___or__)] (vF 0) (vF 1)) (consM (M.pure (.str "")) (M.pure []))).bind mkTup))
def su__law_joined_1 (g_q_mk_Net : Fn) : XP → MS :=
  (fun p => (retS ((consM ((consM (((M.pure []).bind lenOk).bind fun ds => M.pure (.lst ds)) (M.pure [])).bind (mkN "Net" g_q_mk_Net)) (consM (xfM 2 "BadTerm" "field" p) (M.pure []))).bind mkTup)))
def b__law_joined (g_Net___or__ : Fn) (g_Process___or__ : Fn) (g_q_mk_Net : Fn) : MS :=
  (tryS (tb__law_joined_1 g_Net___or__ g_Process___or__) [(ca_BadTerm, some 2, (su__law_joined_1 g_q_mk_Net))])
theorem d__law_joined {P : Program} {w : World} {K : PySem.W.Frag} {mg : Str → Option Value} {base : Heap} {g_Net___or__ : Fn} {g_Process___or__ : Fn} {g_q_mk_Net : Fn} {a : Addr} {cdv : Value} {A : Around} {outer : List PySem.Env} {s : Shared} {H : Hp} {E : XK} (n : En) (B : Blt K mg) (c_Net___or__ : CalM P w K mg base "Net" "__or__" P_Net___or__ 5 g_Net___or__) (c_Process___or__ : CalM P w K mg base "Process" "__or__" P_Process___or__ 5 g_Process___or__) (c_q_mk_Net : CalQ P w K mg base "Net" P_Net___init__ 3 g_q_mk_Net)
    (hr : Room 6 (A.deeper (PyProof.Rows.envOfC "_law_joined" (defScope s__law_joined) s.heap.objs.size a cdv))) :
    PSs (cxOf (L2.CX P w) P w K mg base N__law_joined "_law_joined" (defScope s__law_joined) a cdv A outer s H E) (defBody s__law_joined) (tS ⟨K, mg⟩ n (fun cls d _ H => E cls d H) (b__law_joined g_Net___or__ g_Process___or__ g_q_mk_Net)) := by
  unfold b__law_joined
  have tk := takes_of (X := (cxOf (L2.CX P w) P w K mg base N__law_joined "_law_joined" (defScope s__law_joined) a cdv A outer s H E)) (E := E) rfl rfl rfl rfl
  have pw := passes_of (X := (cxOf (L2.CX P w) P w K mg base N__law_joined "_law_joined" (defScope s__law_joined) a cdv A outer s H E)) rfl
  exact (dss_one (ds_try rfl rfl tk (fun W2 pn xe tk pw => (dss_one (ds_ret (de_tup (da_cons (de_binX (k := 5) tk rfl (cms_cons c_Process___or__ (by decide) (cms_cons c_Net___or__ (by decide) cms_nil)) (B.ox_Process_Net_BitOr _ _) hr (by decide) (de_v 0) (de_v 1)) (da_cons de_str da_nil)))))) (cs_as 2 B.ca_BadTerm rfl sc__law_joined.nd (fun a oe cls d pn hz hf => (dss_one (ds_ret (de_tup (da_cons (de_makeQ takes0 c_q_mk_Net (RoomQ.suite _ hr) (by decide) rfl (da_cons (de_new (dn_lst da_nil)) da_nil)) (da_cons (de_xf 2 B.xf_BadTerm hz hf) da_nil)))))) CsOk.nil)))
theorem k__law_joined {P : Program} {w : World} {K : PySem.W.Frag} {mg : Str → Option Value} {base : Heap} {g_Net___or__ : Fn} {g_Process___or__ : Fn} {g_q_mk_Net : Fn} {gg : Fn} (T : FT K mg "_law_joined" s__law_joined) (B : Blt K mg) (c_Net___or__ : CalM P w K mg base "Net" "__or__" P_Net___or__ 5 g_Net___or__) (c_Process___or__ : CalM P w K mg base "Process" "__or__" P_Process___or__ 5 g_Process___or__) (c_q_mk_Net : CalQ P w K mg base "Net" P_Net___init__ 3 g_q_mk_Net)
    (hf : ∀ ds ω r, gg ds ω = some r → ds.length = 2 ∧ ∃ rs, b__law_joined g_Net___or__ g_Process___or__ g_q_mk_Net (startE N__law_joined ds) ω = some rs ∧ retOf rs = some r) : Cal P w K mg base "_law_joined" P__law_joined 7 gg :=
  cal_of T (fun a fd F => F.binds (ps := P__law_joined) fun _ _ _ _ _ _ us hl => match us, hl with | [_, _], _ => rfl) fun a fd F => fn_x F sc__law_joined (fun ds ω r e => (hf ds ω r e).1) (fun cdv A outer s H E n hr => d__law_joined n B c_Net___or__ c_Process___or__ c_q_mk_Net hr) fun ds ω r e => (hf ds ω r e).2

/-! ### _law_times -/
abbrev s__law_times : Stmt := top 32
abbrev N__law_times : List Str := ["_law_many", "_law_one", "e"]
abbrev P__law_times : List Str := ["_law_many", "_law_one"]
theorem sc__law_times : FnScope N__law_times P__law_times (defScope s__law_times) := ⟨rfl, rfl, rfl, by decide +kernel, rfl, by decide +kernel, by decide +kernel⟩
def tb__law_times_1 (g_Net___rmul__ : Fn) (g_Process___rmul__ : Fn) : MS :=
  (retS ((consM (rmulO "__rmul__" [("Process", g_Process___rmul__), ("Net", g_Net___rmul__)] (vF 0) (vF 1)) (consM (M.pure (.str "")) (M.pure []))).bind mkTup))
def su__law_times_1 (g_q_mk_Net : Fn) : XP → MS :=
  (fun p => (retS ((consM ((consM (((M.pure []).bind lenOk).bind fun ds => M.pure (.lst ds)) (M.pure [])).bind (mkN "Net" g_q_mk_Net)) (consM (xfM 2 "BadTerm" "field" p) (M.pure []))).bind mkTup)))
def b__law_times (g_Net___rmul__ : Fn) (g_Process___rmul__ : Fn) (g_q_mk_Net : Fn) : MS :=
  (tryS (tb__law_times_1 g_Net___rmul__ g_Process___rmul__) [(ca_BadTerm, some 2, (su__law_times_1 g_q_mk_Net))])
theorem d__law_times {P : Program} {w : World} {K : PySem.W.Frag} {mg : Str → Option Value} {base : Heap} {g_Net___rmul__ : Fn} {g_Process___rmul__ : Fn} {g_q_mk_Net : Fn} {a : Addr} {cdv : Value} {A : Around} {outer : List PySem.Env} {s : Shared} {H : Hp} {E : XK} (n : En) (B : Blt K mg) (c_Net___rmul__ : CalM P w K mg base "Net" "__rmul__" P_Net___rmul__ 7 g_Net___rmul__) (c_Process___rmul__ : CalM P w K mg base "Process" "__rmul__" P_Process___rmul__ 7 g_Process___rmul__) (c_q_mk_Net : CalQ P w K mg base "Net" P_Net___init__ 3 g_q_mk_Net)
    (hr : Room 8 (A.deeper (PyProof.Rows.envOfC "_law_times" (defScope s__law_times) s.heap.objs.size a cdv))) :
    PSs (cxOf (L2.CX P w) P w K mg base N__law_times "_law_times" (defScope s__law_times) a cdv A outer s H E) (defBody s__law_times) (tS ⟨K, mg⟩ n (fun cls d _ H => E cls d H) (b__law_times g_Net___rmul__ g_Process___rmul__ g_q_mk_Net)) := by
  unfold b__law_times
  have tk := takes_of (X := (cxOf (L2.CX P w) P w K mg base N__law_times "_law_times" (defScope s__law_times) a cdv A outer s H E)) (E := E) rfl rfl rfl rfl
  have pw := passes_of (X := (cxOf (L2.CX P w) P w K mg base N__law_times "_law_times" (defScope s__law_times) a cdv A outer s H E)) rfl
  exact (dss_one (ds_try rfl rfl tk (fun W2 pn xe tk pw => (dss_one (ds_ret (de_tup (da_cons (de_rmulO (k := 7) tk rfl (cms_cons c_Process___rmul__ (by decide) (cms_cons c_Net___rmul__ (by decide) cms_nil)) (opr_cons B.or_Process (opr_cons B.or_Net opr_nil)) hr (by decide) (de_v 0) (de_v 1)) (da_cons de_str da_nil)))))) (cs_as 2 B.ca_BadTerm rfl sc__law_times.nd (fun a oe cls d pn hz hf => (dss_one (ds_ret (de_tup (da_cons (de_makeQ takes0 c_q_mk_Net (RoomQ.suite _ hr) (by decide) rfl (da_cons (de_new (dn_lst da_nil)) da_nil)) (da_cons (de_xf 2 B.xf_BadTerm hz hf) da_nil)))))) CsOk.nil)))
theorem k__law_times {P : Program} {w : World} {K : PySem.W.Frag} {mg : Str → Option Value} {base : Heap} {g_Net___rmul__ : Fn} {g_Process___rmul__ : Fn} {g_q_mk_Net : Fn} {gg : Fn} (T : FT K mg "_law_times" s__law_times) (B : Blt K mg) (c_Net___rmul__ : CalM P w K mg base "Net" "__rmul__" P_Net___rmul__ 7 g_Net___rmul__) (c_Process___rmul__ : CalM P w K mg base "Process" "__rmul__" P_Process___rmul__ 7 g_Process___rmul__) (c_q_mk_Net : CalQ P w K mg base "Net" P_Net___init__ 3 g_q_mk_Net)
    (hf : ∀ ds ω r, gg ds ω = some r → ds.length = 2 ∧ ∃ rs, b__law_times g_Net___rmul__ g_Process___rmul__ g_q_mk_Net (startE N__law_times ds) ω = some rs ∧ retOf rs = some r) : Cal P w K mg base "_law_times" P__law_times 9 gg :=
  cal_of T (fun a fd F => F.binds (ps := P__law_times) fun _ _ _ _ _ _ us hl => match us, hl with | [_, _], _ => rfl) fun a fd F => fn_x F sc__law_times (fun ds ω r e => (hf ds ω r e).1) (fun cdv A outer s H E n hr => d__law_times n B c_Net___rmul__ c_Process___rmul__ c_q_mk_Net hr) fun ds ω r e => (hf ds ω r e).2

/-! ### _law_listed -/
abbrev s__law_listed : Stmt := top 33
abbrev N__law_listed : List Str := ["_law_labels", "_law_passed", "_law_net", "e", "_law_label"]
abbrev P__law_listed : List Str := ["_law_labels"]
theorem sc__law_listed : FnScope N__law_listed P__law_listed (defScope s__law_listed) := ⟨rfl, rfl, rfl, by decide +kernel, rfl, by decide +kernel, by decide +kernel⟩
def cm__law_listed_1 (g__law_process : Fn) : M (List D) :=
  (lcM [4] ((vW 0).bind itemsOf) (nmT 4) (M.pure true) (calM g__law_process (consM (vF 4) (M.pure []))))
def tb__law_listed_1 (g_mk_Net : Fn) : MS :=
  (setS 2 ((consM (vF 1) (M.pure [])).bind (mkN "Net" g_mk_Net)))
def su__law_listed_1 (g_q_mk_Net : Fn) : XP → MS :=
  (fun p => (retS ((consM ((consM (((M.pure []).bind lenOk).bind fun ds => M.pure (.lst ds)) (M.pure [])).bind (mkN "Net" g_q_mk_Net)) (consM (xfM 3 "BadTerm" "field" p) (M.pure []))).bind mkTup)))
def b__law_listed (g__law_process : Fn) (g_mk_Net : Fn) (g_q_mk_Net : Fn) : MS :=
  (seqS (setN 1 (cm__law_listed_1 g__law_process))
  (seqS (tryS (tb__law_listed_1 g_mk_Net) [(ca_BadTerm, some 3, (su__law_listed_1 g_q_mk_Net))])
  (seqS (appO 1 (calM g__law_process (consM (M.pure (.int 7)) (M.pure []))))
  (retS ((consM (vF 2) (consM (M.pure (.str "")) (M.pure []))).bind mkTup)))))
theorem d__law_listed {P : Program} {w : World} {K : PySem.W.Frag} {mg : Str → Option Value} {base : Heap} {g__law_process : Fn} {g_mk_Net : Fn} {g_q_mk_Net : Fn} {a : Addr} {cdv : Value} {A : Around} {outer : List PySem.Env} {s : Shared} {H : Hp} {E : XK} (n : En) (B : Blt K mg) (c__law_process : Cal P w K mg base "_law_process" P__law_process 4 g__law_process) (c_mk_Net : CalG P w K mg base "Net" P_Net___init__ 3 g_mk_Net) (c_q_mk_Net : CalQ P w K mg base "Net" P_Net___init__ 3 g_q_mk_Net)
    (hr : Room 4 (A.deeper (PyProof.Rows.envOfC "_law_listed" (defScope s__law_listed) s.heap.objs.size a cdv))) :
    PSs (cxOf (L2.CX P w) P w K mg base N__law_listed "_law_listed" (defScope s__law_listed) a cdv A outer s H E) (defBody s__law_listed) (tS ⟨K, mg⟩ n (fun cls d _ H => E cls d H) (b__law_listed g__law_process g_mk_Net g_q_mk_Net)) := by
  unfold b__law_listed
  have tk := takes_of (X := (cxOf (L2.CX P w) P w K mg base N__law_listed "_law_listed" (defScope s__law_listed) a cdv A outer s H E)) (E := E) rfl rfl rfl rfl
  have pw := passes_of (X := (cxOf (L2.CX P w) P w K mg base N__law_listed "_law_listed" (defScope s__law_listed) a cdv A outer s H E)) rfl
  exact (dss_cons (ds_setLcN (i := 1) rfl sc__law_listed.nd rfl rfl (sw_true rfl rfl rfl (by decide +kernel)) (own := [("_law_label", 4)]) (di_own rfl (dw_v 0)) (blkOk_by (own := [("_law_label", 4)]) (N := N__law_listed) (sc := defScope s__law_listed) (by decide +kernel)) (by decide) (fun _ _ _ _ _ => (dg_name 4 sc__law_listed.nd)) (fun _ _ _ _ _ => dts_nil) (fun _ _ _ _ _ => (de_fn takes0 c__law_process hr (by decide) rfl (da_cons (de_v 4) da_nil))))
  (dss_cons (ds_try rfl rfl tk (fun W2 pn xe tk pw => (dss_one (ds_set (i := 2) sc__law_listed.nd (de_makeN tk c_mk_Net hr (by decide) rfl (da_cons (de_v 1) da_nil))))) (cs_as 3 B.ca_BadTerm rfl sc__law_listed.nd (fun a oe cls d pn hz hf => (dss_one (ds_ret (de_tup (da_cons (de_makeQ takes0 c_q_mk_Net (RoomQ.suite _ hr) (by decide) rfl (da_cons (de_new (dn_lst da_nil)) da_nil)) (da_cons (de_xf 3 B.xf_BadTerm hz hf) da_nil)))))) CsOk.nil))
  (dss_cons (ds_appO (i := 1) (de_fn tk c__law_process hr (by decide) rfl (da_cons de_int da_nil)))
  (dss_one (ds_ret (de_tup (da_cons (de_v 2) (da_cons de_str da_nil))))))))
theorem k__law_listed {P : Program} {w : World} {K : PySem.W.Frag} {mg : Str → Option Value} {base : Heap} {g__law_process : Fn} {g_mk_Net : Fn} {g_q_mk_Net : Fn} {gg : Fn} (T : FT K mg "_law_listed" s__law_listed) (B : Blt K mg) (c__law_process : Cal P w K mg base "_law_process" P__law_process 4 g__law_process) (c_mk_Net : CalG P w K mg base "Net" P_Net___init__ 3 g_mk_Net) (c_q_mk_Net : CalQ P w K mg base "Net" P_Net___init__ 3 g_q_mk_Net)
    (hf : ∀ ds ω r, gg ds ω = some r → ds.length = 1 ∧ ∃ rs, b__law_listed g__law_process g_mk_Net g_q_mk_Net (startE N__law_listed ds) ω = some rs ∧ retOf rs = some r) : Cal P w K mg base "_law_listed" P__law_listed 5 gg :=
  cal_of T (fun a fd F => F.binds (ps := P__law_listed) fun _ _ _ _ _ _ us hl => match us, hl with | [_], _ => rfl) fun a fd F => fn_x F sc__law_listed (fun ds ω r e => (hf ds ω r e).1) (fun cdv A outer s H E n hr => d__law_listed n B c__law_process c_mk_Net c_q_mk_Net hr) fun ds ω r e => (hf ds ω r e).2

/-! ### _law_extended -/
abbrev s__law_extended : Stmt := top 34
abbrev N__law_extended : List Str := ["_law_net", "_law_other", "e"]
abbrev P__law_extended : List Str := ["_law_net", "_law_other"]
theorem sc__law_extended : FnScope N__law_extended P__law_extended (defScope s__law_extended) := ⟨rfl, rfl, rfl, by decide +kernel, rfl, by decide +kernel, by decide +kernel⟩
def tb__law_extended_1 (g_Net___ior__ : Fn) : MS :=
  (augO 0 "__ior__" [("Net", g_Net___ior__)] (vF 1))
def su__law_extended_1  : XP → MS :=
  (fun p => (retS ((consM (vF 0) (consM (xfM 2 "BadTerm" "field" p) (M.pure []))).bind mkTup)))
def b__law_extended (g_Net___ior__ : Fn) : MS :=
  (seqS (tryS (tb__law_extended_1 g_Net___ior__) [(ca_BadTerm, some 2, su__law_extended_1)])
  (retS ((consM (vF 0) (consM (M.pure (.str "")) (M.pure []))).bind mkTup)))
theorem d__law_extended {P : Program} {w : World} {K : PySem.W.Frag} {mg : Str → Option Value} {base : Heap} {g_Net___ior__ : Fn} {a : Addr} {cdv : Value} {A : Around} {outer : List PySem.Env} {s : Shared} {H : Hp} {E : XK} (n : En) (B : Blt K mg) (c_Net___ior__ : CalM P w K mg base "Net" "__ior__" P_Net___ior__ 3 g_Net___ior__)
    (hr : Room 4 (A.deeper (PyProof.Rows.envOfC "_law_extended" (defScope s__law_extended) s.heap.objs.size a cdv))) :
    PSs (cxOf (L2.CX P w) P w K mg base N__law_extended "_law_extended" (defScope s__law_extended) a cdv A outer s H E) (defBody s__law_extended) (tS ⟨K, mg⟩ n (fun cls d _ H => E cls d H) (b__law_extended g_Net___ior__)) := by
  unfold b__law_extended
  have tk := takes_of (X := (cxOf (L2.CX P w) P w K mg base N__law_extended "_law_extended" (defScope s__law_extended) a cdv A outer s H E)) (E := E) rfl rfl rfl rfl
  have pw := passes_of (X := (cxOf (L2.CX P w) P w K mg base N__law_extended "_law_extended" (defScope s__law_extended) a cdv A outer s H E)) rfl
  exact (dss_cons (ds_try rfl rfl tk (fun W2 pn xe tk pw => (dss_one (ds_augO (k := 3) (i := 0) tk rfl (cms_cons c_Net___ior__ (by decide) cms_nil) (opf_cons B.o_Net_BitOr opf_nil) hr (by decide) sc__law_extended.nd (de_v 1)))) (cs_as 2 B.ca_BadTerm rfl sc__law_extended.nd (fun a oe cls d pn hz hf => (dss_one (ds_ret (de_tup (da_cons (de_v 0) (da_cons (de_xf 2 B.xf_BadTerm hz hf) da_nil)))))) CsOk.nil))
  (dss_one (ds_ret (de_tup (da_cons (de_v 0) (da_cons de_str da_nil))))))
theorem k__law_extended {P : Program} {w : World} {K : PySem.W.Frag} {mg : Str → Option Value} {base : Heap} {g_Net___ior__ : Fn} {gg : Fn} (T : FT K mg "_law_extended" s__law_extended) (B : Blt K mg) (c_Net___ior__ : CalM P w K mg base "Net" "__ior__" P_Net___ior__ 3 g_Net___ior__)
    (hf : ∀ ds ω r, gg ds ω = some r → ds.length = 2 ∧ ∃ rs, b__law_extended g_Net___ior__ (startE N__law_extended ds) ω = some rs ∧ retOf rs = some r) : Cal P w K mg base "_law_extended" P__law_extended 5 gg :=
  cal_of T (fun a fd F => F.binds (ps := P__law_extended) fun _ _ _ _ _ _ us hl => match us, hl with | [_, _], _ => rfl) fun a fd F => fn_x F sc__law_extended (fun ds ω r e => (hf ds ω r e).1) (fun cdv A outer s H E n hr => d__law_extended n B c_Net___ior__ hr) fun ds ω r e => (hf ds ω r e).2

/-! ### _law_step -/
abbrev s__law_step : Stmt := top 35
abbrev N__law_step : List Str := ["_law_row_here", "_law_at", "_law_nets", "_law_labels", "_law_k", "_law_way", "_law_one", "_law_two", "_law_net", "_law_field", "_law_due", "_law_many", "_law_j"]
abbrev P__law_step : List Str := ["_law_row_here", "_law_at", "_law_nets", "_law_labels", "_law_k"]
theorem sc__law_step : FnScope N__law_step P__law_step (defScope s__law_step) := ⟨rfl, rfl, rfl, by decide +kernel, rfl, by decide +kernel, by decide +kernel⟩
def cm__law_step_1  : M (List D) :=
  (lcM [12] ((bo modD (uo intD (bo ixD (vW 0) (bo addD (vW 1) (M.pure (.int 2))))) (M.pure (.int 9))).bind rng1) (nmT 12) (M.pure true) (bo addD (bo mulD (M.pure (.int 100)) (vW 4)) (vW 12)))
def b__law_step (g__law_extended : Fn) (g__law_is : Fn) (g__law_joined : Fn) (g__law_listed : Fn) (g__law_times : Fn) : MS :=
  (seqS (setS 5 (bo modD (uo intD (bo ixD (vW 0) (vW 1))) (M.pure (.int 5))))
  (seqS (setS 6 (bo modD (uo intD (bo ixD (vW 0) (bo addD (vW 1) (M.pure (.int 1))))) (uo lenD (vW 2))))
  (seqS (setS 7 (bo modD (uo intD (bo ixD (vW 0) (bo addD (vW 1) (M.pure (.int 2))))) (uo lenD (vW 2))))
  (seqS (ifS (andM (tst (bo eqD (vW 5) (M.pure (.int 4)))) (truM (bo ixD (bo ixD (vW 2) (vW 6)) (M.pure (.int 1))))) (seqS (setS 7 (ifM (tst (bo eqD (bo modD (bo fdivD (bo ixD (vW 0) (bo addD (vW 1) (M.pure (.int 2)))) (M.pure (.int 20))) (M.pure (.int 3))) (M.pure (.int 0)))) (vF 6) (vF 7)))
  (seqS (asgS (calM g__law_extended (consM (bo ixD (bo ixD (vW 2) (vW 6)) (M.pure (.int 0))) (consM (bo ixD (bo ixD (vW 2) (vW 7)) (M.pure (.int 0))) (M.pure [])))) (tupT 2 (consT (nmT 8) (consT (nmT 9) nilT))))
  (seqS (ifS (tst (bo gtD (bo addD (uo lenD (bo ixD (vW 3) (vW 6))) (uo lenD (bo ixD (vW 3) (vW 7)))) (M.pure (.int 6)))) (retS (andV (bo eqD (vW 9) (M.pure (.str "machines"))) (calM g__law_is (consM (bo ixD (bo ixD (vW 2) (vW 6)) (M.pure (.int 0))) (consM (bo ixD (vW 3) (vW 6)) (M.pure [])))))) (fun ρ ω => some (.nx ρ ω)))
  (seqS (putLS (vF 3) (vF 6) (bo addD (bo ixD (vW 3) (vW 6)) (bo ixD (vW 3) (vW 7))))
  (retS (andV (bo eqD (vW 9) (M.pure (.str ""))) (andV (calM g__law_is (consM (vF 8) (consM (bo ixD (vW 3) (vW 6)) (M.pure [])))) (calM g__law_is (consM (bo ixD (bo ixD (vW 2) (vW 6)) (M.pure (.int 0))) (consM (bo ixD (vW 3) (vW 6)) (M.pure []))))))))))) (fun ρ ω => some (.nx ρ ω)))
  (seqS (ifS (orM (tst (bo ltD (vW 5) (M.pure (.int 2)))) (tst (bo eqD (vW 5) (M.pure (.int 4))))) (seqS (setS 10 (bo addD (bo ixD (vW 3) (vW 6)) (bo ixD (vW 3) (vW 7))))
  (asgS (calM g__law_joined (consM (bo ixD (bo ixD (vW 2) (vW 6)) (M.pure (.int 0))) (consM (bo ixD (bo ixD (vW 2) (vW 7)) (M.pure (.int 0))) (M.pure [])))) (tupT 2 (consT (nmT 8) (consT (nmT 9) nilT))))) (ifS (tst (bo eqD (vW 5) (M.pure (.int 2)))) (seqS (setS 11 (bo modD (bo fdivD (bo ixD (vW 0) (bo addD (vW 1) (M.pure (.int 2)))) (M.pure (.int 20))) (M.pure (.int 6))))
  (seqS (ifS (tst (bo eqD (vW 11) (M.pure (.int 5)))) (setS 11 (bo powD (M.pure (.int 10)) (M.pure (.int 40)))) (fun ρ ω => some (.nx ρ ω)))
  (seqS (setS 10 (bo mulLD (((consM (M.pure (.int 0)) (M.pure [])).bind lenOk).bind fun ds => M.pure (.lst ds)) (M.pure (.int 7))))
  (seqS (ifS (orM (tst (bo ltD (vW 11) (M.pure (.int 5)))) (tst (bo eqD (bo ixD (vW 3) (vW 6)) (((M.pure []).bind lenOk).bind fun ds => M.pure (.lst ds))))) (setS 10 (bo mulLD (bo ixD (vW 3) (vW 6)) (uo intD (bo modD (uo intD (vW 11)) (M.pure (.int 5)))))) (fun ρ ω => some (.nx ρ ω)))
  (asgS (calM g__law_times (consM (vF 11) (consM (bo ixD (bo ixD (vW 2) (vW 6)) (M.pure (.int 0))) (M.pure [])))) (tupT 2 (consT (nmT 8) (consT (nmT 9) nilT)))))))) (seqS (setS 10 (cm__law_step_1.bind fun ds => M.pure (.lst ds)))
  (asgS (calM g__law_listed (consM (vF 10) (M.pure []))) (tupT 2 (consT (nmT 8) (consT (nmT 9) nilT)))))))
  (seqS (ifS (tst (bo gtD (uo lenD (vW 10)) (M.pure (.int 6)))) (retS (bo eqD (vW 9) (M.pure (.str "machines")))) (fun ρ ω => some (.nx ρ ω)))
  (seqS (appO 2 ((consM (vF 8) (consM (M.pure (.bl true)) (M.pure []))).bind mkTup))
  (seqS (appO 3 (vF 10))
  (retS (andV (bo eqD (vW 9) (M.pure (.str ""))) (calM g__law_is (consM (vF 8) (consM (vF 10) (M.pure []))))))))))))))
theorem d__law_step {P : Program} {w : World} {K : PySem.W.Frag} {mg : Str → Option Value} {base : Heap} {g__law_extended : Fn} {g__law_is : Fn} {g__law_joined : Fn} {g__law_listed : Fn} {g__law_times : Fn} {a : Addr} {cdv : Value} {A : Around} {outer : List PySem.Env} {s : Shared} {H : Hp} {E : XK} (n : En) (B : Blt K mg) (c__law_extended : Cal P w K mg base "_law_extended" P__law_extended 5 g__law_extended) (c__law_is : Cal P w K mg base "_law_is" P__law_is 3 g__law_is) (c__law_joined : Cal P w K mg base "_law_joined" P__law_joined 7 g__law_joined) (c__law_listed : Cal P w K mg base "_law_listed" P__law_listed 5 g__law_listed) (c__law_times : Cal P w K mg base "_law_times" P__law_times 9 g__law_times)
    (hr : Room 9 (A.deeper (PyProof.Rows.envOfC "_law_step" (defScope s__law_step) s.heap.objs.size a cdv))) :
    PSs (cxOf (L2.CX P w) P w K mg base N__law_step "_law_step" (defScope s__law_step) a cdv A outer s H E) (defBody s__law_step) (tS ⟨K, mg⟩ n (fun cls d _ H => E cls d H) (b__law_step g__law_extended g__law_is g__law_joined g__law_listed g__law_times)) := by
  unfold b__law_step
  have tk := takes_of (X := (cxOf (L2.CX P w) P w K mg base N__law_step "_law_step" (defScope s__law_step) a cdv A outer s H E)) (E := E) rfl rfl rfl rfl
  have pw := passes_of (X := (cxOf (L2.CX P w) P w K mg base N__law_step "_law_step" (defScope s__law_step) a cdv A outer s H E)) rfl
  exact (dss_cons (ds_set (i := 5) sc__law_step.nd (de_mod (dw (de_toInt rfl B.b_int (dw (de_item rfl (dw_v 0) (dw_v 1))))) (dw de_int)))
  (dss_cons (ds_set (i := 6) sc__law_step.nd (de_mod (dw (de_toInt rfl B.b_int (dw (de_item rfl (dw_v 0) (dw (de_add rfl (dw_v 1) (dw de_int))))))) (dw (de_len rfl rfl B.b_len (dw_v 2)))))
  (dss_cons (ds_set (i := 7) sc__law_step.nd (de_mod (dw (de_toInt rfl B.b_int (dw (de_item rfl (dw_v 0) (dw (de_add rfl (dw_v 1) (dw de_int))))))) (dw (de_len rfl rfl B.b_len (dw_v 2)))))
  (dss_cons (ds_if (dt_w (dw_and (dt_eq rfl hr (dw_v 5) (dw de_int)) (dw_and1 (dt_truth rfl (dw (de_item rfl (dw (de_item rfl (dw_v 2) (dw_v 6))) (dw de_int))))))) (dss_cons (ds_set (i := 7) sc__law_step.nd (de_ifExp (dt_eq rfl hr (dw (de_mod (dw (de_fdiv (dw (de_item rfl (dw_v 0) (dw (de_add rfl (dw_v 1) (dw de_int))))) (dw de_int))) (dw de_int))) (dw de_int)) (de_v 6) (de_v 7)))
  (dss_cons (ds_asg (de_fn tk c__law_extended hr (by decide) rfl (da_cons (de_item rfl (dw (de_item rfl (dw_v 2) (dw_v 6))) (dw de_int)) (da_cons (de_item rfl (dw (de_item rfl (dw_v 2) (dw_v 7))) (dw de_int)) da_nil))) (dg_tup rfl rfl (dgs_cons (dg_name 8 sc__law_step.nd) (dgs_cons (dg_name 9 sc__law_step.nd) dgs_nil))))
  (dss_cons (ds_if (dt_gt (dw (de_add rfl (dw (de_len rfl rfl B.b_len (dw (de_item rfl (dw_v 3) (dw_v 6))))) (dw (de_len rfl rfl B.b_len (dw (de_item rfl (dw_v 3) (dw_v 7))))))) (dw de_int)) (dss_one (ds_ret (de_and (de_eq rfl hr (dw_v 9) (dw de_str)) (de_one (de_fn tk c__law_is hr (by decide) rfl (da_cons (de_item rfl (dw (de_item rfl (dw_v 2) (dw_v 6))) (dw de_int)) (da_cons (de_item rfl (dw_v 3) (dw_v 6)) da_nil))))))) dss_nil)
  (dss_cons (ds_putLS (de_add rfl (dw (de_item rfl (dw_v 3) (dw_v 6))) (dw (de_item rfl (dw_v 3) (dw_v 7)))) (de_v 3) (de_v 6))
  (dss_one (ds_ret (de_and (de_eq rfl hr (dw_v 9) (dw de_str)) (de_and (de_fn tk c__law_is hr (by decide) rfl (da_cons (de_v 8) (da_cons (de_item rfl (dw_v 3) (dw_v 6)) da_nil))) (de_one (de_fn tk c__law_is hr (by decide) rfl (da_cons (de_item rfl (dw (de_item rfl (dw_v 2) (dw_v 6))) (dw de_int)) (da_cons (de_item rfl (dw_v 3) (dw_v 6)) da_nil)))))))))))) dss_nil)
  (dss_cons (ds_if (dt_w (dw_or (dt_lt (dw_v 5) (dw de_int)) (dw_or1 (dt_eq rfl hr (dw_v 5) (dw de_int))))) (dss_cons (ds_set (i := 10) sc__law_step.nd (de_add rfl (dw (de_item rfl (dw_v 3) (dw_v 6))) (dw (de_item rfl (dw_v 3) (dw_v 7)))))
  (dss_one (ds_asg (de_fn tk c__law_joined hr (by decide) rfl (da_cons (de_item rfl (dw (de_item rfl (dw_v 2) (dw_v 6))) (dw de_int)) (da_cons (de_item rfl (dw (de_item rfl (dw_v 2) (dw_v 7))) (dw de_int)) da_nil))) (dg_tup rfl rfl (dgs_cons (dg_name 8 sc__law_step.nd) (dgs_cons (dg_name 9 sc__law_step.nd) dgs_nil)))))) (dss_one (ds_if (dt_eq rfl hr (dw_v 5) (dw de_int)) (dss_cons (ds_set (i := 11) sc__law_step.nd (de_mod (dw (de_fdiv (dw (de_item rfl (dw_v 0) (dw (de_add rfl (dw_v 1) (dw de_int))))) (dw de_int))) (dw de_int)))
  (dss_cons (ds_if (dt_eq rfl hr (dw_v 11) (dw de_int)) (dss_one (ds_set (i := 11) sc__law_step.nd (de_pow (dw de_int) (dw de_int)))) dss_nil)
  (dss_cons (ds_set (i := 10) sc__law_step.nd (de_mulL (dw (de_new (dn_lst (da_cons de_int da_nil)))) (dw de_int)))
  (dss_cons (ds_if (dt_w (dw_or (dt_lt (dw_v 11) (dw de_int)) (dw_or1 (dt_eq rfl hr (dw (de_item rfl (dw_v 3) (dw_v 6))) (dw (de_new (dn_lst da_nil))))))) (dss_one (ds_set (i := 10) sc__law_step.nd (de_mulL (dw (de_item rfl (dw_v 3) (dw_v 6))) (dw (de_toInt rfl B.b_int (dw (de_mod (dw (de_toInt rfl B.b_int (dw_v 11))) (dw de_int)))))))) dss_nil)
  (dss_one (ds_asg (de_fn tk c__law_times hr (by decide) rfl (da_cons (de_v 11) (da_cons (de_item rfl (dw (de_item rfl (dw_v 2) (dw_v 6))) (dw de_int)) da_nil))) (dg_tup rfl rfl (dgs_cons (dg_name 8 sc__law_step.nd) (dgs_cons (dg_name 9 sc__law_step.nd) dgs_nil))))))))) (dss_cons (ds_setLc (i := 10) rfl sc__law_step.nd rfl rfl (sw_true rfl rfl rfl (by decide +kernel)) (own := [("_law_j", 12)]) (di_s (di_range1 rfl B.b_range (de_mod (dw (de_toInt rfl B.b_int (dw (de_item rfl (dw_v 0) (dw (de_add rfl (dw_v 1) (dw de_int))))))) (dw de_int)))) (blkOk_by (own := [("_law_j", 12)]) (N := N__law_step) (sc := defScope s__law_step) (by decide +kernel)) (by decide) (fun _ _ _ _ _ => (dg_name 12 sc__law_step.nd)) (fun _ _ _ _ _ => dts_nil) (fun _ _ _ _ _ => (de_add rfl (dw (de_mul (dw de_int) (dw_v 4))) (dw_v 12))))
  (dss_one (ds_asg (de_fn tk c__law_listed hr (by decide) rfl (da_cons (de_v 10) da_nil)) (dg_tup rfl rfl (dgs_cons (dg_name 8 sc__law_step.nd) (dgs_cons (dg_name 9 sc__law_step.nd) dgs_nil)))))))))
  (dss_cons (ds_if (dt_gt (dw (de_len rfl rfl B.b_len (dw_v 10))) (dw de_int)) (dss_one (ds_ret (de_eq rfl hr (dw_v 9) (dw de_str)))) dss_nil)
  (dss_cons (ds_appO (i := 2) (de_tup (da_cons (de_v 8) (da_cons de_bl da_nil))))
  (dss_cons (ds_appO (i := 3) (de_v 10))
  (dss_one (ds_ret (de_and (de_eq rfl hr (dw_v 9) (dw de_str)) (de_one (de_fn tk c__law_is hr (by decide) rfl (da_cons (de_v 8) (da_cons (de_v 10) da_nil)))))))))))))))
theorem k__law_step {P : Program} {w : World} {K : PySem.W.Frag} {mg : Str → Option Value} {base : Heap} {g__law_extended : Fn} {g__law_is : Fn} {g__law_joined : Fn} {g__law_listed : Fn} {g__law_times : Fn} {gg : Fn} (T : FT K mg "_law_step" s__law_step) (B : Blt K mg) (c__law_extended : Cal P w K mg base "_law_extended" P__law_extended 5 g__law_extended) (c__law_is : Cal P w K mg base "_law_is" P__law_is 3 g__law_is) (c__law_joined : Cal P w K mg base "_law_joined" P__law_joined 7 g__law_joined) (c__law_listed : Cal P w K mg base "_law_listed" P__law_listed 5 g__law_listed) (c__law_times : Cal P w K mg base "_law_times" P__law_times 9 g__law_times)
    (hf : ∀ ds ω r, gg ds ω = some r → ds.length = 5 ∧ ∃ rs, b__law_step g__law_extended g__law_is g__law_joined g__law_listed g__law_times (startE N__law_step ds) ω = some rs ∧ retOf rs = some r) : Cal P w K mg base "_law_step" P__law_step 10 gg :=
  cal_of T (fun a fd F => F.binds (ps := P__law_step) fun _ _ _ _ _ _ us hl => match us, hl with | [_, _, _, _, _], _ => rfl) fun a fd F => fn_x F sc__law_step (fun ds ω r e => (hf ds ω r e).1) (fun cdv A outer s H E n hr => d__law_step n B c__law_extended c__law_is c__law_joined c__law_listed c__law_times hr) fun ds ω r e => (hf ds ω r e).2

/-! ### law -/
abbrev s_law : Stmt := top 36
abbrev N_law : List Str := ["_law_script", "_law_nets", "_law_labels", "_law_row_here", "_law_k", "_law_held", "_law_j"]
abbrev P_law : List Str := ["_law_script"]
theorem sc_law : FnScope N_law P_law (defScope s_law) := ⟨rfl, rfl, rfl, by decide +kernel, rfl, by decide +kernel, by decide +kernel⟩
def lb_law_1 (g__law_step : Fn) : MS :=
  (ifS (notM (truM (calM g__law_step (consM (vF 3) (consM (bo mulD (M.pure (.int 3)) (vW 4)) (consM (vF 1) (consM (vF 2) (consM (vF 4) (M.pure []))))))))) (retS (M.pure (.bl false))) (fun ρ ω => some (.nx ρ ω)))
def cm_law_1  : M (List D) :=
  (lcM [4] ((uo lenD (vW 1)).bind rng1) (nmT 4) (truM (bo ixD (bo ixD (vW 1) (vW 4)) (M.pure (.int 1)))) (vF 4))
def lb_law_2 (g_Net___eq__ : Fn) : MS :=
  (ifS (tst (bo neD (cmpO "__eq__" [("Net", g_Net___eq__)] (bo ixD (bo ixD (vW 1) (vW 4)) (M.pure (.int 0))) (bo ixD (bo ixD (vW 1) (vW 6)) (M.pure (.int 0)))) (bo eqD (bo ixD (vW 2) (vW 4)) (bo ixD (vW 2) (vW 6))))) (retS (M.pure (.bl false))) (fun ρ ω => some (.nx ρ ω)))
def lb_law_3 (g_Net___eq__ : Fn) (g__law_is : Fn) : MS :=
  (seqS (ifS (notM (truM (calM g__law_is (consM (bo ixD (bo ixD (vW 1) (vW 4)) (M.pure (.int 0))) (consM (bo ixD (vW 2) (vW 4)) (M.pure [])))))) (retS (M.pure (.bl false))) (fun ρ ω => some (.nx ρ ω)))
  (forS ((vF 5).bind itemsOf) (nmT 6) (lb_law_2 g_Net___eq__)))
def b_law (g_Net___eq__ : Fn) (g__law_cell_at : Fn) (g__law_is : Fn) (g__law_process : Fn) (g__law_row : Fn) (g__law_step : Fn) (g_mk_Net : Fn) : MS :=
  (seqS (setN 1 ((consM ((consM ((consM (((M.pure []).bind lenOk).bind fun ds => M.pure (.lst ds)) (M.pure [])).bind (mkN "Net" g_mk_Net)) (consM (M.pure (.bl true)) (M.pure []))).bind mkTup) (consM ((consM ((consM (((consM (calM g__law_process (consM (M.pure (.int 1)) (M.pure []))) (consM (calM g__law_process (consM (M.pure (.int 2)) (M.pure []))) (M.pure []))).bind lenOk).bind fun ds => M.pure (.lst ds)) (M.pure [])).bind (mkN "Net" g_mk_Net)) (consM (M.pure (.bl true)) (M.pure []))).bind mkTup) (consM ((consM (calM g__law_process (consM (M.pure (.int 3)) (M.pure []))) (consM (M.pure (.bl false)) (M.pure []))).bind mkTup) (M.pure [])))).bind lenOk))
  (seqS (appO 1 ((consM (calM g__law_process (consM (M.pure (.int 4)) (M.pure []))) (consM (M.pure (.bl false)) (M.pure []))).bind mkTup))
  (seqS (setN 2 ((consM (((M.pure []).bind lenOk).bind fun ds => M.pure (.lst ds)) (consM (((consM (M.pure (.int 1)) (consM (M.pure (.int 2)) (M.pure []))).bind lenOk).bind fun ds => M.pure (.lst ds)) (consM (((consM (M.pure (.int 3)) (M.pure [])).bind lenOk).bind fun ds => M.pure (.lst ds)) (consM (((consM (M.pure (.int 4)) (M.pure [])).bind lenOk).bind fun ds => M.pure (.lst ds)) (M.pure []))))).bind lenOk))
  (seqS (setS 3 (calM g__law_row (consM (calM g__law_cell_at (consM (vF 0) (consM (M.pure (.int 0)) (M.pure [])))) (consM (M.pure (.int 60)) (M.pure [])))))
  (seqS (forS ((M.pure (.int 20)).bind rng1) (nmT 4) (lb_law_1 g__law_step))
  (seqS (setS 5 (cm_law_1.bind fun ds => M.pure (.lst ds)))
  (seqS (forS ((vF 5).bind itemsOf) (nmT 4) (lb_law_3 g_Net___eq__ g__law_is))
  (retS (M.pure (.bl true))))))))))
theorem d_law {P : Program} {w : World} {K : PySem.W.Frag} {mg : Str → Option Value} {base : Heap} {g_Net___eq__ : Fn} {g__law_cell_at : Fn} {g__law_is : Fn} {g__law_process : Fn} {g__law_row : Fn} {g__law_step : Fn} {g_mk_Net : Fn} {a : Addr} {cdv : Value} {A : Around} {outer : List PySem.Env} {s : Shared} {H : Hp} {E : XK} (n : En) (B : Blt K mg) (c_Net___eq__ : CalM P w K mg base "Net" "__eq__" P_Net___eq__ 45 g_Net___eq__) (c__law_cell_at : Cal P w K mg base "_law_cell_at" P__law_cell_at 1 g__law_cell_at) (c__law_is : Cal P w K mg base "_law_is" P__law_is 3 g__law_is) (c__law_process : Cal P w K mg base "_law_process" P__law_process 4 g__law_process) (c__law_row : Cal P w K mg base "_law_row" P__law_row 2 g__law_row) (c__law_step : Cal P w K mg base "_law_step" P__law_step 10 g__law_step) (c_mk_Net : CalG P w K mg base "Net" P_Net___init__ 3 g_mk_Net)
    (hr : Room 46 (A.deeper (PyProof.Rows.envOfC "law" (defScope s_law) s.heap.objs.size a cdv))) :
    PSs (cxOf CX0 P w K mg base N_law "law" (defScope s_law) a cdv A outer s H E).nox (defBody s_law) (tS ⟨K, mg⟩ n W0 (b_law g_Net___eq__ g__law_cell_at g__law_is g__law_process g__law_row g__law_step g_mk_Net)) := by
  unfold b_law
  have tk := (takes0 : Takes (cxOf CX0 P w K mg base N_law "law" (defScope s_law) a cdv A outer s H E).nox W0)
  have pw := (PassesOwn.never : PassesOwn (model P w) (cxOf CX0 P w K mg base N_law "law" (defScope s_law) a cdv A outer s H E).nox.A (cxOf CX0 P w K mg base N_law "law" (defScope s_law) a cdv A outer s H E).nox.env (fun _ _ => False))
  exact (dss_cons (ds_setN (i := 1) sc_law.nd (dn_lst (da_cons (de_tup (da_cons (de_makeN tk c_mk_Net hr (by decide) rfl (da_cons (de_new (dn_lst da_nil)) da_nil)) (da_cons de_bl da_nil))) (da_cons (de_tup (da_cons (de_makeN tk c_mk_Net hr (by decide) rfl (da_cons (de_new (dn_lst (da_cons (de_fn tk c__law_process hr (by decide) rfl (da_cons de_int da_nil)) (da_cons (de_fn tk c__law_process hr (by decide) rfl (da_cons de_int da_nil)) da_nil)))) da_nil)) (da_cons de_bl da_nil))) (da_cons (de_tup (da_cons (de_fn tk c__law_process hr (by decide) rfl (da_cons de_int da_nil)) (da_cons de_bl da_nil))) da_nil)))))
  (dss_cons (ds_appO (i := 1) (de_tup (da_cons (de_fn tk c__law_process hr (by decide) rfl (da_cons de_int da_nil)) (da_cons de_bl da_nil))))
  (dss_cons (ds_setN (i := 2) sc_law.nd (dn_lst (da_cons (de_new (dn_lst da_nil)) (da_cons (de_new (dn_lst (da_cons de_int (da_cons de_int da_nil)))) (da_cons (de_new (dn_lst (da_cons de_int da_nil))) (da_cons (de_new (dn_lst (da_cons de_int da_nil))) da_nil))))))
  (dss_cons (ds_set (i := 3) sc_law.nd (de_fn tk c__law_row hr (by decide) rfl (da_cons (de_fn tk c__law_cell_at hr (by decide) rfl (da_cons (de_v 0) (da_cons de_int da_nil))) (da_cons de_int da_nil))))
  (dss_cons (ds_for pw rfl (di_range1 rfl B.b_range de_int) (dg_name 4 sc_law.nd) (dss_one (ds_if (dt_not (dt_truth rfl (dw (de_fn tk c__law_step hr (by decide) rfl (da_cons (de_v 3) (da_cons (de_mul (dw de_int) (dw_v 4)) (da_cons (de_v 1) (da_cons (de_v 2) (da_cons (de_v 4) da_nil))))))))) (dss_one (ds_ret de_bl)) dss_nil)))
  (dss_cons (ds_setLc (i := 5) rfl sc_law.nd rfl rfl (sw_true rfl rfl rfl (by decide +kernel)) (own := [("_law_k", 4)]) (di_s (di_range1 rfl B.b_range (de_len rfl rfl B.b_len (dw_v 1)))) (blkOk_by (own := [("_law_k", 4)]) (N := N_law) (sc := defScope s_law) (by decide +kernel)) (by decide) (fun _ _ _ _ _ => (dg_name 4 sc_law.nd)) (fun _ _ _ _ _ => (dts_one (dt_truth rfl (dw (de_item rfl (dw (de_item rfl (dw_v 1) (dw_v 4))) (dw de_int)))))) (fun _ _ _ _ _ => (de_v 4)))
  (dss_cons (ds_for pw rfl (di_data rfl (de_v 5)) (dg_name 4 sc_law.nd) (dss_cons (ds_if (dt_not (dt_truth rfl (dw (de_fn tk c__law_is hr (by decide) rfl (da_cons (de_item rfl (dw (de_item rfl (dw_v 1) (dw_v 4))) (dw de_int)) (da_cons (de_item rfl (dw_v 2) (dw_v 4)) da_nil)))))) (dss_one (ds_ret de_bl)) dss_nil)
  (dss_one (ds_for pw rfl (di_data rfl (de_v 5)) (dg_name 6 sc_law.nd) (dss_one (ds_if (dt_ne rfl hr (dw (de_eqO (k := 45) tk (cms_cons c_Net___eq__ (by decide) cms_nil) hr (by decide) (de_item rfl (dw (de_item rfl (dw_v 1) (dw_v 4))) (dw de_int)) (de_item rfl (dw (de_item rfl (dw_v 1) (dw_v 6))) (dw de_int)))) (dw (de_eq rfl hr (dw (de_item rfl (dw_v 2) (dw_v 4))) (dw (de_item rfl (dw_v 2) (dw_v 6)))))) (dss_one (ds_ret de_bl)) dss_nil))))))
  (dss_one (ds_ret de_bl)))))))))

/-! ### the text -/
structure Txt (K : PySem.W.Frag) (mg : Str → Option Value) : Prop where
  B : Blt K mg
  t_is_name : FT K mg "is_name" s_is_name
  t_is_number : FT K mg "is_number" s_is_number
  t_is_operand : FT K mg "is_operand" s_is_operand
  t_mk_Process : FI K mg "Process" "Process.__init__" s_Process___init__
  t_Process_stop : FS K mg "Process" "stop" "Process.stop" s_Process_stop
  t_Process_call : FS K mg "Process" "call" "Process.call" s_Process_call
  t_Process___eq__ : FM K mg "Process" "__eq__" "Process.__eq__" s_Process___eq__
  t_mk_Net : FI K mg "Net" "Net.__init__" s_Net___init__
  t_rows_of : FT K mg "rows_of" s_rows_of
  t_Process___or__ : FM K mg "Process" "__or__" "Process.__or__" s_Process___or__
  t_Net___mul__ : FM K mg "Net" "__mul__" "Net.__mul__" s_Net___mul__
  t_Process___rmul__ : FM K mg "Process" "__rmul__" "Process.__rmul__" s_Process___rmul__
  t_Net___len__ : FM K mg "Net" "__len__" "Net.__len__" s_Net___len__
  t_Net___getitem__ : FM K mg "Net" "__getitem__" "Net.__getitem__" s_Net___getitem__
  t_Net___eq__ : FM K mg "Net" "__eq__" "Net.__eq__" s_Net___eq__
  t_Net___or__ : FM K mg "Net" "__or__" "Net.__or__" s_Net___or__
  t_Net___ior__ : FM K mg "Net" "__ior__" "Net.__ior__" s_Net___ior__
  t_Net___rmul__ : FM K mg "Net" "__rmul__" "Net.__rmul__" s_Net___rmul__
  t__law_cell_at : FT K mg "_law_cell_at" s__law_cell_at
  t__law_mixed : FT K mg "_law_mixed" s__law_mixed
  t__law_row : FT K mg "_law_row" s__law_row
  t__law_process : FT K mg "_law_process" s__law_process
  t__law_is : FT K mg "_law_is" s__law_is
  t__law_joined : FT K mg "_law_joined" s__law_joined
  t__law_times : FT K mg "_law_times" s__law_times
  t__law_listed : FT K mg "_law_listed" s__law_listed
  t__law_extended : FT K mg "_law_extended" s__law_extended
  t__law_step : FT K mg "_law_step" s__law_step
  t_law : FT K mg "law" s_law
  t_x_BadTerm : FX K mg "BadTerm" "field" "BadTerm.__init__" s_x_BadTerm
theorem txt_mk {K : PySem.W.Frag} {h : Heap} {mg : Str → Option Value} (X : K.In h) (G : h.Ns mainGlobals mg)
    {C_Process : Addr}
    {C_Net : Addr}
    {fo_Net_BitOr ro_Net_BitOr : Option Value}
    {xa_Process_Net_BitOr xb_Process_Net_BitOr : Addr}
    {go_Net_Mult gr_Net_Mult : Option Value} {gf_Net_Mult : Addr}
    {rm_Net : Addr}
    {at_RESERVED : Addr} {tk_RESERVED_0 tk_RESERVED_1 tk_RESERVED_2 tk_RESERVED_3 tk_RESERVED_4 tk_RESERVED_5 tk_RESERVED_6 tk_RESERVED_7 tk_RESERVED_8 tk_RESERVED_9 tk_RESERVED_10 : Nat} {od_RESERVED : Option Addr} {nn_RESERVED : Nat} {sl_RESERVED : Array (Option Value)}
    {tk_DIGITS : Nat}
    {tk_LETTERS : Nat}
    {tk_MOST_MACHINES : Nat}
    {tk_MOST_OPERANDS : Nat}
    {tk_MOST_SIGNS : Nat}
    {tk_VALUE_LIMIT : Nat}
    {f_is_name : Addr} {od_is_name an_is_name : Option Addr} {sl_is_name : Array (Option Value)} {oc_is_name kV_is_name dc_is_name pm_is_name cd_is_name ct_is_name : Value}
    {f_is_number : Addr} {od_is_number an_is_number : Option Addr} {sl_is_number : Array (Option Value)} {oc_is_number kV_is_number dc_is_number pm_is_number cd_is_number ct_is_number : Value}
    {f_is_operand : Addr} {od_is_operand an_is_operand : Option Addr} {sl_is_operand : Array (Option Value)} {oc_is_operand kV_is_operand dc_is_operand pm_is_operand cd_is_operand ct_is_operand : Value}
    {f_Process___init__ : Addr} {od_Process___init__ an_Process___init__ : Option Addr} {sl_Process___init__ : Array (Option Value)} {oc_Process___init__ kV_Process___init__ dc_Process___init__ pm_Process___init__ cd_Process___init__ ct_Process___init__ : Value}
    {f_Process_stop : Addr} {od_Process_stop an_Process_stop : Option Addr} {sl_Process_stop : Array (Option Value)} {oc_Process_stop kV_Process_stop dc_Process_stop pm_Process_stop cd_Process_stop ct_Process_stop : Value}
    {sp_Process_stop : Addr} {sr_Process_stop : List Value}
    {f_Process_call : Addr} {od_Process_call an_Process_call : Option Addr} {sl_Process_call : Array (Option Value)} {oc_Process_call kV_Process_call dc_Process_call pm_Process_call cd_Process_call ct_Process_call : Value}
    {sp_Process_call : Addr} {sr_Process_call : List Value}
    {f_Process___eq__ : Addr} {od_Process___eq__ an_Process___eq__ : Option Addr} {sl_Process___eq__ : Array (Option Value)} {oc_Process___eq__ kV_Process___eq__ dc_Process___eq__ pm_Process___eq__ cd_Process___eq__ ct_Process___eq__ : Value}
    {f_Net___init__ : Addr} {od_Net___init__ an_Net___init__ : Option Addr} {sl_Net___init__ : Array (Option Value)} {oc_Net___init__ kV_Net___init__ dc_Net___init__ pm_Net___init__ cd_Net___init__ ct_Net___init__ : Value}
    {f_rows_of : Addr} {od_rows_of an_rows_of : Option Addr} {sl_rows_of : Array (Option Value)} {oc_rows_of kV_rows_of dc_rows_of pm_rows_of cd_rows_of ct_rows_of : Value}
    {f_Process___or__ : Addr} {od_Process___or__ an_Process___or__ : Option Addr} {sl_Process___or__ : Array (Option Value)} {oc_Process___or__ kV_Process___or__ dc_Process___or__ pm_Process___or__ cd_Process___or__ ct_Process___or__ : Value}
    {f_Net___mul__ : Addr} {od_Net___mul__ an_Net___mul__ : Option Addr} {sl_Net___mul__ : Array (Option Value)} {oc_Net___mul__ kV_Net___mul__ dc_Net___mul__ pm_Net___mul__ cd_Net___mul__ ct_Net___mul__ : Value}
    {f_Process___rmul__ : Addr} {od_Process___rmul__ an_Process___rmul__ : Option Addr} {sl_Process___rmul__ : Array (Option Value)} {oc_Process___rmul__ kV_Process___rmul__ dc_Process___rmul__ pm_Process___rmul__ cd_Process___rmul__ ct_Process___rmul__ : Value}
    {f_Net___len__ : Addr} {od_Net___len__ an_Net___len__ : Option Addr} {sl_Net___len__ : Array (Option Value)} {oc_Net___len__ kV_Net___len__ dc_Net___len__ pm_Net___len__ cd_Net___len__ ct_Net___len__ : Value}
    {f_Net___getitem__ : Addr} {od_Net___getitem__ an_Net___getitem__ : Option Addr} {sl_Net___getitem__ : Array (Option Value)} {oc_Net___getitem__ kV_Net___getitem__ dc_Net___getitem__ pm_Net___getitem__ cd_Net___getitem__ ct_Net___getitem__ : Value}
    {f_Net___eq__ : Addr} {od_Net___eq__ an_Net___eq__ : Option Addr} {sl_Net___eq__ : Array (Option Value)} {oc_Net___eq__ kV_Net___eq__ dc_Net___eq__ pm_Net___eq__ cd_Net___eq__ ct_Net___eq__ : Value}
    {f_Net___or__ : Addr} {od_Net___or__ an_Net___or__ : Option Addr} {sl_Net___or__ : Array (Option Value)} {oc_Net___or__ kV_Net___or__ dc_Net___or__ pm_Net___or__ cd_Net___or__ ct_Net___or__ : Value}
    {f_Net___ior__ : Addr} {od_Net___ior__ an_Net___ior__ : Option Addr} {sl_Net___ior__ : Array (Option Value)} {oc_Net___ior__ kV_Net___ior__ dc_Net___ior__ pm_Net___ior__ cd_Net___ior__ ct_Net___ior__ : Value}
    {f_Net___rmul__ : Addr} {od_Net___rmul__ an_Net___rmul__ : Option Addr} {sl_Net___rmul__ : Array (Option Value)} {oc_Net___rmul__ kV_Net___rmul__ dc_Net___rmul__ pm_Net___rmul__ cd_Net___rmul__ ct_Net___rmul__ : Value}
    {f__law_cell_at : Addr} {od__law_cell_at an__law_cell_at : Option Addr} {sl__law_cell_at : Array (Option Value)} {oc__law_cell_at kV__law_cell_at dc__law_cell_at pm__law_cell_at cd__law_cell_at ct__law_cell_at : Value}
    {f__law_mixed : Addr} {od__law_mixed an__law_mixed : Option Addr} {sl__law_mixed : Array (Option Value)} {oc__law_mixed kV__law_mixed dc__law_mixed pm__law_mixed cd__law_mixed ct__law_mixed : Value}
    {f__law_row : Addr} {od__law_row an__law_row : Option Addr} {sl__law_row : Array (Option Value)} {oc__law_row kV__law_row dc__law_row pm__law_row cd__law_row ct__law_row : Value}
    {f__law_process : Addr} {od__law_process an__law_process : Option Addr} {sl__law_process : Array (Option Value)} {oc__law_process kV__law_process dc__law_process pm__law_process cd__law_process ct__law_process : Value}
    {f__law_is : Addr} {od__law_is an__law_is : Option Addr} {sl__law_is : Array (Option Value)} {oc__law_is kV__law_is dc__law_is pm__law_is cd__law_is ct__law_is : Value}
    {f__law_joined : Addr} {od__law_joined an__law_joined : Option Addr} {sl__law_joined : Array (Option Value)} {oc__law_joined kV__law_joined dc__law_joined pm__law_joined cd__law_joined ct__law_joined : Value}
    {f__law_times : Addr} {od__law_times an__law_times : Option Addr} {sl__law_times : Array (Option Value)} {oc__law_times kV__law_times dc__law_times pm__law_times cd__law_times ct__law_times : Value}
    {f__law_listed : Addr} {od__law_listed an__law_listed : Option Addr} {sl__law_listed : Array (Option Value)} {oc__law_listed kV__law_listed dc__law_listed pm__law_listed cd__law_listed ct__law_listed : Value}
    {f__law_extended : Addr} {od__law_extended an__law_extended : Option Addr} {sl__law_extended : Array (Option Value)} {oc__law_extended kV__law_extended dc__law_extended pm__law_extended cd__law_extended ct__law_extended : Value}
    {f__law_step : Addr} {od__law_step an__law_step : Option Addr} {sl__law_step : Array (Option Value)} {oc__law_step kV__law_step dc__law_step pm__law_step cd__law_step ct__law_step : Value}
    {f_law : Addr} {od_law an_law : Option Addr} {sl_law : Array (Option Value)} {oc_law kV_law dc_law pm_law cd_law ct_law : Value}
    {C_BadTerm : Addr}
    {C_SeatsError : Addr}
    {nm_BadTerm q_BadTerm : Str} {ns_BadTerm : Addr} {bs_BadTerm sub_BadTerm : List Value} {sn_BadTerm : List Str} {ab_BadTerm : Bool} {col_BadTerm : Option Bool} {dd_BadTerm : Option Addr} {m0_BadTerm m1_BadTerm m2_BadTerm m3_BadTerm m5_BadTerm : Option Value}
    {f_x_BadTerm : Addr} {od_x_BadTerm an_x_BadTerm : Option Addr} {sl_x_BadTerm : Array (Option Value)} {oc_x_BadTerm kV_x_BadTerm dc_x_BadTerm pm_x_BadTerm cd_x_BadTerm ct_x_BadTerm : Value}
    (h_a_Process : PySem.W.nsIn K mainGlobals "Process" = some (some (.ref C_Process)))
    (h_pg_Process : PySem.W.plainGet K C_Process Str.empty = true)
    (h_hd_Process : PySem.W.hasDictIn K C_Process = true)
    (h_po_Process : PySem.W.plainOver K C_Process = true)
    (h_sa_Process : PySem.W.findIn K (.ref C_Process) "__setattr__" = some (some (.builtin "object.__setattr__")))
    (h_mk_Process : PySem.W.makesIn K C_Process = true)
    (h_kc_Process : PySem.W.keepIn K (.ref C_Process) = true)
    (h_a_Net : PySem.W.nsIn K mainGlobals "Net" = some (some (.ref C_Net)))
    (h_pg_Net : PySem.W.plainGet K C_Net Str.empty = true)
    (h_hd_Net : PySem.W.hasDictIn K C_Net = true)
    (h_po_Net : PySem.W.plainOver K C_Net = true)
    (h_sa_Net : PySem.W.findIn K (.ref C_Net) "__setattr__" = some (some (.builtin "object.__setattr__")))
    (h_mk_Net : PySem.W.makesIn K C_Net = true)
    (h_kc_Net : PySem.W.keepIn K (.ref C_Net) = true)
    (h_qr_Process : PySem.W.readsIn K C_Process (.type "type") = true)
    (h_qg_Process : PySem.W.specialIn K (.ref C_Process) "__getattribute__" = some (some (.builtin "type.__getattribute__")))
    (h_n_Process_depth : PySem.W.findIn K (.ref C_Process) "depth" = some none)
    (h_n_Process_kind : PySem.W.findIn K (.ref C_Process) "kind" = some none)
    (h_n_Process_parts : PySem.W.findIn K (.ref C_Process) "parts" = some none)
    (h_n_Net_rows : PySem.W.findIn K (.ref C_Net) "rows" = some none)
    (h_n_Process_size : PySem.W.findIn K (.ref C_Process) "size" = some none)
    (h_b_abs : PySem.W.nsIn K mainGlobals "abs" = some none)
    (h_b_all : PySem.W.nsIn K mainGlobals "all" = some none)
    (h_b_bool : PySem.W.nsIn K mainGlobals "bool" = some none)
    (h_b_int : PySem.W.nsIn K mainGlobals "int" = some none)
    (h_b_isinstance : PySem.W.nsIn K mainGlobals "isinstance" = some none)
    (h_b_len : PySem.W.nsIn K mainGlobals "len" = some none)
    (h_b_list : PySem.W.nsIn K mainGlobals "list" = some none)
    (h_b_range : PySem.W.nsIn K mainGlobals "range" = some none)
    (h_b_str : PySem.W.nsIn K mainGlobals "str" = some none)
    (h_b_tuple : PySem.W.nsIn K mainGlobals "tuple" = some none)
    (h_of_Net_BitOr : PySem.W.selfFirst K C_Net = true)
    (h_or_Net_BitOr : PySem.W.findIn K (.ref C_Net) "__ror__" = some none)
    (h_o1_Net_BitOr : PySem.W.findIn K (.type "int") "__or__" = some fo_Net_BitOr)
    (h_o2_Net_BitOr : PySem.W.findIn K (.type "int") "__ror__" = some ro_Net_BitOr)
    (h_os_Net_BitOr : PySem.W.subIn K (.type "int") (.ref C_Net) = some false)
    (h_xf1_Process_Net_BitOr : PySem.W.selfFirst K C_Process = true)
    (h_xf2_Process_Net_BitOr : PySem.W.selfFirst K C_Net = true)
    (h_xn1_Process_Net_BitOr : PySem.W.findIn K (.ref C_Process) "__or__" = some (some (.ref xa_Process_Net_BitOr)))
    (h_xn2_Process_Net_BitOr : PySem.W.findIn K (.ref C_Net) "__or__" = some (some (.ref xb_Process_Net_BitOr)))
    (h_xr1_Process_Net_BitOr : PySem.W.findIn K (.ref C_Process) "__ror__" = some none)
    (h_xr2_Process_Net_BitOr : PySem.W.findIn K (.ref C_Net) "__ror__" = some none)
    (h_xe_Process_Net_BitOr : (C_Process == C_Net) = false)
    (h_xs1_Process_Net_BitOr : PySem.W.subIn K (.ref C_Net) (.ref C_Process) = some false)
    (h_xs2_Process_Net_BitOr : PySem.W.subIn K (.ref C_Process) (.ref C_Net) = some false)
    (h_gf_Net_Mult : PySem.W.selfFirst K C_Net = true)
    (h_gr_Net_Mult : PySem.W.findIn K (.ref C_Net) "__rmul__" = some (some (.ref gf_Net_Mult)))
    (h_g1_Net_Mult : PySem.W.findIn K (.type "int") "__mul__" = some go_Net_Mult)
    (h_g2_Net_Mult : PySem.W.findIn K (.type "int") "__rmul__" = some gr_Net_Mult)
    (h_gs_Net_Mult : PySem.W.subIn K (.type "int") (.ref C_Net) = some false)
    (h_rf_Net : PySem.W.selfFirst K C_Net = true)
    (h_rm_Net : PySem.W.findIn K (.ref C_Net) "__mul__" = some (some (.ref rm_Net)))
    (h_ri_Net : PySem.W.subIn K (.ref C_Net) (.type "int") = some false)
    (h_rf_Process : PySem.W.selfFirst K C_Process = true)
    (h_rm_Process : PySem.W.findIn K (.ref C_Process) "__mul__" = some none)
    (h_ri_Process : PySem.W.subIn K (.ref C_Process) (.type "int") = some false)
    (h_ia_Net : PySem.W.findIn K (.ref C_Net) "__class__" = some (some (.builtin "object.__class__")))
    (h_in_Net : PySem.W.specialIn K (.builtin "object.__class__") "__get__" = some (some (.builtin "getset_descriptor.__get__")))
    (h_it_Net : PySem.W.takesIn K (.builtin "object.__class__") = some true)
    (h_im_Net : PySem.W.mroIn K C_Net (.type "object") = some true)
    (h_ia_Process : PySem.W.findIn K (.ref C_Process) "__class__" = some (some (.builtin "object.__class__")))
    (h_in_Process : PySem.W.specialIn K (.builtin "object.__class__") "__get__" = some (some (.builtin "getset_descriptor.__get__")))
    (h_it_Process : PySem.W.takesIn K (.builtin "object.__class__") = some true)
    (h_im_Process : PySem.W.mroIn K C_Process (.type "object") = some true)
    (h_ie_Net_Process : (C_Process == C_Net) = false)
    (h_if_Net_Process : PySem.W.selfFirst K C_Net = true)
    (h_iy_Net_Process : PySem.W.typeIn K (.ref C_Net) = some (.type "type"))
    (h_ib_Net_Process : PySem.W.subIn K (.ref C_Process) (.ref C_Net) = some false)
    (h_ga_RESERVED : PySem.W.nsIn K mainGlobals "RESERVED" = some (some (.ref at_RESERVED)))
    (h_gl_RESERVED : K.lookup at_RESERVED = some ⟨.type "tuple", od_RESERVED, .seq #[.str "stop" tk_RESERVED_0, .str "new" tk_RESERVED_1, .str "if" tk_RESERVED_2, .str "then" tk_RESERVED_3, .str "else" tk_RESERVED_4, .str "put" tk_RESERVED_5, .str "get" tk_RESERVED_6, .str "channel" tk_RESERVED_7, .str "at" tk_RESERVED_8, .str "define" tk_RESERVED_9, .str "start" tk_RESERVED_10] nn_RESERVED, sl_RESERVED⟩)
    (h_c_DIGITS : PySem.W.nsIn K mainGlobals "DIGITS" = some (some (.str "0123456789" tk_DIGITS)))
    (h_c_LETTERS : PySem.W.nsIn K mainGlobals "LETTERS" = some (some (.str "abcdefghijklmnopqrstuvwxyz" tk_LETTERS)))
    (h_c_MOST_MACHINES : PySem.W.nsIn K mainGlobals "MOST_MACHINES" = some (some (.int 6 tk_MOST_MACHINES)))
    (h_c_MOST_OPERANDS : PySem.W.nsIn K mainGlobals "MOST_OPERANDS" = some (some (.int 4 tk_MOST_OPERANDS)))
    (h_c_MOST_SIGNS : PySem.W.nsIn K mainGlobals "MOST_SIGNS" = some (some (.int 8 tk_MOST_SIGNS)))
    (h_c_VALUE_LIMIT : PySem.W.nsIn K mainGlobals "VALUE_LIMIT" = some (some (.int 1000000000000000000000000000000 tk_VALUE_LIMIT)))
    (h_at_is_name : PySem.W.nsIn K mainGlobals "is_name" = some (some (.ref f_is_name)))
    (h_lk_is_name : K.lookup f_is_name = some ⟨oc_is_name, od_is_name, .func (PySem.W.fnOf "is_name" "is_name" (defArgs s_is_name) (defBody s_is_name) (defScope s_is_name) .none kV_is_name dc_is_name pm_is_name an_is_name cd_is_name ct_is_name), sl_is_name⟩)
    (h_cd_is_name : PySem.W.codeIn K cd_is_name "is_name" = true)
    (h_kp_is_name : PySem.W.keepIn K (.ref f_is_name) = true)
    (h_at_is_number : PySem.W.nsIn K mainGlobals "is_number" = some (some (.ref f_is_number)))
    (h_lk_is_number : K.lookup f_is_number = some ⟨oc_is_number, od_is_number, .func (PySem.W.fnOf "is_number" "is_number" (defArgs s_is_number) (defBody s_is_number) (defScope s_is_number) .none kV_is_number dc_is_number pm_is_number an_is_number cd_is_number ct_is_number), sl_is_number⟩)
    (h_cd_is_number : PySem.W.codeIn K cd_is_number "is_number" = true)
    (h_kp_is_number : PySem.W.keepIn K (.ref f_is_number) = true)
    (h_at_is_operand : PySem.W.nsIn K mainGlobals "is_operand" = some (some (.ref f_is_operand)))
    (h_lk_is_operand : K.lookup f_is_operand = some ⟨oc_is_operand, od_is_operand, .func (PySem.W.fnOf "is_operand" "is_operand" (defArgs s_is_operand) (defBody s_is_operand) (defScope s_is_operand) .none kV_is_operand dc_is_operand pm_is_operand an_is_operand cd_is_operand ct_is_operand), sl_is_operand⟩)
    (h_cd_is_operand : PySem.W.codeIn K cd_is_operand "is_operand" = true)
    (h_kp_is_operand : PySem.W.keepIn K (.ref f_is_operand) = true)
    (h_at_Process___init__ : PySem.W.findIn K (.ref C_Process) "__init__" = some (some (.ref f_Process___init__)))
    (h_fn_Process___init__ : PySem.W.isFn K (.ref f_Process___init__) = true)
    (h_lk_Process___init__ : K.lookup f_Process___init__ = some ⟨oc_Process___init__, od_Process___init__, .func (PySem.W.fnOf "__init__" "Process.__init__" (defArgs s_Process___init__) (defBody s_Process___init__) (defScope s_Process___init__) .none kV_Process___init__ dc_Process___init__ pm_Process___init__ an_Process___init__ cd_Process___init__ ct_Process___init__), sl_Process___init__⟩)
    (h_cd_Process___init__ : PySem.W.codeIn K cd_Process___init__ "Process.__init__" = true)
    (h_kp_Process___init__ : PySem.W.keepIn K (.ref f_Process___init__) = true)
    (h_sc_Process_stop : PySem.W.findCls K (.ref C_Process) (.type "type") "stop" = some (.get (.builtin "staticmethod.__get__") (.ref sp_Process_stop) .none (.ref C_Process)))
    (h_sx_Process_stop : PySem.W.recIn K sp_Process_stop "staticmethod" = some (.ref f_Process_stop :: sr_Process_stop))
    (h_lk_Process_stop : K.lookup f_Process_stop = some ⟨oc_Process_stop, od_Process_stop, .func (PySem.W.fnOf "stop" "Process.stop" (defArgs s_Process_stop) (defBody s_Process_stop) (defScope s_Process_stop) .none kV_Process_stop dc_Process_stop pm_Process_stop an_Process_stop cd_Process_stop ct_Process_stop), sl_Process_stop⟩)
    (h_cd_Process_stop : PySem.W.codeIn K cd_Process_stop "Process.stop" = true)
    (h_kp_Process_stop : PySem.W.keepIn K (.ref f_Process_stop) = true)
    (h_sc_Process_call : PySem.W.findCls K (.ref C_Process) (.type "type") "call" = some (.get (.builtin "staticmethod.__get__") (.ref sp_Process_call) .none (.ref C_Process)))
    (h_sx_Process_call : PySem.W.recIn K sp_Process_call "staticmethod" = some (.ref f_Process_call :: sr_Process_call))
    (h_lk_Process_call : K.lookup f_Process_call = some ⟨oc_Process_call, od_Process_call, .func (PySem.W.fnOf "call" "Process.call" (defArgs s_Process_call) (defBody s_Process_call) (defScope s_Process_call) .none kV_Process_call dc_Process_call pm_Process_call an_Process_call cd_Process_call ct_Process_call), sl_Process_call⟩)
    (h_cd_Process_call : PySem.W.codeIn K cd_Process_call "Process.call" = true)
    (h_kp_Process_call : PySem.W.keepIn K (.ref f_Process_call) = true)
    (h_at_Process___eq__ : PySem.W.findIn K (.ref C_Process) "__eq__" = some (some (.ref f_Process___eq__)))
    (h_fn_Process___eq__ : PySem.W.isFn K (.ref f_Process___eq__) = true)
    (h_lk_Process___eq__ : K.lookup f_Process___eq__ = some ⟨oc_Process___eq__, od_Process___eq__, .func (PySem.W.fnOf "__eq__" "Process.__eq__" (defArgs s_Process___eq__) (defBody s_Process___eq__) (defScope s_Process___eq__) .none kV_Process___eq__ dc_Process___eq__ pm_Process___eq__ an_Process___eq__ cd_Process___eq__ ct_Process___eq__), sl_Process___eq__⟩)
    (h_cd_Process___eq__ : PySem.W.codeIn K cd_Process___eq__ "Process.__eq__" = true)
    (h_kp_Process___eq__ : PySem.W.keepIn K (.ref f_Process___eq__) = true)
    (h_at_Net___init__ : PySem.W.findIn K (.ref C_Net) "__init__" = some (some (.ref f_Net___init__)))
    (h_fn_Net___init__ : PySem.W.isFn K (.ref f_Net___init__) = true)
    (h_lk_Net___init__ : K.lookup f_Net___init__ = some ⟨oc_Net___init__, od_Net___init__, .func (PySem.W.fnOf "__init__" "Net.__init__" (defArgs s_Net___init__) (defBody s_Net___init__) (defScope s_Net___init__) .none kV_Net___init__ dc_Net___init__ pm_Net___init__ an_Net___init__ cd_Net___init__ ct_Net___init__), sl_Net___init__⟩)
    (h_cd_Net___init__ : PySem.W.codeIn K cd_Net___init__ "Net.__init__" = true)
    (h_kp_Net___init__ : PySem.W.keepIn K (.ref f_Net___init__) = true)
    (h_at_rows_of : PySem.W.nsIn K mainGlobals "rows_of" = some (some (.ref f_rows_of)))
    (h_lk_rows_of : K.lookup f_rows_of = some ⟨oc_rows_of, od_rows_of, .func (PySem.W.fnOf "rows_of" "rows_of" (defArgs s_rows_of) (defBody s_rows_of) (defScope s_rows_of) .none kV_rows_of dc_rows_of pm_rows_of an_rows_of cd_rows_of ct_rows_of), sl_rows_of⟩)
    (h_cd_rows_of : PySem.W.codeIn K cd_rows_of "rows_of" = true)
    (h_kp_rows_of : PySem.W.keepIn K (.ref f_rows_of) = true)
    (h_at_Process___or__ : PySem.W.findIn K (.ref C_Process) "__or__" = some (some (.ref f_Process___or__)))
    (h_fn_Process___or__ : PySem.W.isFn K (.ref f_Process___or__) = true)
    (h_lk_Process___or__ : K.lookup f_Process___or__ = some ⟨oc_Process___or__, od_Process___or__, .func (PySem.W.fnOf "__or__" "Process.__or__" (defArgs s_Process___or__) (defBody s_Process___or__) (defScope s_Process___or__) .none kV_Process___or__ dc_Process___or__ pm_Process___or__ an_Process___or__ cd_Process___or__ ct_Process___or__), sl_Process___or__⟩)
    (h_cd_Process___or__ : PySem.W.codeIn K cd_Process___or__ "Process.__or__" = true)
    (h_kp_Process___or__ : PySem.W.keepIn K (.ref f_Process___or__) = true)
    (h_at_Net___mul__ : PySem.W.findIn K (.ref C_Net) "__mul__" = some (some (.ref f_Net___mul__)))
    (h_fn_Net___mul__ : PySem.W.isFn K (.ref f_Net___mul__) = true)
    (h_lk_Net___mul__ : K.lookup f_Net___mul__ = some ⟨oc_Net___mul__, od_Net___mul__, .func (PySem.W.fnOf "__mul__" "Net.__mul__" (defArgs s_Net___mul__) (defBody s_Net___mul__) (defScope s_Net___mul__) .none kV_Net___mul__ dc_Net___mul__ pm_Net___mul__ an_Net___mul__ cd_Net___mul__ ct_Net___mul__), sl_Net___mul__⟩)
    (h_cd_Net___mul__ : PySem.W.codeIn K cd_Net___mul__ "Net.__mul__" = true)
    (h_kp_Net___mul__ : PySem.W.keepIn K (.ref f_Net___mul__) = true)
    (h_at_Process___rmul__ : PySem.W.findIn K (.ref C_Process) "__rmul__" = some (some (.ref f_Process___rmul__)))
    (h_fn_Process___rmul__ : PySem.W.isFn K (.ref f_Process___rmul__) = true)
    (h_lk_Process___rmul__ : K.lookup f_Process___rmul__ = some ⟨oc_Process___rmul__, od_Process___rmul__, .func (PySem.W.fnOf "__rmul__" "Process.__rmul__" (defArgs s_Process___rmul__) (defBody s_Process___rmul__) (defScope s_Process___rmul__) .none kV_Process___rmul__ dc_Process___rmul__ pm_Process___rmul__ an_Process___rmul__ cd_Process___rmul__ ct_Process___rmul__), sl_Process___rmul__⟩)
    (h_cd_Process___rmul__ : PySem.W.codeIn K cd_Process___rmul__ "Process.__rmul__" = true)
    (h_kp_Process___rmul__ : PySem.W.keepIn K (.ref f_Process___rmul__) = true)
    (h_at_Net___len__ : PySem.W.findIn K (.ref C_Net) "__len__" = some (some (.ref f_Net___len__)))
    (h_fn_Net___len__ : PySem.W.isFn K (.ref f_Net___len__) = true)
    (h_lk_Net___len__ : K.lookup f_Net___len__ = some ⟨oc_Net___len__, od_Net___len__, .func (PySem.W.fnOf "__len__" "Net.__len__" (defArgs s_Net___len__) (defBody s_Net___len__) (defScope s_Net___len__) .none kV_Net___len__ dc_Net___len__ pm_Net___len__ an_Net___len__ cd_Net___len__ ct_Net___len__), sl_Net___len__⟩)
    (h_cd_Net___len__ : PySem.W.codeIn K cd_Net___len__ "Net.__len__" = true)
    (h_kp_Net___len__ : PySem.W.keepIn K (.ref f_Net___len__) = true)
    (h_at_Net___getitem__ : PySem.W.findIn K (.ref C_Net) "__getitem__" = some (some (.ref f_Net___getitem__)))
    (h_fn_Net___getitem__ : PySem.W.isFn K (.ref f_Net___getitem__) = true)
    (h_lk_Net___getitem__ : K.lookup f_Net___getitem__ = some ⟨oc_Net___getitem__, od_Net___getitem__, .func (PySem.W.fnOf "__getitem__" "Net.__getitem__" (defArgs s_Net___getitem__) (defBody s_Net___getitem__) (defScope s_Net___getitem__) .none kV_Net___getitem__ dc_Net___getitem__ pm_Net___getitem__ an_Net___getitem__ cd_Net___getitem__ ct_Net___getitem__), sl_Net___getitem__⟩)
    (h_cd_Net___getitem__ : PySem.W.codeIn K cd_Net___getitem__ "Net.__getitem__" = true)
    (h_kp_Net___getitem__ : PySem.W.keepIn K (.ref f_Net___getitem__) = true)
    (h_at_Net___eq__ : PySem.W.findIn K (.ref C_Net) "__eq__" = some (some (.ref f_Net___eq__)))
    (h_fn_Net___eq__ : PySem.W.isFn K (.ref f_Net___eq__) = true)
    (h_lk_Net___eq__ : K.lookup f_Net___eq__ = some ⟨oc_Net___eq__, od_Net___eq__, .func (PySem.W.fnOf "__eq__" "Net.__eq__" (defArgs s_Net___eq__) (defBody s_Net___eq__) (defScope s_Net___eq__) .none kV_Net___eq__ dc_Net___eq__ pm_Net___eq__ an_Net___eq__ cd_Net___eq__ ct_Net___eq__), sl_Net___eq__⟩)
    (h_cd_Net___eq__ : PySem.W.codeIn K cd_Net___eq__ "Net.__eq__" = true)
    (h_kp_Net___eq__ : PySem.W.keepIn K (.ref f_Net___eq__) = true)
    (h_at_Net___or__ : PySem.W.findIn K (.ref C_Net) "__or__" = some (some (.ref f_Net___or__)))
    (h_fn_Net___or__ : PySem.W.isFn K (.ref f_Net___or__) = true)
    (h_lk_Net___or__ : K.lookup f_Net___or__ = some ⟨oc_Net___or__, od_Net___or__, .func (PySem.W.fnOf "__or__" "Net.__or__" (defArgs s_Net___or__) (defBody s_Net___or__) (defScope s_Net___or__) .none kV_Net___or__ dc_Net___or__ pm_Net___or__ an_Net___or__ cd_Net___or__ ct_Net___or__), sl_Net___or__⟩)
    (h_cd_Net___or__ : PySem.W.codeIn K cd_Net___or__ "Net.__or__" = true)
    (h_kp_Net___or__ : PySem.W.keepIn K (.ref f_Net___or__) = true)
    (h_at_Net___ior__ : PySem.W.findIn K (.ref C_Net) "__ior__" = some (some (.ref f_Net___ior__)))
    (h_fn_Net___ior__ : PySem.W.isFn K (.ref f_Net___ior__) = true)
    (h_lk_Net___ior__ : K.lookup f_Net___ior__ = some ⟨oc_Net___ior__, od_Net___ior__, .func (PySem.W.fnOf "__ior__" "Net.__ior__" (defArgs s_Net___ior__) (defBody s_Net___ior__) (defScope s_Net___ior__) .none kV_Net___ior__ dc_Net___ior__ pm_Net___ior__ an_Net___ior__ cd_Net___ior__ ct_Net___ior__), sl_Net___ior__⟩)
    (h_cd_Net___ior__ : PySem.W.codeIn K cd_Net___ior__ "Net.__ior__" = true)
    (h_kp_Net___ior__ : PySem.W.keepIn K (.ref f_Net___ior__) = true)
    (h_at_Net___rmul__ : PySem.W.findIn K (.ref C_Net) "__rmul__" = some (some (.ref f_Net___rmul__)))
    (h_fn_Net___rmul__ : PySem.W.isFn K (.ref f_Net___rmul__) = true)
    (h_lk_Net___rmul__ : K.lookup f_Net___rmul__ = some ⟨oc_Net___rmul__, od_Net___rmul__, .func (PySem.W.fnOf "__rmul__" "Net.__rmul__" (defArgs s_Net___rmul__) (defBody s_Net___rmul__) (defScope s_Net___rmul__) .none kV_Net___rmul__ dc_Net___rmul__ pm_Net___rmul__ an_Net___rmul__ cd_Net___rmul__ ct_Net___rmul__), sl_Net___rmul__⟩)
    (h_cd_Net___rmul__ : PySem.W.codeIn K cd_Net___rmul__ "Net.__rmul__" = true)
    (h_kp_Net___rmul__ : PySem.W.keepIn K (.ref f_Net___rmul__) = true)
    (h_at__law_cell_at : PySem.W.nsIn K mainGlobals "_law_cell_at" = some (some (.ref f__law_cell_at)))
    (h_lk__law_cell_at : K.lookup f__law_cell_at = some ⟨oc__law_cell_at, od__law_cell_at, .func (PySem.W.fnOf "_law_cell_at" "_law_cell_at" (defArgs s__law_cell_at) (defBody s__law_cell_at) (defScope s__law_cell_at) .none kV__law_cell_at dc__law_cell_at pm__law_cell_at an__law_cell_at cd__law_cell_at ct__law_cell_at), sl__law_cell_at⟩)
    (h_cd__law_cell_at : PySem.W.codeIn K cd__law_cell_at "_law_cell_at" = true)
    (h_kp__law_cell_at : PySem.W.keepIn K (.ref f__law_cell_at) = true)
    (h_at__law_mixed : PySem.W.nsIn K mainGlobals "_law_mixed" = some (some (.ref f__law_mixed)))
    (h_lk__law_mixed : K.lookup f__law_mixed = some ⟨oc__law_mixed, od__law_mixed, .func (PySem.W.fnOf "_law_mixed" "_law_mixed" (defArgs s__law_mixed) (defBody s__law_mixed) (defScope s__law_mixed) .none kV__law_mixed dc__law_mixed pm__law_mixed an__law_mixed cd__law_mixed ct__law_mixed), sl__law_mixed⟩)
    (h_cd__law_mixed : PySem.W.codeIn K cd__law_mixed "_law_mixed" = true)
    (h_kp__law_mixed : PySem.W.keepIn K (.ref f__law_mixed) = true)
    (h_at__law_row : PySem.W.nsIn K mainGlobals "_law_row" = some (some (.ref f__law_row)))
    (h_lk__law_row : K.lookup f__law_row = some ⟨oc__law_row, od__law_row, .func (PySem.W.fnOf "_law_row" "_law_row" (defArgs s__law_row) (defBody s__law_row) (defScope s__law_row) .none kV__law_row dc__law_row pm__law_row an__law_row cd__law_row ct__law_row), sl__law_row⟩)
    (h_cd__law_row : PySem.W.codeIn K cd__law_row "_law_row" = true)
    (h_kp__law_row : PySem.W.keepIn K (.ref f__law_row) = true)
    (h_at__law_process : PySem.W.nsIn K mainGlobals "_law_process" = some (some (.ref f__law_process)))
    (h_lk__law_process : K.lookup f__law_process = some ⟨oc__law_process, od__law_process, .func (PySem.W.fnOf "_law_process" "_law_process" (defArgs s__law_process) (defBody s__law_process) (defScope s__law_process) .none kV__law_process dc__law_process pm__law_process an__law_process cd__law_process ct__law_process), sl__law_process⟩)
    (h_cd__law_process : PySem.W.codeIn K cd__law_process "_law_process" = true)
    (h_kp__law_process : PySem.W.keepIn K (.ref f__law_process) = true)
    (h_at__law_is : PySem.W.nsIn K mainGlobals "_law_is" = some (some (.ref f__law_is)))
    (h_lk__law_is : K.lookup f__law_is = some ⟨oc__law_is, od__law_is, .func (PySem.W.fnOf "_law_is" "_law_is" (defArgs s__law_is) (defBody s__law_is) (defScope s__law_is) .none kV__law_is dc__law_is pm__law_is an__law_is cd__law_is ct__law_is), sl__law_is⟩)
    (h_cd__law_is : PySem.W.codeIn K cd__law_is "_law_is" = true)
    (h_kp__law_is : PySem.W.keepIn K (.ref f__law_is) = true)
    (h_at__law_joined : PySem.W.nsIn K mainGlobals "_law_joined" = some (some (.ref f__law_joined)))
    (h_lk__law_joined : K.lookup f__law_joined = some ⟨oc__law_joined, od__law_joined, .func (PySem.W.fnOf "_law_joined" "_law_joined" (defArgs s__law_joined) (defBody s__law_joined) (defScope s__law_joined) .none kV__law_joined dc__law_joined pm__law_joined an__law_joined cd__law_joined ct__law_joined), sl__law_joined⟩)
    (h_cd__law_joined : PySem.W.codeIn K cd__law_joined "_law_joined" = true)
    (h_kp__law_joined : PySem.W.keepIn K (.ref f__law_joined) = true)
    (h_at__law_times : PySem.W.nsIn K mainGlobals "_law_times" = some (some (.ref f__law_times)))
    (h_lk__law_times : K.lookup f__law_times = some ⟨oc__law_times, od__law_times, .func (PySem.W.fnOf "_law_times" "_law_times" (defArgs s__law_times) (defBody s__law_times) (defScope s__law_times) .none kV__law_times dc__law_times pm__law_times an__law_times cd__law_times ct__law_times), sl__law_times⟩)
    (h_cd__law_times : PySem.W.codeIn K cd__law_times "_law_times" = true)
    (h_kp__law_times : PySem.W.keepIn K (.ref f__law_times) = true)
    (h_at__law_listed : PySem.W.nsIn K mainGlobals "_law_listed" = some (some (.ref f__law_listed)))
    (h_lk__law_listed : K.lookup f__law_listed = some ⟨oc__law_listed, od__law_listed, .func (PySem.W.fnOf "_law_listed" "_law_listed" (defArgs s__law_listed) (defBody s__law_listed) (defScope s__law_listed) .none kV__law_listed dc__law_listed pm__law_listed an__law_listed cd__law_listed ct__law_listed), sl__law_listed⟩)
    (h_cd__law_listed : PySem.W.codeIn K cd__law_listed "_law_listed" = true)
    (h_kp__law_listed : PySem.W.keepIn K (.ref f__law_listed) = true)
    (h_at__law_extended : PySem.W.nsIn K mainGlobals "_law_extended" = some (some (.ref f__law_extended)))
    (h_lk__law_extended : K.lookup f__law_extended = some ⟨oc__law_extended, od__law_extended, .func (PySem.W.fnOf "_law_extended" "_law_extended" (defArgs s__law_extended) (defBody s__law_extended) (defScope s__law_extended) .none kV__law_extended dc__law_extended pm__law_extended an__law_extended cd__law_extended ct__law_extended), sl__law_extended⟩)
    (h_cd__law_extended : PySem.W.codeIn K cd__law_extended "_law_extended" = true)
    (h_kp__law_extended : PySem.W.keepIn K (.ref f__law_extended) = true)
    (h_at__law_step : PySem.W.nsIn K mainGlobals "_law_step" = some (some (.ref f__law_step)))
    (h_lk__law_step : K.lookup f__law_step = some ⟨oc__law_step, od__law_step, .func (PySem.W.fnOf "_law_step" "_law_step" (defArgs s__law_step) (defBody s__law_step) (defScope s__law_step) .none kV__law_step dc__law_step pm__law_step an__law_step cd__law_step ct__law_step), sl__law_step⟩)
    (h_cd__law_step : PySem.W.codeIn K cd__law_step "_law_step" = true)
    (h_kp__law_step : PySem.W.keepIn K (.ref f__law_step) = true)
    (h_at_law : PySem.W.nsIn K mainGlobals "law" = some (some (.ref f_law)))
    (h_lk_law : K.lookup f_law = some ⟨oc_law, od_law, .func (PySem.W.fnOf "law" "law" (defArgs s_law) (defBody s_law) (defScope s_law) .none kV_law dc_law pm_law an_law cd_law ct_law), sl_law⟩)
    (h_cd_law : PySem.W.codeIn K cd_law "law" = true)
    (h_kp_law : PySem.W.keepIn K (.ref f_law) = true)
    (h_a_BadTerm : PySem.W.nsIn K mainGlobals "BadTerm" = some (some (.ref C_BadTerm)))
    (h_a_SeatsError : PySem.W.nsIn K mainGlobals "SeatsError" = some (some (.ref C_SeatsError)))
    (h_sr_SeatsError : PySem.W.readsIn K C_SeatsError (.type "type") = true)
    (h_sg_SeatsError : PySem.W.specialIn K (.ref C_SeatsError) "__getattribute__" = some (some (.builtin "type.__getattribute__")))
    (h_sf_SeatsError : PySem.W.findCls K (.ref C_SeatsError) (.type "type") "__init__" = some (.val (.builtin "ValueError.__init__")))
    (h_cbe_BadTerm : PySem.W.subIn K (.ref C_BadTerm) (.type "BaseException") = some true)
    (h_chd_BadTerm : PySem.W.hasDictIn K C_BadTerm = true)
    (h_cty_BadTerm : PySem.W.typeIn K (.ref C_BadTerm) = some (.type "type"))
    (h_ce_BadTerm_BadTerm : PySem.W.subIn K (.ref C_BadTerm) (.ref C_BadTerm) = some true)
    (h_xga_BadTerm : PySem.W.findIn K (.ref C_BadTerm) "__getattribute__" = some (some (.builtin "BaseException.__getattribute__")))
    (h_xgg_BadTerm : PySem.W.findIn K (.ref C_BadTerm) "__getattr__" = some none)
    (h_xbe_BadTerm : PySem.W.subIn K (.ref C_BadTerm) (.type "BaseException") = some true)
    (h_xhd_BadTerm : PySem.W.hasDictIn K C_BadTerm = true)
    (h_xno_BadTerm : PySem.W.findIn K (.ref C_BadTerm) "field" = some none)
    (h_xo_BadTerm : K.lookup C_BadTerm = some (excClassObj nm_BadTerm q_BadTerm C_BadTerm ns_BadTerm bs_BadTerm [.ref C_SeatsError, .type "ValueError", .type "Exception", .type "BaseException", .type "object"] true sn_BadTerm sub_BadTerm ab_BadTerm col_BadTerm dd_BadTerm m0_BadTerm m1_BadTerm m2_BadTerm m3_BadTerm m5_BadTerm "ValueError.__new__"))
    (h_xsa_BadTerm : PySem.W.findIn K (.ref C_BadTerm) "__setattr__" = some (some (.builtin "object.__setattr__")))
    (h_xex_BadTerm : PySem.W.subIn K (.ref C_BadTerm) (.type "BaseException") = some true)
    (h_xty_BadTerm : PySem.W.typeIn K (.ref C_BadTerm) = some (.type "type"))
    (h_xkc_BadTerm : PySem.W.keepIn K (.ref C_BadTerm) = true)
    (h_xnf_BadTerm : PySem.W.findIn K (.ref C_BadTerm) "field" = some none)
    (h_at_x_BadTerm : PySem.W.findIn K (.ref C_BadTerm) "__init__" = some (some (.ref f_x_BadTerm)))
    (h_ft_x_BadTerm : PySem.W.typeIn K (.ref f_x_BadTerm) = some (.type "function"))
    (h_lk_x_BadTerm : K.lookup f_x_BadTerm = some ⟨oc_x_BadTerm, od_x_BadTerm, .func (PySem.W.fnOf "__init__" "BadTerm.__init__" (defArgs s_x_BadTerm) (defBody s_x_BadTerm) (defScope s_x_BadTerm) .none kV_x_BadTerm dc_x_BadTerm pm_x_BadTerm an_x_BadTerm cd_x_BadTerm ct_x_BadTerm), sl_x_BadTerm⟩)
    (h_cd_x_BadTerm : PySem.W.codeIn K cd_x_BadTerm "BadTerm.__init__" = true)
    (h_kp_x_BadTerm : PySem.W.keepIn K (.ref f_x_BadTerm) = true) : Txt K mg := by
  have k_Process : Cls K C_Process := ⟨h_pg_Process, h_hd_Process, h_po_Process, h_sa_Process⟩
  have m_Process := PySem.W.mg_of X G h_a_Process
  have k_Net : Cls K C_Net := ⟨h_pg_Net, h_hd_Net, h_po_Net, h_sa_Net⟩
  have m_Net := PySem.W.mg_of X G h_a_Net
  have F_is_name := fun_mk (st := s_is_name) h_lk_is_name h_cd_is_name h_kp_is_name
  have F_is_number := fun_mk (st := s_is_number) h_lk_is_number h_cd_is_number h_kp_is_number
  have F_is_operand := fun_mk (st := s_is_operand) h_lk_is_operand h_cd_is_operand h_kp_is_operand
  have F_Process___init__ := fun_mk (st := s_Process___init__) h_lk_Process___init__ h_cd_Process___init__ h_kp_Process___init__
  have F_Process_stop := fun_mk (st := s_Process_stop) h_lk_Process_stop h_cd_Process_stop h_kp_Process_stop
  have F_Process_call := fun_mk (st := s_Process_call) h_lk_Process_call h_cd_Process_call h_kp_Process_call
  have F_Process___eq__ := fun_mk (st := s_Process___eq__) h_lk_Process___eq__ h_cd_Process___eq__ h_kp_Process___eq__
  have I_Process___eq__ : PySem.W.fnIn K f_Process___eq__ = true := by unfold PySem.W.fnIn; rw [h_lk_Process___eq__]
  have F_Net___init__ := fun_mk (st := s_Net___init__) h_lk_Net___init__ h_cd_Net___init__ h_kp_Net___init__
  have F_rows_of := fun_mk (st := s_rows_of) h_lk_rows_of h_cd_rows_of h_kp_rows_of
  have F_Process___or__ := fun_mk (st := s_Process___or__) h_lk_Process___or__ h_cd_Process___or__ h_kp_Process___or__
  have I_Process___or__ : PySem.W.fnIn K f_Process___or__ = true := by unfold PySem.W.fnIn; rw [h_lk_Process___or__]
  have F_Net___mul__ := fun_mk (st := s_Net___mul__) h_lk_Net___mul__ h_cd_Net___mul__ h_kp_Net___mul__
  have I_Net___mul__ : PySem.W.fnIn K f_Net___mul__ = true := by unfold PySem.W.fnIn; rw [h_lk_Net___mul__]
  have F_Process___rmul__ := fun_mk (st := s_Process___rmul__) h_lk_Process___rmul__ h_cd_Process___rmul__ h_kp_Process___rmul__
  have I_Process___rmul__ : PySem.W.fnIn K f_Process___rmul__ = true := by unfold PySem.W.fnIn; rw [h_lk_Process___rmul__]
  have F_Net___len__ := fun_mk (st := s_Net___len__) h_lk_Net___len__ h_cd_Net___len__ h_kp_Net___len__
  have I_Net___len__ : PySem.W.fnIn K f_Net___len__ = true := by unfold PySem.W.fnIn; rw [h_lk_Net___len__]
  have F_Net___getitem__ := fun_mk (st := s_Net___getitem__) h_lk_Net___getitem__ h_cd_Net___getitem__ h_kp_Net___getitem__
  have I_Net___getitem__ : PySem.W.fnIn K f_Net___getitem__ = true := by unfold PySem.W.fnIn; rw [h_lk_Net___getitem__]
  have F_Net___eq__ := fun_mk (st := s_Net___eq__) h_lk_Net___eq__ h_cd_Net___eq__ h_kp_Net___eq__
  have I_Net___eq__ : PySem.W.fnIn K f_Net___eq__ = true := by unfold PySem.W.fnIn; rw [h_lk_Net___eq__]
  have F_Net___or__ := fun_mk (st := s_Net___or__) h_lk_Net___or__ h_cd_Net___or__ h_kp_Net___or__
  have I_Net___or__ : PySem.W.fnIn K f_Net___or__ = true := by unfold PySem.W.fnIn; rw [h_lk_Net___or__]
  have F_Net___ior__ := fun_mk (st := s_Net___ior__) h_lk_Net___ior__ h_cd_Net___ior__ h_kp_Net___ior__
  have I_Net___ior__ : PySem.W.fnIn K f_Net___ior__ = true := by unfold PySem.W.fnIn; rw [h_lk_Net___ior__]
  have F_Net___rmul__ := fun_mk (st := s_Net___rmul__) h_lk_Net___rmul__ h_cd_Net___rmul__ h_kp_Net___rmul__
  have I_Net___rmul__ : PySem.W.fnIn K f_Net___rmul__ = true := by unfold PySem.W.fnIn; rw [h_lk_Net___rmul__]
  have F__law_cell_at := fun_mk (st := s__law_cell_at) h_lk__law_cell_at h_cd__law_cell_at h_kp__law_cell_at
  have F__law_mixed := fun_mk (st := s__law_mixed) h_lk__law_mixed h_cd__law_mixed h_kp__law_mixed
  have F__law_row := fun_mk (st := s__law_row) h_lk__law_row h_cd__law_row h_kp__law_row
  have F__law_process := fun_mk (st := s__law_process) h_lk__law_process h_cd__law_process h_kp__law_process
  have F__law_is := fun_mk (st := s__law_is) h_lk__law_is h_cd__law_is h_kp__law_is
  have F__law_joined := fun_mk (st := s__law_joined) h_lk__law_joined h_cd__law_joined h_kp__law_joined
  have F__law_times := fun_mk (st := s__law_times) h_lk__law_times h_cd__law_times h_kp__law_times
  have F__law_listed := fun_mk (st := s__law_listed) h_lk__law_listed h_cd__law_listed h_kp__law_listed
  have F__law_extended := fun_mk (st := s__law_extended) h_lk__law_extended h_cd__law_extended h_kp__law_extended
  have F__law_step := fun_mk (st := s__law_step) h_lk__law_step h_cd__law_step h_kp__law_step
  have F_law := fun_mk (st := s_law) h_lk_law h_cd_law h_kp_law
  have m_BadTerm := PySem.W.mg_of X G h_a_BadTerm
  have m_SeatsError := PySem.W.mg_of X G h_a_SeatsError
  have F_x_BadTerm := fun_mk (st := s_x_BadTerm) h_lk_x_BadTerm h_cd_x_BadTerm h_kp_x_BadTerm
  exact ⟨⟨trivial, PySem.W.mg_none_of X G h_b_abs, PySem.W.mg_none_of X G h_b_all, PySem.W.mg_none_of X G h_b_bool, PySem.W.mg_none_of X G h_b_int, PySem.W.mg_none_of X G h_b_isinstance, PySem.W.mg_none_of X G h_b_len, PySem.W.mg_none_of X G h_b_list, PySem.W.mg_none_of X G h_b_range, PySem.W.mg_none_of X G h_b_str, PySem.W.mg_none_of X G h_b_tuple, ⟨⟨_, m_Process, k_Process, h_n_Process_depth⟩, True.intro⟩, ⟨⟨_, m_Process, k_Process, h_n_Process_kind⟩, True.intro⟩, ⟨⟨_, m_Process, k_Process, h_n_Process_parts⟩, True.intro⟩, ⟨⟨_, m_Net, k_Net, h_n_Net_rows⟩, True.intro⟩, ⟨⟨_, m_Process, k_Process, h_n_Process_size⟩, True.intro⟩, ⟨_, m_Net, ⟨h_of_Net_BitOr, h_or_Net_BitOr, ⟨_, h_o1_Net_BitOr⟩, ⟨_, h_o2_Net_BitOr⟩, h_os_Net_BitOr⟩⟩, fun _ _ => opx_two m_Process m_Net ⟨h_xf1_Process_Net_BitOr, ⟨_, h_xn1_Process_Net_BitOr⟩, ⟨_, h_xr1_Process_Net_BitOr, .inl rfl⟩⟩ ⟨h_xf2_Process_Net_BitOr, ⟨_, h_xn2_Process_Net_BitOr⟩, ⟨_, h_xr2_Process_Net_BitOr, .inl rfl⟩⟩ h_xe_Process_Net_BitOr h_xs1_Process_Net_BitOr h_xs2_Process_Net_BitOr, ⟨_, m_Net, ⟨h_gf_Net_Mult, ⟨_, h_gr_Net_Mult, .inr ⟨_, rfl⟩⟩, ⟨_, h_g1_Net_Mult⟩, ⟨_, h_g2_Net_Mult⟩, h_gs_Net_Mult⟩⟩, ⟨_, m_Net, ⟨h_rf_Net, .inr ⟨_, h_rm_Net⟩, h_ri_Net⟩⟩, ⟨_, m_Process, ⟨h_rf_Process, .inl h_rm_Process, h_ri_Process⟩⟩, ⟨_, m_Net⟩, ⟨_, m_Process⟩, ⟨_, _, m_Net, m_Net, ⟨k_Net, h_ia_Net, h_in_Net, h_it_Net, h_im_Net⟩, (by simp [PySem.W.kitOne])⟩, ⟨_, _, m_Net, m_Process, ⟨k_Process, h_ia_Process, h_in_Process, h_it_Process, h_im_Process⟩, (kit_no h_ie_Net_Process h_if_Net_Process h_iy_Net_Process h_ib_Net_Process)⟩, ⟨_, _, m_Process, m_Process, ⟨k_Process, h_ia_Process, h_in_Process, h_it_Process, h_im_Process⟩, (by simp [PySem.W.kitOne])⟩, ⟨_, PySem.W.mg_of X G h_ga_RESERVED, _, _, _, h_gl_RESERVED, rfl, rfl, (by rw [sizeLine_eq]; exact Nat.le_of_ble_eq_true rfl), (.cons ⟨_, rfl⟩ (.cons ⟨_, rfl⟩ (.cons ⟨_, rfl⟩ (.cons ⟨_, rfl⟩ (.cons ⟨_, rfl⟩ (.cons ⟨_, rfl⟩ (.cons ⟨_, rfl⟩ (.cons ⟨_, rfl⟩ (.cons ⟨_, rfl⟩ (.cons ⟨_, rfl⟩ (.cons ⟨_, rfl⟩ .nil)))))))))))⟩, ⟨_, PySem.W.mg_of X G h_c_DIGITS⟩, ⟨_, PySem.W.mg_of X G h_c_LETTERS⟩, ⟨_, PySem.W.mg_of X G h_c_MOST_MACHINES⟩, ⟨_, PySem.W.mg_of X G h_c_MOST_OPERANDS⟩, ⟨_, PySem.W.mg_of X G h_c_MOST_SIGNS⟩, ⟨_, PySem.W.mg_of X G h_c_VALUE_LIMIT⟩, ⟨_, _, m_SeatsError, h_sr_SeatsError, h_sg_SeatsError, h_sf_SeatsError⟩, ⟨_, m_BadTerm, (exf_cons ⟨_, m_BadTerm, PySem.W.exm_ref h_cbe_BadTerm h_chd_BadTerm h_cty_BadTerm h_ce_BadTerm_BadTerm⟩ exf_nil)⟩, ⟨_, m_BadTerm, ⟨h_xga_BadTerm, h_xgg_BadTerm, h_xbe_BadTerm, h_xhd_BadTerm⟩, h_xno_BadTerm⟩⟩,
    ⟨_, _, PySem.W.mg_of X G h_at_is_name, F_is_name⟩,
    ⟨_, _, PySem.W.mg_of X G h_at_is_number, F_is_number⟩,
    ⟨_, _, PySem.W.mg_of X G h_at_is_operand, F_is_operand⟩,
    ⟨_, _, _, m_Process, ⟨h_mk_Process, h_at_Process___init__, h_fn_Process___init__, h_kc_Process⟩, F_Process___init__⟩,
    ⟨_, _, ⟨_, _, _, m_Process, h_qr_Process, h_qg_Process, h_sc_Process_stop, h_sx_Process_stop⟩, F_Process_stop⟩,
    ⟨_, _, ⟨_, _, _, m_Process, h_qr_Process, h_qg_Process, h_sc_Process_call, h_sx_Process_call⟩, F_Process_call⟩,
    ⟨_, _, _, m_Process, k_Process, ⟨⟨h_at_Process___eq__, h_fn_Process___eq__, h_kp_Process___eq__⟩, I_Process___eq__⟩, F_Process___eq__⟩,
    ⟨_, _, _, m_Net, ⟨h_mk_Net, h_at_Net___init__, h_fn_Net___init__, h_kc_Net⟩, F_Net___init__⟩,
    ⟨_, _, PySem.W.mg_of X G h_at_rows_of, F_rows_of⟩,
    ⟨_, _, _, m_Process, k_Process, ⟨⟨h_at_Process___or__, h_fn_Process___or__, h_kp_Process___or__⟩, I_Process___or__⟩, F_Process___or__⟩,
    ⟨_, _, _, m_Net, k_Net, ⟨⟨h_at_Net___mul__, h_fn_Net___mul__, h_kp_Net___mul__⟩, I_Net___mul__⟩, F_Net___mul__⟩,
    ⟨_, _, _, m_Process, k_Process, ⟨⟨h_at_Process___rmul__, h_fn_Process___rmul__, h_kp_Process___rmul__⟩, I_Process___rmul__⟩, F_Process___rmul__⟩,
    ⟨_, _, _, m_Net, k_Net, ⟨⟨h_at_Net___len__, h_fn_Net___len__, h_kp_Net___len__⟩, I_Net___len__⟩, F_Net___len__⟩,
    ⟨_, _, _, m_Net, k_Net, ⟨⟨h_at_Net___getitem__, h_fn_Net___getitem__, h_kp_Net___getitem__⟩, I_Net___getitem__⟩, F_Net___getitem__⟩,
    ⟨_, _, _, m_Net, k_Net, ⟨⟨h_at_Net___eq__, h_fn_Net___eq__, h_kp_Net___eq__⟩, I_Net___eq__⟩, F_Net___eq__⟩,
    ⟨_, _, _, m_Net, k_Net, ⟨⟨h_at_Net___or__, h_fn_Net___or__, h_kp_Net___or__⟩, I_Net___or__⟩, F_Net___or__⟩,
    ⟨_, _, _, m_Net, k_Net, ⟨⟨h_at_Net___ior__, h_fn_Net___ior__, h_kp_Net___ior__⟩, I_Net___ior__⟩, F_Net___ior__⟩,
    ⟨_, _, _, m_Net, k_Net, ⟨⟨h_at_Net___rmul__, h_fn_Net___rmul__, h_kp_Net___rmul__⟩, I_Net___rmul__⟩, F_Net___rmul__⟩,
    ⟨_, _, PySem.W.mg_of X G h_at__law_cell_at, F__law_cell_at⟩,
    ⟨_, _, PySem.W.mg_of X G h_at__law_mixed, F__law_mixed⟩,
    ⟨_, _, PySem.W.mg_of X G h_at__law_row, F__law_row⟩,
    ⟨_, _, PySem.W.mg_of X G h_at__law_process, F__law_process⟩,
    ⟨_, _, PySem.W.mg_of X G h_at__law_is, F__law_is⟩,
    ⟨_, _, PySem.W.mg_of X G h_at__law_joined, F__law_joined⟩,
    ⟨_, _, PySem.W.mg_of X G h_at__law_times, F__law_times⟩,
    ⟨_, _, PySem.W.mg_of X G h_at__law_listed, F__law_listed⟩,
    ⟨_, _, PySem.W.mg_of X G h_at__law_extended, F__law_extended⟩,
    ⟨_, _, PySem.W.mg_of X G h_at__law_step, F__law_step⟩,
    ⟨_, _, PySem.W.mg_of X G h_at_law, F_law⟩,
    ⟨_, _, _, m_BadTerm, ⟨⟨_, _, _, _, _, _, _, _, _, _, _, _, _, _, _, h_xo_BadTerm, rfl⟩, h_xsa_BadTerm, h_xex_BadTerm, h_xty_BadTerm, h_xkc_BadTerm⟩, h_at_x_BadTerm, h_ft_x_BadTerm, h_xnf_BadTerm, F_x_BadTerm⟩⟩
end L06
namespace L06
open PySem L2 DL
noncomputable def g_is_name : Fn := fnOf N_is_name 1 (b_is_name)
noncomputable def g_is_number : Fn := fnOf N_is_number 1 (b_is_number)
noncomputable def g_is_operand : Fn := fnOf N_is_operand 1 (b_is_operand g_is_name g_is_number)
noncomputable def g_mk_Process : Fn := fnOf N_Process___init__ 5 (b_Process___init__)
noncomputable def g_Process_stop : Fn := fnOf N_Process_stop 0 (b_Process_stop g_mk_Process)
noncomputable def g_Process_call : Fn := fnOf N_Process_call 2 (b_Process_call g_is_name g_is_operand g_mk_Process)
noncomputable def gr_Process___eq__ : Nat → Fn
  | 0 => fun _ _ => none
  | n + 1 => fnOf N_Process___eq__ 2 (b_Process___eq__ (gr_Process___eq__ n))
theorem gs_Process___eq__ (n : Nat) : gr_Process___eq__ (n + 1) = fnOf N_Process___eq__ 2 (b_Process___eq__ (gr_Process___eq__ n)) := by rw [gr_Process___eq__]
theorem gz_Process___eq__ : gr_Process___eq__ 0 = fun _ _ => none := by rw [gr_Process___eq__]
noncomputable abbrev g_Process___eq__ : Fn := gr_Process___eq__ 4
noncomputable def g_q_mk_Net : Fn := fnOf N_Net___init__ 2 bq_Net___init__
noncomputable def g_mk_Net : Fn := fnOf N_Net___init__ 2 (b_Net___init__)
noncomputable def g_rows_of : Fn := fnOf N_rows_of 1 (b_rows_of)
noncomputable def g_Process___or__ : Fn := fnOf N_Process___or__ 2 (b_Process___or__ g_mk_Net g_rows_of)
noncomputable def g_Net___mul__ : Fn := fnOf N_Net___mul__ 2 (b_Net___mul__ g_mk_Net)
noncomputable def g_Process___rmul__ : Fn := fnOf N_Process___rmul__ 2 (b_Process___rmul__ g_Net___mul__ g_mk_Net)
noncomputable def g_Net___len__ : Fn := fnOf N_Net___len__ 1 (b_Net___len__)
noncomputable def g_Net___getitem__ : Fn := fnOf N_Net___getitem__ 2 (b_Net___getitem__)
noncomputable def g_Net___eq__ : Fn := fnOf N_Net___eq__ 2 (b_Net___eq__ g_Process___eq__)
noncomputable def g_Net___or__ : Fn := fnOf N_Net___or__ 2 (b_Net___or__ g_mk_Net g_rows_of)
noncomputable def g_Net___ior__ : Fn := fnOf N_Net___ior__ 2 (b_Net___ior__ g_rows_of)
noncomputable def g_Net___rmul__ : Fn := fnOf N_Net___rmul__ 2 (b_Net___rmul__ g_Net___mul__)
noncomputable def g__law_cell_at : Fn := fnOf N__law_cell_at 2 (b__law_cell_at)
noncomputable def g__law_mixed : Fn := fnOf N__law_mixed 2 (b__law_mixed)
noncomputable def g__law_row : Fn := fnOf N__law_row 2 (b__law_row g__law_mixed)
noncomputable def g__law_process : Fn := fnOf N__law_process 1 (b__law_process g_Process_call)
noncomputable def g__law_is : Fn := fnOf N__law_is 2 (b__law_is g_Net___getitem__ g_Net___len__)
noncomputable def g__law_joined : Fn := fnOf N__law_joined 2 (b__law_joined g_Net___or__ g_Process___or__ g_q_mk_Net)
noncomputable def g__law_times : Fn := fnOf N__law_times 2 (b__law_times g_Net___rmul__ g_Process___rmul__ g_q_mk_Net)
noncomputable def g__law_listed : Fn := fnOf N__law_listed 1 (b__law_listed g__law_process g_mk_Net g_q_mk_Net)
noncomputable def g__law_extended : Fn := fnOf N__law_extended 2 (b__law_extended g_Net___ior__)
noncomputable def g__law_step : Fn := fnOf N__law_step 5 (b__law_step g__law_extended g__law_is g__law_joined g__law_listed g__law_times)
noncomputable def g_law : Fn := fnV N_law 1 (b_law g_Net___eq__ g__law_cell_at g__law_is g__law_process g__law_row g__law_step g_mk_Net)
theorem f_law {P : Program} {w : World} {K : PySem.W.Frag} {mg : Str → Option Value} {base : Heap} (T : Txt K mg) {a : Addr} {fd : FuncData} (F : Fun K "law" "law" s_law a fd) : FnOk P w K mg base CX0 47 a fd P_law (spD ⟨K, mg⟩ g_law) := by
  have c_x_BadTerm := kx_BadTerm (P := P) (w := w) (base := base) T.t_x_BadTerm T.B.se_SeatsError
  have c_is_name := k_is_name (P := P) (w := w) (K := K) (mg := mg) (base := base) (gg := g_is_name) T.t_is_name T.B hf_X
  have c_is_number := k_is_number (P := P) (w := w) (K := K) (mg := mg) (base := base) (gg := g_is_number) T.t_is_number T.B hf_X
  have c_is_operand := k_is_operand (P := P) (w := w) (K := K) (mg := mg) (base := base) (gg := g_is_operand) T.t_is_operand T.B c_is_name c_is_number hf_X
  have c_mk_Process := k_mk_Process (P := P) (w := w) (K := K) (mg := mg) (base := base) (gg := g_mk_Process) T.t_mk_Process T.B hf_X
  have c_Process_stop := k_Process_stop (P := P) (w := w) (K := K) (mg := mg) (base := base) (gg := g_Process_stop) T.t_Process_stop T.B c_mk_Process hf_X
  have c_Process_call := k_Process_call (P := P) (w := w) (K := K) (mg := mg) (base := base) (gg := g_Process_call) T.t_Process_call T.B c_is_name c_is_operand c_mk_Process c_x_BadTerm hf_X
  have cs_0 : ∀ n : Nat, CalM P w K mg base "Process" "__eq__" P_Process___eq__ (0 + n * 9) (gr_Process___eq__ n) := by
    intro n
    induction n with
    | zero => exact (by rw [gz_Process___eq__]; exact z_Process___eq__ T.t_Process___eq__)
    | succ n ih => exact ((k_Process___eq__ (gg := gr_Process___eq__ (n + 1)) T.t_Process___eq__ T.B (v := (0 + n * 9)) (Nat.le_add_right _ _) ih (by rw [gs_Process___eq__]; exact hf_X)).mono (by omega))
  have c_Process___eq__ : CalM P w K mg base "Process" "__eq__" P_Process___eq__ 36 g_Process___eq__ := (cs_0 4)
  have c_q_mk_Net := k_q_mk_Net (P := P) (w := w) (K := K) (mg := mg) (base := base) (gg := g_q_mk_Net) T.t_mk_Net T.B hf_X
  have c_mk_Net := k_mk_Net (P := P) (w := w) (K := K) (mg := mg) (base := base) (gg := g_mk_Net) T.t_mk_Net T.B c_x_BadTerm hf_X
  have c_rows_of := k_rows_of (P := P) (w := w) (K := K) (mg := mg) (base := base) (gg := g_rows_of) T.t_rows_of T.B hf_X
  have c_Process___or__ := k_Process___or__ (P := P) (w := w) (K := K) (mg := mg) (base := base) (gg := g_Process___or__) T.t_Process___or__ T.B c_mk_Net c_rows_of hf_X
  have c_Net___mul__ := k_Net___mul__ (P := P) (w := w) (K := K) (mg := mg) (base := base) (gg := g_Net___mul__) T.t_Net___mul__ T.B c_mk_Net c_x_BadTerm hf_X
  have c_Process___rmul__ := k_Process___rmul__ (P := P) (w := w) (K := K) (mg := mg) (base := base) (gg := g_Process___rmul__) T.t_Process___rmul__ T.B c_Net___mul__ c_mk_Net hf_X
  have c_Net___len__ := k_Net___len__ (P := P) (w := w) (K := K) (mg := mg) (base := base) (gg := g_Net___len__) T.t_Net___len__ T.B hf_X
  have c_Net___getitem__ := k_Net___getitem__ (P := P) (w := w) (K := K) (mg := mg) (base := base) (gg := g_Net___getitem__) T.t_Net___getitem__ T.B hf_X
  have c_Net___eq__ := k_Net___eq__ (P := P) (w := w) (K := K) (mg := mg) (base := base) (gg := g_Net___eq__) T.t_Net___eq__ T.B c_Process___eq__ hf_X
  have c_Net___or__ := k_Net___or__ (P := P) (w := w) (K := K) (mg := mg) (base := base) (gg := g_Net___or__) T.t_Net___or__ T.B c_mk_Net c_rows_of hf_X
  have c_Net___ior__ := k_Net___ior__ (P := P) (w := w) (K := K) (mg := mg) (base := base) (gg := g_Net___ior__) T.t_Net___ior__ T.B c_rows_of c_x_BadTerm hf_X
  have c_Net___rmul__ := k_Net___rmul__ (P := P) (w := w) (K := K) (mg := mg) (base := base) (gg := g_Net___rmul__) T.t_Net___rmul__ T.B c_Net___mul__ hf_X
  have c__law_cell_at := k__law_cell_at (P := P) (w := w) (K := K) (mg := mg) (base := base) (gg := g__law_cell_at) T.t__law_cell_at T.B hf_X
  have c__law_mixed := k__law_mixed (P := P) (w := w) (K := K) (mg := mg) (base := base) (gg := g__law_mixed) T.t__law_mixed T.B hf_X
  have c__law_row := k__law_row (P := P) (w := w) (K := K) (mg := mg) (base := base) (gg := g__law_row) T.t__law_row T.B c__law_mixed hf_X
  have c__law_process := k__law_process (P := P) (w := w) (K := K) (mg := mg) (base := base) (gg := g__law_process) T.t__law_process T.B c_Process_call hf_X
  have c__law_is := k__law_is (P := P) (w := w) (K := K) (mg := mg) (base := base) (gg := g__law_is) T.t__law_is T.B c_Net___getitem__ c_Net___len__ hf_X
  have c__law_joined := k__law_joined (P := P) (w := w) (K := K) (mg := mg) (base := base) (gg := g__law_joined) T.t__law_joined T.B c_Net___or__ c_Process___or__ c_q_mk_Net hf_X
  have c__law_times := k__law_times (P := P) (w := w) (K := K) (mg := mg) (base := base) (gg := g__law_times) T.t__law_times T.B c_Net___rmul__ c_Process___rmul__ c_q_mk_Net hf_X
  have c__law_listed := k__law_listed (P := P) (w := w) (K := K) (mg := mg) (base := base) (gg := g__law_listed) T.t__law_listed T.B c__law_process c_mk_Net c_q_mk_Net hf_X
  have c__law_extended := k__law_extended (P := P) (w := w) (K := K) (mg := mg) (base := base) (gg := g__law_extended) T.t__law_extended T.B c_Net___ior__ hf_X
  have c__law_step := k__law_step (P := P) (w := w) (K := K) (mg := mg) (base := base) (gg := g__law_step) T.t__law_step T.B c__law_extended c__law_is c__law_joined c__law_listed c__law_times hf_X
  exact fn_d F sc_law (fun ds ω r e => (hf_V ds ω r e).1) (fun cdv A outer s H E n hr => d_law n T.B c_Net___eq__ c__law_cell_at c__law_is c__law_process c__law_row c__law_step c_mk_Net hr) fun ds ω r e => (hf_V ds ω r e).2
theorem walk {l : PySem.W.OpenLaw} {q : Program} {loose : List Str} {XP : (Str → Option Value) → Heap → Prop} {YP : World → Heap → Prop} {d : DefRec} {K : Params → PySem.W.Frag} (hn : l.most = some 63) (hdf : d.params.defaults = [])
    (hY : ∀ (w : World) (h : Heap), YP w h → (K w.params).In h) (F : ∀ (w : World) (mg : Str → Option Value) (h : Heap), (K w.params).In h → h.Ns mainGlobals mg → Txt (K w.params) mg) (law : ∀ ns : List Int, ns.length ≤ 63 → ∃ ω, g_law [.scr ns] [] = some (.val (.bl true) ω)) (hd : d.name = "law" := by rfl) :
    PySem.W.WalkO q loose XP YP l.row.toRowW d [] (fun f vs => PySem.call f vs) :=
  L2.walk_of (n := 63) (k := 47) (x := "_law_script") (CX := fun _ => CX0) (sp := fun w => spLaw (K w.params)) hn (by decide) hdf ⟨rfl, by decide, by decide⟩ hY (fun w mg fa h KX G hfa => by
    have T := F w mg h KX G
    rw [hd] at hfa
    obtain ⟨a, fd, h1, Fu⟩ := T.t_law.ex
    rw [hfa] at h1
    cases h1
    refine ⟨fd, fun s v => ?_, fun base _ _ => law_fnE (f_law T Fu) law⟩
    obtain ⟨oc, od, kV, doc, pm, an, cdv, ct, osl, rfl, lk, hcd⟩ := Fu.ex
    exact .of_eq rfl) (fun _ _ a ns hl _ hS => ⟨a, ns, rfl, hS, hl, fun _ => rfl⟩) fun _ _ _ _ _ z => z
end L06
namespace L06
open PySem L2 DL
/-! ### names -/
def lettersL : List Nat := (Str.ofString "abcdefghijklmnopqrstuvwxyz").cps.toList
def digitsL : List Nat := (Str.ofString "0123456789").cps.toList
def reserved : List Str := ["stop", "new", "if", "then", "else", "put", "get", "channel", "at", "define", "start"]
/-- what a name is -/
def nameB (x : Str) : Bool := !(decide (x.length < 1) || decide (8 < x.length) || reserved.contains x) && (decide (x.cps.toList.headD 0 ∈ lettersL) && x.cps.toList.all fun c => decide (c ∈ lettersL) || decide (c ∈ digitsL))
theorem c_isname {x : Str} (ω : List Cell) (h : x.length ≤ 1000) : g_is_name [.str x] ω = some (.val (.bl (nameB x)) ω) := by
  refine fn_rt rfl ?_
  unfold b_is_name
  have l0 : ∀ r1 : Sl, (uo lenD (vW 0)) [.fz (.str x), r1] ω = some (.val (.int x.length) ω) := fun r1 => uo_ev (x := .str x) (ω1 := ω) rfl rfl (len_str h)
  have t1 : ∀ r1 : Sl, notM (truM (uo (isiB "str") (vW 0))) [.fz (.str x), r1] ω = some (.val false ω) := fun r1 => notM_ev (b := true) (truM_ev (uo_ev (x := .str x) (ω1 := ω) rfl rfl (isi_ss x)))
  have t : (orM (notM (truM (uo (isiB "str") (vW 0)))) (orM (tst (bo ltD (uo lenD (vW 0)) (M.pure (.int 1)))) (orM (tst (bo gtD (uo lenD (vW 0)) (M.pure (.int 8)))) (tst (bo inD (vW 0) (M.pure (.tup (([("stop" : Str), "new", "if", "then", "else", "put", "get", "channel", "at", "define", "start"] : List Str).map D.str)))))))) (startE N_is_name [.str x]) ω = some (.val (decide (x.length < 1) || decide (8 < x.length) || reserved.contains x) ω) := by
    refine orM_f (t1 _) ?_
    by_cases h1 : x.length < 1
    · rw [decide_eq_true h1]
      exact orM_t (tst_ev (bo_ev (y := .int 1) (l0 _) rfl rfl rfl (ltD_t (by omega))))
    · rw [decide_eq_false h1]
      refine orM_f (tst_ev (bo_ev (y := .int 1) (l0 _) rfl rfl rfl (ltD_f (by omega)))) ?_
      by_cases h2 : 8 < x.length
      · rw [decide_eq_true h2]
        exact orM_t (tst_ev (bo_ev (y := .int 8) (l0 _) rfl rfl rfl (gtD_t (by omega))))
      · rw [decide_eq_false h2]
        refine orM_f (tst_ev (bo_ev (y := .int 8) (l0 _) rfl rfl rfl (gtD_f (by omega)))) ?_
        exact tst_ev (bo_ev (x := .str x) (ω1 := ω) rfl rfl rfl rfl (in_strs x reserved))
  cases hb : (decide (x.length < 1) || decide (8 < x.length) || reserved.contains x) with
  | true =>
    rw [hb] at t
    refine Eq.trans (seqS_rt (d := .bl (nameB x)) (ω' := ω) ?_) rfl
    rw [ifS_t t]
    refine retS_ev ?_
    show some (R.val (D.bl false) ω) = _
    unfold nameB
    rw [hb]
    rfl
  | false =>
    rw [hb] at t
    have h1 : 1 ≤ x.length := by
      simp only [Bool.or_eq_false_iff, decide_eq_false_iff_not] at hb
      omega
    refine Eq.trans (seqS_nx (ρ' := startE N_is_name [.str x]) (ω' := ω) (by rw [ifS_f t])) ?_
    refine retS_ev ?_
    unfold nameB
    rw [hb, Bool.not_false, Bool.true_and]
    refine andV_ev (bo_ev (x := .str ⟨#[x.cps.toList.headD 0]⟩) (y := .str "abcdefghijklmnopqrstuvwxyz") (ω1 := ω) (bo_ev (x := .str x) (y := .int 0) (ω1 := ω) rfl rfl rfl rfl (ix_str0 h h1)) rfl rfl rfl (in_sign _ _)) ?_
    exact all_signs h rfl fun c hc => orV_ev (bo_ev (x := .str ⟨#[c]⟩) (y := .str "abcdefghijklmnopqrstuvwxyz") (ω1 := ω) rfl rfl rfl rfl (in_sign _ c)) (bo_ev (x := .str ⟨#[c]⟩) (y := .str "0123456789") (ω1 := ω) rfl rfl rfl rfl (in_sign _ c))
def numB (i : Int) : Bool := decide (-1000000000000000000000000000000 < i) && decide (i < 1000000000000000000000000000000)
theorem c_isnum {i : Int} (ω : List Cell) : g_is_number [.int i] ω = some (.val (.bl (numB i)) ω) := by
  refine fn_rt rfl ?_
  unfold b_is_number
  refine retS_ev ?_
  rw [andV_t (uo_ev (x := .int i) (ω1 := ω) rfl rfl (isi_ii i)), andV_t (notV_ev (b := false) (uo_ev (x := .int i) (ω1 := ω) rfl rfl (isi_ib i)))]
  exact chain_int rfl rfl rfl
theorem c_isnumS {x : Str} (ω : List Cell) : g_is_number [.str x] ω = some (.val (.bl false) ω) := by
  refine fn_rt rfl ?_
  unfold b_is_number
  refine retS_ev ?_
  rw [andV_f (uo_ev (x := .str x) (ω1 := ω) rfl rfl (isi_si x))]
/-- an operand: a number or a text -/
inductive Opd where
  | num (i : Int) | txt (x : Str)
def Opd.d : Opd → D
  | .num i => .int i
  | .txt x => .str x
def Opd.ok : Opd → Bool
  | .num i => numB i
  | .txt x => nameB x
def Opd.short : Opd → Prop
  | .num _ => True
  | .txt x => x.length ≤ 1000 ∧ PySem.PyData.strOk x = true
theorem c_isname_num {i : Int} (ω : List Cell) : g_is_name [.int i] ω = some (.val (.bl false) ω) := by
  refine fn_rt rfl ?_
  unfold b_is_name
  refine Eq.trans (seqS_rt (d := .bl false) (ω' := ω) ?_) rfl
  rw [ifS_t (orM_t (notM_ev (b := false) (truM_ev (uo_ev (x := .int i) (ω1 := ω) rfl rfl (isi_is i)))))]
  rfl
theorem c_isop {o : Opd} (ω : List Cell) (h : o.short) : g_is_operand [o.d] ω = some (.val (.bl o.ok) ω) := by
  refine fn_rt rfl ?_
  unfold b_is_operand
  refine retS_ev ?_
  cases o with
  | num i =>
    have e := orV_ev (fa := calM g_is_number (consM (vF 0) (M.pure []))) (fb := calM g_is_name (consM (vF 0) (M.pure []))) (ρ := startE N_is_operand [.int i]) (ω := ω) (calM_ev (ds := [.int i]) (ω1 := ω) rfl (c_isnum ω)) (calM_ev (ds := [.int i]) (ω1 := ω) rfl (c_isname_num ω))
    rw [Bool.or_false] at e
    exact e
  | txt x => exact orV_ev (b := false) (calM_ev (ds := [.str x]) (ω1 := ω) rfl (c_isnumS ω)) (calM_ev (ds := [.str x]) (ω1 := ω) rfl (c_isname ω h.1))
theorem Opd.fine {o : Opd} (h : o.short) : DL.fine o.d = true := by
  cases o with
  | num i => rfl
  | txt x => exact fineS h.2
/-! ### cell_at, mixed, row: alike in every law -/
def cellI (ns : List Int) (k : Int) : Int := if k < ns.length then ns.getD k.toNat 0 else 0
theorem e_cell {ns : List Int} {k : Int} (ω : List Cell) (h : 0 ≤ k) : b__law_cell_at (startE N__law_cell_at [.scr ns, .int k]) ω = some (.rt (.int (cellI ns k)) ω) := by
  by_cases hk : k < ns.length
  · have e : atI ns k = some (ns.getD k.toNat 0) := atI_some h (by
      have hk' : k.toNat < ns.length := by omega
      simp [hk'])
    unfold b__law_cell_at
    simp [startE, seqS, ifS, retS, bindS, tst, bo, uo, op2, op1, view, M.bind, M.pure, vF, vW, asB, ltD, cmpI, lenD, ixD, hk, e, cellI]
  · unfold b__law_cell_at
    simp [startE, seqS, ifS, retS, bindS, tst, bo, uo, op2, op1, view, M.bind, M.pure, vF, vW, asB, ltD, cmpI, lenD, ixD, hk, cellI]
theorem c_cell {ns : List Int} {k : Int} (ω : List Cell) (h : 0 ≤ k) : g__law_cell_at [.scr ns, .int k] ω = some (.val (.int (cellI ns k)) ω) := fn_rt rfl (e_cell ω h)
def mixedI (c k : Int) : Int := (((c % 2147483647 + 7919 * k + 104729) ^ 5 % 2147483647 + k) * 40692) % 2147483629
theorem powD_five {i : Int} (h : i.natAbs < 2 ^ 64) : powD (.int i) (.int 5) = some (.int (i ^ 5)) := powD_int (j := 5) ⟨by decide, by decide, h⟩
theorem e_mixed {c k : Int} (ω : List Cell) (h : 0 ≤ k ∧ k ≤ 1000) : b__law_mixed (startE N__law_mixed [.int c, .int k]) ω = some (.rt (.int (mixedI c k)) ω) := by
  have h2 : (c % 2147483647 + 7919 * k + 104729).natAbs < 2 ^ 64 := by omega
  unfold b__law_mixed
  simp [startE, seqS, setS, retS, bindS, bo, uo, op2, op1, view, M.bind, M.pure, vF, vW, addD, intD, modD_int, mulD_r, mulD_l, powD_five h2, mixedI]
theorem c_mixed {c k : Int} (ω : List Cell) (h : 0 ≤ k ∧ k ≤ 1000) : g__law_mixed [.int c, .int k] ω = some (.val (.int (mixedI c k)) ω) := fn_rt rfl (e_mixed ω h)
/-- the row: the digits of the rest, then mixed numbers -/
def rowGo (c : Int) : Nat → Nat → Int → List Int
  | 0, _, _ => []
  | n + 1, k, rest => if 0 < rest then rest % 1000 :: rowGo c n (k + 1) (rest / 1000) else mixedI c k % 1000 :: rowGo c n (k + 1) rest
def restI (c : Int) : Int := if 10 ^ 18 ≤ (if c < 0 then -c else c) then (if c < 0 then -c else c) else 0
def rowI (c : Int) (n : Nat) : List Int := rowGo c n 0 (restI c)
theorem rowGo_len (c : Int) : ∀ n k r, (rowGo c n k r).length = n
  | 0, _, _ => rfl
  | n + 1, k, r => by unfold rowGo; split <;> simp [rowGo_len c n]
theorem rowGo_bd (c : Int) : ∀ n k r, ∀ x ∈ rowGo c n k r, 0 ≤ x ∧ x < 1000
  | 0, _, _, x, h => by cases h
  | n + 1, k, r, x, h => by
    unfold rowGo at h
    split at h
    · rcases List.mem_cons.mp h with rfl | h
      · omega
      · exact rowGo_bd c n _ _ x h
    · rcases List.mem_cons.mp h with rfl | h
      · omega
      · exact rowGo_bd c n _ _ x h
theorem rowI_len (c : Int) (n : Nat) : (rowI c n).length = n := rowGo_len c n 0 _
theorem rowI_bd (c : Int) (n : Nat) : ∀ x ∈ rowI c n, 0 ≤ x ∧ x < 1000 := rowGo_bd c n 0 _
abbrev dInts (xs : List Int) : D := .lst (xs.map D.int)
theorem e_row {c : Int} {n : Nat} (ω : List Cell) (h : n ≤ 1000) : b__law_row g__law_mixed (startE N__law_row [.int c, .int n]) ω = some (.rt (dInts (rowI c n)) ω) := by
  have hp : powD (.int 10) (.int 18) = some (.int (10 ^ 18)) := powD_int (j := 18) ⟨by decide, by decide, by decide⟩
  -- the loop
  obtain ⟨ρ', ω', e, k, rest, acc, he, rfl, hr⟩ := forGo_thru (T := nmT 4) (F := lb__law_row_1 g__law_mixed)
    (fun i ρ ω' => ∃ (k : Sl) (rest : Int) (acc : List Int), ρ = [.fz (.int c), .fz (.int n), .ow (acc.map D.int), .fz (.int rest), k] ∧ ω' = ω ∧ acc ++ rowGo c (n - i) i rest = rowI c n ∧ acc.length = i)
    (items := rangeD 0 n) (ρ := [.fz (.int c), .fz (.int n), .ow [], .fz (.int (restI c)), .no]) (ω := ω) ⟨.no, restI c, [], rfl, rfl, rfl, rfl⟩ (by
      rintro j d ρ ω' hd ⟨k, rest, acc, rfl, rfl, hr, hl⟩
      obtain ⟨hj, rfl⟩ := rangeD_get hd
      have hz : acc.length < sizeLine := by rw [sizeLine_eq]; omega
      have en : n - j = (n - (j + 1)) + 1 := by omega
      rw [en] at hr
      unfold rowGo at hr
      by_cases hrest : 0 < rest
      · rw [if_pos hrest] at hr
        refine ⟨_, _, _, rfl, ?_, .fz (.int (0 + j)), rest / 1000, acc ++ [rest % 1000], rfl, rfl, by simpa using hr, by simp [hl]⟩
        simp [lb__law_row_1, ifS, bindS, tst, asB, bo, uo, op2, op1, view, M.bind, M.pure, vF, vW, gtD, cmpI, hrest, seqS, setS, appS, intD, modD_int, fdivD_r, hz]
      · rw [if_neg hrest] at hr
        refine ⟨_, _, _, rfl, ?_, .fz (.int (0 + j)), rest, acc ++ [mixedI c j % 1000], rfl, rfl, by simpa using hr, by simp [hl]⟩
        have hc := c_mixed (c := c) (k := j) ω' ⟨by omega, by omega⟩
        simp [lb__law_row_1, ifS, bindS, tst, asB, bo, uo, op2, op1, view, M.bind, M.pure, vF, vW, gtD, cmpI, hrest, seqS, setS, appS, intD, modD_int, fdivD_r, hz, calM, consM, callM, hc])
  have hn : ((rangeD 0 n).length) = n := by simp [rangeD]
  rw [hn] at hr
  have hacc : acc = rowI c n := by
    have := hr.1
    simpa [rowGo] using this
  subst hacc
  have h62 : n ≤ 16777216 := by omega
  have e2 : (ifS (tst (bo geD (uo absD (vW 0)) (bo powD (M.pure (.int 10)) (M.pure (.int 18))))) (setS 3 (uo absD (vW 0))) (fun ρ ω => some (.nx ρ ω))) [.fz (.int c), .fz (.int n), .ow [], .fz (.int 0), .no] ω' = some (.nx [.fz (.int c), .fz (.int n), .ow [], .fz (.int (restI c)), .no] ω') := by
    by_cases hc : 10 ^ 18 ≤ (if c < 0 then -c else c)
    · have er : restI c = (if c < 0 then -c else c) := by unfold restI; rw [if_pos hc]
      rw [er, ifS_t (ω' := ω')]
      · rfl
      · simp only [tst, asB, bo, uo, op2, op1, view, M.bind, M.pure, vW, geD, cmpI, absD, hp, List.getElem?_cons_zero]
        rw [decide_eq_true hc]
    · have er : restI c = 0 := by unfold restI; rw [if_neg hc]
      rw [er, ifS_f (ω' := ω')]
      simp only [tst, asB, bo, uo, op2, op1, view, M.bind, M.pure, vW, geD, cmpI, absD, hp, List.getElem?_cons_zero]
      rw [decide_eq_false hc]
  unfold b__law_row
  rw [seqS_nx (ρ' := [.fz (.int c), .fz (.int n), .ow [], .no, .no]) (ω' := ω') (by rfl), seqS_nx (ρ' := [.fz (.int c), .fz (.int n), .ow [], .fz (.int 0), .no]) (ω' := ω') (by rfl), seqS_nx e2, seqS_nx (forS_nx (bind_ev (show (vF 1) _ ω' = some (.val (.int n) ω') from rfl) |>.trans (rng1_nat h62)) e), he]
  rfl
theorem c_row {c : Int} {n : Nat} (ω : List Cell) (h : n ≤ 1000) : g__law_row [.int c, .int n] ω = some (.val (dInts (rowI c n)) ω) := fn_rt rfl (e_row ω h)
/-! ### processes -/
abbrev dPr (kind : Str) (parts : List D) (depth size : Int) : D := .obj "Process" [("kind", .str kind), ("parts", .tup parts), ("depth", .int depth), ("size", .int size)]
theorem c_mk {kind : Str} {parts : List D} {depth size : Int} (ω : List Cell) : g_mk_Process [.oid ω.length, .str kind, .tup parts, .int depth, .int size] (ω ++ [.obj "Process" []]) = some (.val .non (ω ++ [.obj "Process" [("kind", .str kind), ("parts", .tup parts), ("depth", .int depth), ("size", .int size)]])) := by
  have f1 : ∀ (f : Str) (d : D) (fl : List (Str × D)) (fv : M D) (r1 r2 r3 r4 : Sl), fl.length < 1000 → fv [.fz (.oid ω.length), r1, r2, r3, r4] (ω ++ [.obj "Process" fl]) = some (.val d (ω ++ [.obj "Process" fl])) →
      fldS ["Process"] f (vF 0) fv [.fz (.oid ω.length), r1, r2, r3, r4] (ω ++ [.obj "Process" fl]) = some (.nx [.fz (.oid ω.length), r1, r2, r3, r4] (ω ++ [.obj "Process" (putD f d fl)])) := by
    intro f d fl fv r1 r2 r3 r4 hl h
    unfold fldS
    rw [bindS_ev h, bindS_ev (a := .oid ω.length) (ω1 := ω ++ [.obj "Process" fl]) rfl]
    simp only [last_cell]
    rw [if_pos ⟨rfl, hl⟩, set_last]
  refine fn_nx (ρ := [.fz (.oid ω.length), .fz (.str kind), .fz (.tup parts), .fz (.int depth), .fz (.int size)]) rfl ?_
  unfold b_Process___init__
  refine Eq.trans (seqS_nx (f1 _ (.str kind) [] _ _ _ _ _ (by decide) rfl)) ?_
  refine Eq.trans (seqS_nx (f1 _ (.tup parts) [("kind", .str kind)] _ _ _ _ _ (by simp) rfl)) ?_
  refine Eq.trans (seqS_nx (f1 _ (.int depth) [("kind", .str kind), ("parts", .tup parts)] _ _ _ _ _ (by simp) rfl)) ?_
  exact f1 _ (.int size) [("kind", .str kind), ("parts", .tup parts), ("depth", .int depth)] _ _ _ _ _ (by simp) rfl
theorem mk_ev {kind : Str} {parts : List D} {depth size : Int} {fs : M (List D)} {ρ : Rho} {ω ω1 : List Cell} (ha : fs ρ ω = some (.val [.str kind, .tup parts, .int depth, .int size] ω1)) (no : noOL parts = true) : (fs.bind (mkG "Process" g_mk_Process)) ρ ω = some (.val (dPr kind parts depth size) ω1) :=
  mkG_ev ha (c_mk ω1) (by simp [noOF, noO, no])
abbrev bad (f : Str) : Exc := ⟨"BadTerm", [("field", .str f)]⟩
theorem Opd.noO (o : Opd) : DL.noO o.d = true := by cases o <;> rfl
/-! ### call -/
abbrev dOps (os : List Opd) : List D := os.map Opd.d
theorem call_name {nm : Str} {gv : D} (ω : List Cell) (hl : nm.length ≤ 1000) (h : nameB nm = false) : g_Process_call [.str nm, gv] ω = some (.exc (bad "name") ω) := by
  refine fn_ex (ρ := startE N_Process_call [.str nm, gv]) rfl ?_
  unfold b_Process_call
  refine seqS_ex ?_
  rw [ifS_t (notM_ev (b := false) (truM_ev (calM_ev (ds := [.str nm]) (ω1 := ω) rfl (by rw [c_isname ω hl, h]))))]
  rfl
theorem call_start {nm : Str} {gv gv' : D} {os : List Opd} (ω : List Cell) (hl : nm.length ≤ 1000) (h : nameB nm = true) (hv : view ω gv = some gv') (ht : tupleD gv' = some (.tup (dOps os))) (K : MS) :
    seqS (ifS (notM (truM (calM g_is_name (consM (vF 0) (M.pure []))))) (raiS "BadTerm" "field" (M.pure (.str "name"))) (fun ρ ω => some (.nx ρ ω))) (seqS (setS 2 (uo tupleD (vW 1))) K) (startE N_Process_call [.str nm, gv]) ω = K [.fz (.str nm), .fz gv, .fz (.tup (dOps os)), .no] ω := by
  refine Eq.trans (seqS_nx (ρ' := startE N_Process_call [.str nm, gv]) (ω' := ω) (ifS_f (notM_ev (b := true) (truM_ev (calM_ev (ds := [.str nm]) (ω1 := ω) rfl (by rw [c_isname ω hl, h])))))) ?_
  exact seqS_nx (setS_ev (uo_ev (x := gv) (ω1 := ω) rfl hv ht))
theorem call_test {nm : Str} {gv : D} {os : List Opd} (ω : List Cell) (hs : ∀ o ∈ os, o.short) (hl : os.length ≤ 100) : (orM (tst (bo gtD (uo lenD (vW 2)) (M.pure (.int 4)))) (notM (truM (uo allD ((cm_Process_call_1 g_is_operand).bind fun ds => M.pure (.lst ds)))))) [.fz (.str nm), .fz gv, .fz (.tup (dOps os)), .no] ω = some (.val (decide (4 < os.length) || !(os.all Opd.ok)) ω) := by
  refine orM_ev ?_ ?_
  · refine tst_ev (bo_ev (x := .int os.length) (y := .int 4) (ω1 := ω) (uo_ev (x := .tup (dOps os)) (ω1 := ω) rfl rfl (by simp [lenD])) rfl rfl rfl ?_)
    by_cases h : 4 < os.length
    · rw [decide_eq_true h]; exact gtD_t (by omega)
    · rw [decide_eq_false h]; exact gtD_f (by omega)
  · refine notM_ev (truM_ev ?_)
    unfold cm_Process_call_1
    refine uo_ev (bind_ev (lcM_map (xs := os) (ω1 := ω) Opd.d (fun o => .bl o.ok) rfl (by rw [sizeLine_eq]; omega) fun o ho => ⟨_, rfl, calM_ev (ds := [o.d]) (ω1 := ω) rfl (c_isop ω (hs o ho))⟩)) rfl ?_
    rw [show os.map (fun o => D.bl o.ok) = (os.map Opd.ok).map D.bl by simp, allD_bls]
    simp [List.all_map, Function.comp_def]
theorem call_ops {nm : Str} {gv gv' : D} {os : List Opd} (ω : List Cell) (hl : nm.length ≤ 1000) (h : nameB nm = true) (hv : view ω gv = some gv') (ht : tupleD gv' = some (.tup (dOps os))) (hs : ∀ o ∈ os, o.short) (hn : os.length ≤ 100) (hb : (decide (4 < os.length) || !(os.all Opd.ok)) = true) : g_Process_call [.str nm, gv] ω = some (.exc (bad "operands") ω) := by
  refine fn_ex (ρ := [.fz (.str nm), .fz gv, .fz (.tup (dOps os)), .no]) rfl ?_
  unfold b_Process_call
  rw [call_start ω hl h hv ht]
  have t := call_test (nm := nm) (gv := gv) ω hs hn
  rw [hb] at t
  refine seqS_ex ?_
  rw [ifS_t t]
  rfl
theorem call_ok {nm : Str} {gv gv' : D} {os : List Opd} (ω : List Cell) (hl : nm.length ≤ 1000) (h : nameB nm = true) (hv : view ω gv = some gv') (ht : tupleD gv' = some (.tup (dOps os))) (hs : ∀ o ∈ os, o.short) (hn : os.length ≤ 100) (hb : (decide (4 < os.length) || !(os.all Opd.ok)) = false) : g_Process_call [.str nm, gv] ω = some (.val (dPr "call" [.str nm, .tup (dOps os)] 1 1) ω) := by
  refine fn_rt rfl ?_
  unfold b_Process_call
  rw [call_start ω hl h hv ht]
  have t := call_test (nm := nm) (gv := gv) ω hs hn
  rw [hb] at t
  refine Eq.trans (seqS_nx (ifS_f t)) ?_
  refine retS_ev (mk_ev (cons_ev (d := .str "call") (ω1 := ω) rfl (cons_ev (tup_ev (ds := [.str nm, .tup (dOps os)]) (ω1 := ω) rfl (by simp)) (ds := [.int 1, .int 1]) (ω2 := ω) rfl)) ?_)
  have : noOL (dOps os) = true := by
    clear hs hn hb t ht
    induction os with
    | nil => rfl
    | cons o os ih => simp [noOL, Opd.noO, ih]
  simp [noOL, DL.noO, this]
end L06
namespace L06
open PySem L2 DL
local macro_rules
  | `(tactic| fail "as") => `(tactic| focus first
    | (simp only [tupT, lstT, consT, nilT, nmT, view, List.length_cons, List.length_nil, Nat.reduceAdd, if_true, List.set_cons_zero, List.set_cons_succ]; exact rfl)
    | exact rfl)
local macro_rules
  | `(tactic| fail "fi") => `(tactic| focus first
    | with_reducible assumption
    | exact rfl
    | (apply fine_of; (simp only [DL.plain, plainL, Bool.and_true, Bool.true_and]; first | done | decide +kernel); (simp only [dep, depL]; first | done | decide | omega))
    | (apply fine_of; (simp [DL.plain, plainL, *]; done); (simp only [dep, depL]; first | done | decide | omega)))
local macro_rules
  | `(tactic| fail "sd") => `(tactic| focus first
    | with_reducible assumption
    | with_reducible exact And.left (by assumption)
    | omega
    | decide
    | (simp only [List.length_cons, List.length_nil, List.length_append, List.length_map, List.length_range]; omega)
    | (simp; done)
    | (simp; omega)
    | (decide +kernel))
local macro_rules
  | `(tactic| fail "vw") => `(tactic| focus first
    | with_reducible assumption
    | exact rfl)
local macro_rules
  | `(tactic| fail "bt") => `(tactic| focus first
    | with_reducible assumption
    | with_reducible rfl
    | (exact decide_eq_true (by first | with_reducible assumption | omega))
    | (exact decide_eq_false (by first | with_reducible assumption | omega))
    | (simp only [Bool.and_eq_true, Bool.or_eq_true, Bool.not_eq_true', Bool.not_eq_false', Bool.and_eq_false_iff, Bool.or_eq_false_iff, decide_eq_true_eq, decide_eq_false_iff_not, Bool.not_true, Bool.not_false]; omega)
    | exact rfl
    | (simp [*]; done)
    | (decide +kernel))
local macro_rules
  | `(tactic| fail "op") => `(tactic| focus first
    | with_reducible assumption
    | with_reducible exact addD_int _ _
    | with_reducible exact subD_int _ _
    | with_reducible exact ltD_d _ _
    | with_reducible exact gtD_d _ _
    | with_reducible exact leD_d _ _
    | with_reducible exact geD_d _ _
    | with_reducible exact eqD_int _ _
    | with_reducible exact neD_int _ _
    | with_reducible exact lenD_lstM
    | with_reducible exact lenD_tupM
    | with_reducible exact intD_int _
    | with_reducible exact intD_bl _
    | ((with_reducible apply ixD_ints); fail "sd"; fail "sd")
    | ((with_reducible apply ixD_sgn); fail "sd"; fail "sd"; fail "sd")
    | ((with_reducible apply modD_int); fail "sd")
    | ((with_reducible apply mulD_l); fail "sd"; fail "sd")
    | ((with_reducible apply mulD_r); fail "sd"; fail "sd")
    | ((with_reducible apply fdivD_r); fail "sd"; fail "sd")
    | ((with_reducible apply eqD_str); fail "sd"; fail "sd")
    | ((with_reducible apply neD_str); fail "sd"; fail "sd")
    | ((with_reducible apply fldD_ev); exact rfl; exact rfl)
    | ((with_reducible apply neD_sameR); exact rfl; fail "fi")
    | ((with_reducible apply neD_sameL); exact rfl; fail "fi")
    | ((with_reducible apply eqD_sameR); exact rfl; fail "fi")
    | ((with_reducible apply eqD_sameL); exact rfl; fail "fi")
    | ((with_reducible apply mulSD_ev); fail "sd"; fail "sd"; fail "sd"; fail "sd")
    | with_reducible exact strD_str _
    | ((with_reducible apply strD_int); fail "sd")
    | ((with_reducible apply joinD_lst); fail "sd")
    | ((with_reducible apply addD_lstL); fail "sd")
    | ((with_reducible apply addD_tup); fail "sd")
    | ((with_reducible apply addD_strL); fail "sd")
    | exact rfl)
local macro_rules
  | `(tactic| fail "cl") => `(tactic| focus with_reducible assumption)
local macro_rules
  | `(tactic| fail "ev") => `(tactic| focus first
    | with_reducible assumption
    | exact rfl)
local macro_rules
  | `(tactic| fail "ev") => `(tactic| focus first
    | with_reducible assumption
    | with_reducible exact pure_ev
    | ((with_reducible apply y_fF); exact rfl)
    | ((with_reducible apply y_fz); exact rfl)
    | ((with_reducible apply y_ow); exact rfl)
    | ((with_reducible apply bo_ev); fail "ev"; fail "ev"; fail "vw"; fail "vw"; fail "op")
    | ((with_reducible apply uo_ev); fail "ev"; fail "vw"; fail "op")
    | ((with_reducible apply tst_ev); fail "ev")
    | ((with_reducible apply truM_ev); fail "ev")
    | ((with_reducible apply y_truT); fail "ev")
    | ((with_reducible apply y_truL); fail "ev")
    | ((with_reducible apply cons_ev); fail "ev"; fail "ev")
    | ((with_reducible apply calM_ev); fail "ev"; fail "cl")
    | ((with_reducible apply y_lenOk); fail "sd")
    | ((with_reducible apply y_mkTup); fail "sd")
    | ((with_reducible apply y_mkLst); fail "sd")
    | ((with_reducible apply rng1_nat); fail "sd")
    | ((with_reducible apply rng1_int); fail "sd"; fail "sd")
    | ((with_reducible apply notM_ev); fail "ev")
    | ((with_reducible apply notV_ev); fail "ev")
    | ((with_reducible apply orM_ev); fail "ev"; fail "ev")
    | ((with_reducible apply andM_ev); fail "ev"; fail "ev")
    | ((with_reducible apply orV_ev); fail "ev"; fail "ev")
    | ((with_reducible apply andV_ev); fail "ev"; fail "ev")
    | ((with_reducible apply y_orT); fail "ev"; fail "bt")
    | ((with_reducible apply y_orF); fail "ev"; fail "bt"; fail "ev")
    | ((with_reducible apply y_andF); fail "ev"; fail "bt")
    | ((with_reducible apply y_andT); fail "ev"; fail "bt"; fail "ev")
    | ((with_reducible apply y_orVT); fail "ev"; fail "bt")
    | ((with_reducible apply y_orVF); fail "ev"; fail "bt"; fail "ev")
    | ((with_reducible apply y_andVF); fail "ev"; fail "bt")
    | ((with_reducible apply y_andVT); fail "ev"; fail "bt"; fail "ev")
    | ((with_reducible apply y_ifT); fail "ev"; fail "bt"; fail "ev")
    | ((with_reducible apply y_ifF); fail "ev"; fail "bt"; fail "ev")
    | with_reducible exact asI_ev
    | with_reducible exact items_lst
    | with_reducible exact items_tup
    | ((with_reducible apply sl_lst_to); fail "sd")
    | ((with_reducible apply sl_lst_from); fail "sd")
    | ((with_reducible apply sl_tup_to); fail "sd")
    | ((with_reducible apply sl_tup_from); fail "sd")
    | ((with_reducible apply sl_lst_two); fail "sd"; fail "sd")
    | ((with_reducible apply binO_oo); fail "ev"; fail "ev"; fail "cl")
    | ((with_reducible apply cmpO_oo); fail "ev"; fail "ev"; fail "cl")
    | ((with_reducible apply cmpN_oo); fail "ev"; fail "ev"; fail "cl")
    | ((with_reducible apply methM_o); fail "ev"; exact rfl; fail "ev"; fail "cl")
    | ((with_reducible apply methM_ev); fail "ev"; fail "vw"; exact rfl; exact rfl; fail "ev"; fail "cl")
    | ((with_reducible apply y_bind); fail "ev"; fail "ev"))
local macro_rules
  | `(tactic| fail "rs") => `(tactic| focus (first | (simp only [List.set_cons_zero, List.set_cons_succ]; done) | (simp only [List.set_cons_zero, List.set_cons_succ]; exact rfl) | exact rfl))
local macro_rules
  | `(tactic| fail "st") => `(tactic| first
    | (with_reducible apply z_asc)
    | (with_reducible apply z_skp)
    | ((with_reducible apply z_frzOS); exact rfl; fail "rs")
    | ((with_reducible apply z_frzFS); exact rfl)
    | ((with_reducible apply z_frzO); exact rfl; fail "rs")
    | ((with_reducible apply z_frzF); exact rfl)
    | ((with_reducible apply z_set); fail "ev"; fail "rs")
    | ((with_reducible apply z_setO); fail "ev"; fail "rs")
    | ((with_reducible apply z_app); exact rfl; fail "ev"; fail "sd"; fail "rs")
    | ((with_reducible apply z_ext); exact rfl; fail "ev"; fail "vw"; fail "sd"; fail "rs")
    | ((with_reducible apply z_asg); fail "ev"; fail "as")
    | ((with_reducible apply z_exp); fail "ev")
    | ((with_reducible apply z_ret); fail "ev"; first | exact rfl | skip)
    | ((with_reducible apply z_retR); fail "ev"; first | exact rfl | skip)
    | ((with_reducible apply z_rai); fail "ev"; exact rfl)
    | ((with_reducible apply z_raiR); fail "ev"; exact rfl)
    | ((with_reducible apply z_if); fail "ev"; first | ((with_reducible apply z_ct); fail "bt") | ((with_reducible apply z_cf); fail "bt") | skip)
    | ((with_reducible apply z_ifR); fail "ev"; first | ((with_reducible apply z_ctR); fail "bt") | ((with_reducible apply z_cfR); fail "bt") | skip)
    | ((with_reducible apply z_ct); fail "bt")
    | ((with_reducible apply z_cf); fail "bt")
    | ((with_reducible apply z_ctR); fail "bt")
    | ((with_reducible apply z_cfR); fail "bt")
    | ((with_reducible apply z_for); fail "ev"; first | with_reducible assumption | assumption)
    | ((with_reducible apply e_for); fail "ev"; first | with_reducible assumption | assumption)
    | ((with_reducible apply e_set); fail "ev"; fail "rs")
    | ((with_reducible apply e_setO); fail "ev"; fail "rs")
    | ((with_reducible apply e_app); exact rfl; fail "ev"; fail "sd"; fail "rs")
    | ((with_reducible apply e_ext); exact rfl; fail "ev"; fail "vw"; fail "sd"; fail "rs")
    | ((with_reducible apply exprS_ev); fail "ev")
    | ((with_reducible apply asgS_ev); fail "ev"; fail "as")
    | ((with_reducible apply z_end); first | with_reducible exact rfl | exact rfl))
local macro_rules
  | `(tactic| fail "run") => `(tactic| (fail "st"; repeat fail "st"))
local macro_rules
  | `(tactic| fail "ex") => `(tactic| repeat (with_reducible apply Exists.intro))
local macro_rules
  | `(tactic| fail "se") => `(tactic| simp only [startE, List.map_cons, List.map_nil, List.length_cons, List.length_nil, Nat.reduceAdd, Nat.reduceSub, Nat.sub_self, List.replicate_succ, List.replicate_zero, List.cons_append, List.nil_append, List.append_nil])
local macro_rules
  | `(tactic| fail "ev") => `(tactic| focus first
    | ((with_reducible apply inO_at); fail "ev"; fail "ev"; fail "vw"; exact rfl; fail "cl"; exact rfl)
    | ((with_reducible apply lenO_at); fail "ev"; fail "vw"; exact rfl; fail "cl"; fail "sd"; fail "sd")
    | ((with_reducible apply ixO_at); fail "ev"; fail "ev"; fail "vw"; exact rfl; fail "cl")
    | ((with_reducible apply newS_at); fail "ev")
    | ((with_reducible apply sortL_at); fail "ev"; fail "vw"; fail "sd")
    | ((with_reducible apply listK_at); fail "ev"; fail "vw"))
/-! ### steps on things of the store -/
theorem fldS_at {cs : List Str} {c f : Str} {k : Nat} {d : D} {fs : List (Str × D)} {fo fv : M D} {ρ : Rho} {ω ω1 ω2 : List Cell} (hv : fv ρ ω = some (.val d ω1)) (ho : fo ρ ω1 = some (.val (.oid k) ω2)) (hk : ω2[k]? = some (.obj c fs)) (hc : cs.contains c = true) (hl : fs.length < 1000) : fldS cs f fo fv ρ ω = some (.nx ρ (ω2.set k (.obj c (putD f d fs)))) := by
  unfold fldS
  rw [bindS_ev hv, bindS_ev ho]
  simp only [hk]
  rw [if_pos ⟨hc, hl⟩]
theorem lockS_at {f : M D} {F : MS} {k : Nat} {kvs kvs' : List (Key × D)} {ρ ρ' : Rho} {ω ω' ω1 : List Cell} (hf : f ρ ω = some (.val (.oid k) ω')) (hk : ω[k]? = some (.dic kvs)) (hF : F ρ (ω.set k (.ldc kvs)) = some (.nx ρ' ω1)) (hk1 : ω1[k]? = some (.ldc kvs')) : lockS f F ρ ω = some (.nx ρ' (ω1.set k (.dic kvs'))) := by
  unfold lockS
  simp only [hf, hk, hF, unlk, hk1]
theorem putKD_new {kvs : List (Key × D)} {k : Key} {v : D} (h : k ∉ kvs.map (·.1)) : putKD kvs k v = kvs ++ [(k, v)] := by
  unfold putKD
  rw [if_neg]
  intro z
  obtain ⟨p, hp, e⟩ := List.any_eq_true.mp z
  exact h (by rw [← of_decide_eq_true e]; exact List.mem_map_of_mem hp)
theorem dcM_at {α : Type} {vs : List Nat} {src : M (List D)} {T : TT1} {fk fv : M D} {ρ : Rho} {ω ω1 : List Cell} (xs : List α) (enc : α → D) (key : α → Key) (val : α → D) (hsrc : src ρ ω = some (.val (xs.map enc) ω1)) (hz : xs.length < 1000) (nd : (xs.map key).Nodup)
    (hs : ∀ x ∈ xs, ∃ ρ2 dk, T (enc x) (wipeE ρ vs) ω1 = some ρ2 ∧ fk ρ2 ω1 = some (.val dk ω1) ∧ keyD dk = some (key x) ∧ fv ρ2 ω1 = some (.val (val x) ω1)) :
    dcM vs src T (M.pure true) fk fv ρ ω = some (.val (.oid ω1.length) (ω1 ++ [Cell.dic (xs.map fun x => (key x, val x))])) := by
  have go : ∀ (ys zs : List α), xs = zs ++ ys → dcGo vs T (M.pure true) fk fv ρ (ys.map enc) (zs.map fun x => (key x, val x)) ω1 = some (xs.map (fun x => (key x, val x)), ω1) := by
    intro ys
    induction ys with
    | nil => intro zs e; rw [e, List.append_nil]; rfl
    | cons y ys ih =>
      intro zs e
      obtain ⟨ρ2, dk, h1, h2, h3, h4⟩ := hs y (by rw [e]; simp)
      have hl : (zs.map fun x => (key x, val x)).length < 1000 := by
        rw [List.length_map]
        have := congrArg List.length e
        simp at this; omega
      have hn : key y ∉ (zs.map fun x => (key x, val x)).map (·.1) := by
        rw [List.map_map]
        intro z
        rw [e, List.map_append, List.map_cons] at nd
        have := (List.nodup_append.mp nd).2.2
        obtain ⟨q, hq, eq⟩ := List.mem_map.mp z
        exact this (key q) (List.mem_map_of_mem hq) (key y) (by simp) eq
      rw [List.map_cons]
      unfold dcGo
      simp only [h1, M.pure, h2, h4, h3]
      rw [if_pos hl, putKD_new hn]
      have := ih (zs ++ [y]) (by rw [e, List.append_assoc]; rfl)
      rw [List.map_append] at this
      exact this
  unfold dcM
  rw [bind_ev hsrc]
  have := go xs [] rfl
  rw [List.map_nil] at this
  simp only [this]
theorem set_set_back {ω : List Cell} {q : Nat} {c d : Cell} (h : ω[q]? = some c) : (ω.set q d).set q c = ω := by
  rw [List.set_set]
  obtain ⟨hl, e⟩ := List.getElem?_eq_some_iff.mp h
  rw [← e]
  exact List.set_getElem_self hl
theorem view_ldc {ω : List Cell} {q : Nat} {kvs : List (Key × D)} (hq : ω[q]? = some (Cell.ldc kvs)) : view ω (.oid q) = some (.dic kvs) := by simp only [view, hq]
/-! ### the processes of the law -/
abbrev pL : List Str := ["pa", "pb", "pc", "pd", "pe", "pf", "pg", "ph"]
theorem pL_ok : ∀ x ∈ pL, nameB x = true ∧ PySem.PyData.strOk x = true ∧ x.length ≤ 8 := by decide +kernel
def pnm (z : Int) : Str := pL.getD (z % 8).toNat "pa"
theorem pnm_mem (z : Int) : pnm z ∈ pL := by
  unfold pnm
  have h : (z % 8).toNat < pL.length := by
    show _ < 8
    omega
  rw [List.getD_eq_getElem?_getD, List.getElem?_eq_getElem h]
  exact List.getElem_mem h
abbrev prP (z : Int) : D := dPr "call" [.str (pnm z), .tup [.int z]] 1 1
abbrev prs (ls : List Int) : List D := ls.map prP
theorem letter1 {k c : Nat} (t : Str) (h : ("abcdefgh" : Str).cps.toList[k]? = some c) (e : ("p" : Str) ++ (⟨#[c]⟩ : Str) = t) : ∃ s, ixD (.str "abcdefgh") (.int (k : Nat)) = some (.str s) ∧ addD (.str "p") (.str s) = some (.str t) :=
  ⟨_, ix_strN (by decide +kernel) h, (addD_str (x := "p") (y := ⟨#[c]⟩) (show 1 + 1 ≤ 1000 by decide)).trans (by rw [e])⟩
theorem letter : ∀ k : Nat, k < 8 → ∃ s, ixD (.str "abcdefgh") (.int (k : Nat)) = some (.str s) ∧ addD (.str "p") (.str s) = some (.str (pL.getD k "pa"))
  | 0, _ => letter1 (c := 97) (pL.getD 0 "pa") (by decide +kernel) (by decide +kernel)
  | 1, _ => letter1 (c := 98) (pL.getD 1 "pa") (by decide +kernel) (by decide +kernel)
  | 2, _ => letter1 (c := 99) (pL.getD 2 "pa") (by decide +kernel) (by decide +kernel)
  | 3, _ => letter1 (c := 100) (pL.getD 3 "pa") (by decide +kernel) (by decide +kernel)
  | 4, _ => letter1 (c := 101) (pL.getD 4 "pa") (by decide +kernel) (by decide +kernel)
  | 5, _ => letter1 (c := 102) (pL.getD 5 "pa") (by decide +kernel) (by decide +kernel)
  | 6, _ => letter1 (c := 103) (pL.getD 6 "pa") (by decide +kernel) (by decide +kernel)
  | 7, _ => letter1 (c := 104) (pL.getD 7 "pa") (by decide +kernel) (by decide +kernel)
  | n + 8, h => absurd h (by omega)
abbrev nmM (f : M D) : M D := bo addD (M.pure (.str "p")) (bo ixD (M.pure (.str "abcdefgh")) (bo modD (uo intD f) (M.pure (.int 8))))
theorem nm_ev {f : M D} {z : Int} {ρ : Rho} {ω : List Cell} (hf : f ρ ω = some (.val (.int z) ω)) : nmM f ρ ω = some (.val (.str (pnm z)) ω) := by
  have h8 : (z % 8).toNat < 8 := by omega
  obtain ⟨s, h1, h2⟩ := letter _ h8
  have e : (((z % 8).toNat : Nat) : Int) = z % 8 := Int.toNat_of_nonneg (by omega)
  rw [e] at h1
  exact bo_ev (x := .str "p") (y := .str s) (ω1 := ω) rfl (bo_ev (x := .str "abcdefgh") (y := .int (z % 8)) (ω1 := ω) rfl (bo_ev (x := .int z) (y := .int 8) (ω1 := ω) (uo_ev hf rfl rfl) rfl rfl rfl (modD_int (by decide))) rfl rfl h1) rfl rfl h2
def okL (z : Int) : Prop := 0 ≤ z ∧ z < 100000
theorem okL_num {z : Int} (h : okL z) : numB z = true := by
  obtain ⟨h1, h2⟩ := h
  unfold numB
  rw [decide_eq_true (by omega), decide_eq_true (by omega)]
  rfl
theorem c_process {z : Int} (ω : List Cell) (h : okL z) : g__law_process [.int z] ω = some (.val (prP z) ω) := by
  refine fn_rt rfl ?_
  unfold b__law_process
  have ok := pL_ok _ (pnm_mem z)
  have c := call_ok (nm := pnm z) (os := [.num z]) (gv := .lst [.int z]) (gv' := .lst [.int z]) ω (by have := ok.2.2; omega) ok.1 rfl rfl (fun o ho => by rw [List.mem_singleton.mp ho]; trivial) (by simp) (by
    show (decide (4 < 1) || !((Opd.num z).ok && true)) = false
    have : (Opd.num z).ok = true := okL_num h
    rw [this]; rfl)
  exact retS_ev (calM_ev (cons_ev (nm_ev (f := vW 0) (z := z) rfl) (cons_ev (d := .lst [.int z]) (ω1 := ω) rfl (ds := []) (ω2 := ω) rfl)) c)
/-! ### nets -/
abbrev netC (ls : List Int) : Cell := Cell.obj "Net" [("rows", .lst (prs ls))]
theorem view_net {ω : List Cell} {b : Nat} {ls : List Int} (hb : ω[b]? = some (netC ls)) : view ω (.oid b) = some (.obj "Net" [("rows", .lst (prs ls))]) := by simp only [view, hb]
theorem view_lst {ω : List Cell} {q : Nat} {ds : List D} (hq : ω[q]? = some (Cell.lst ds)) : view ω (.oid q) = some (.lst ds) := by simp only [view, hq]
theorem last_get (ω : List Cell) (c : Cell) : (ω ++ [c])[ω.length]? = some c := by
  rw [List.getElem?_append_right (Nat.le_refl _), Nat.sub_self]; rfl
theorem app_get {ω : List Cell} {b : Nat} {c : Cell} (h : ω[b]? = some c) (x : List Cell) : (ω ++ x)[b]? = some c := by
  rw [List.getElem?_append_left (List.getElem?_eq_some_iff.mp h).1]; exact h
theorem get_lt {ω : List Cell} {b : Nat} {c : Cell} (h : ω[b]? = some c) : b < ω.length := (List.getElem?_eq_some_iff.mp h).1
theorem set_get {ω : List Cell} {b : Nat} {c : Cell} (h : ω[b]? = some c) (d : Cell) : (ω.set b d)[b]? = some d := by
  rw [List.getElem?_set_self (get_lt h)]
theorem set_ne {ω : List Cell} {b k : Nat} {c : Cell} (h : ω[b]? = some c) (hk : k ≠ b) (d : Cell) : (ω.set k d)[b]? = some c := by
  rw [List.getElem?_set_ne hk]; exact h
theorem mkN_at {c : Str} {Gf : Fn} {fs : M (List D)} {ds : List D} {ρ : Rho} {ω ω1 ω' : List Cell} (ha : fs ρ ω = some (.val ds ω1)) (h : Gf (.oid ω1.length :: ds) (ω1 ++ [.obj c []]) = some (.val .non ω')) : (fs.bind (mkN c Gf)) ρ ω = some (.val (.oid ω1.length) ω') := by
  rw [bind_ev ha]; unfold mkN; simp only [h]
theorem mkN_x {c : Str} {Gf : Fn} {fs : M (List D)} {ds : List D} {x : Exc} {ρ : Rho} {ω ω1 ω' : List Cell} (ha : fs ρ ω = some (.val ds ω1)) (h : Gf (.oid ω1.length :: ds) (ω1 ++ [.obj c []]) = some (.exc x ω')) : (fs.bind (mkN c Gf)) ρ ω = some (.exc x ω') := by
  rw [bind_ev ha]; unfold mkN; simp only [h]
theorem cons_x1 {fo : M D} {fs : M (List D)} {x : Exc} {ρ : Rho} {ω ω1 : List Cell} (h : fo ρ ω = some (.exc x ω1)) : consM fo fs ρ ω = some (.exc x ω1) := by unfold consM; rw [bind_ex h]
theorem cons_x2 {fo : M D} {fs : M (List D)} {d : D} {x : Exc} {ρ : Rho} {ω ω1 ω2 : List Cell} (h : fo ρ ω = some (.val d ω1)) (h2 : fs ρ ω1 = some (.exc x ω2)) : consM fo fs ρ ω = some (.exc x ω2) := by unfold consM; rw [bind_ev h, bind_ex h2]
theorem lenD_prs (ls : List Int) : lenD (.lst (prs ls)) = some (.int (ls.length : Nat)) := by
  show some (D.int _) = _
  rw [prs, List.length_map]
theorem c_mkNet {ls : List Int} {v : D} (ω : List Cell) (hv : view (ω ++ [.obj "Net" []]) v = some (.lst (prs ls))) (hl : ls.length ≤ 6) : g_mk_Net [.oid ω.length, v] (ω ++ [.obj "Net" []]) = some (.val .non (ω ++ [netC ls])) := by
  refine fn_nx (ρ := [.fz (.oid ω.length), .fz v]) rfl ?_
  unfold b_Net___init__
  refine Eq.trans (seqS_nx (ρ' := [.fz (.oid ω.length), .fz v]) (ω' := ω ++ [.obj "Net" []]) ?_) ?_
  · rw [ifS_f (ω' := ω ++ [.obj "Net" []]) (tst_ev (bo_ev (x := .int ls.length) (y := .int 6) (ω1 := ω ++ [.obj "Net" []]) (uo_ev (x := v) (ω1 := ω ++ [.obj "Net" []]) rfl hv (lenD_prs ls)) rfl rfl rfl (gtD_f (by omega))))]
    rfl
  refine Eq.trans (fldS_at (k := ω.length) (c := "Net") (fs := []) (d := .lst (prs ls)) (ω1 := ω ++ [.obj "Net" []]) (ω2 := ω ++ [.obj "Net" []]) (uo_ev (x := v) (ω1 := ω ++ [.obj "Net" []]) rfl hv (show listD (.lst (prs ls)) = some (.lst (prs ls)) from rfl)) rfl (last_cell _ _) rfl (by decide)) ?_
  rw [set_last]
  rfl
theorem c_mkNetX {ls : List Int} {v : D} (ω : List Cell) (hv : view (ω ++ [.obj "Net" []]) v = some (.lst (prs ls))) (hl : 6 < ls.length) : g_mk_Net [.oid ω.length, v] (ω ++ [.obj "Net" []]) = some (.exc (bad "machines") (ω ++ [.obj "Net" []])) := by
  refine fn_ex (ρ := [.fz (.oid ω.length), .fz v]) rfl ?_
  unfold b_Net___init__
  refine seqS_ex ?_
  rw [ifS_t (ω' := ω ++ [.obj "Net" []]) (tst_ev (bo_ev (x := .int ls.length) (y := .int 6) (ω1 := ω ++ [.obj "Net" []]) (uo_ev (x := v) (ω1 := ω ++ [.obj "Net" []]) rfl hv (lenD_prs ls)) rfl rfl rfl (gtD_t (by omega))))]
  rfl
/-- the same within an except suite -/
theorem c_mkNetQ (ω : List Cell) : g_q_mk_Net [.oid ω.length, .lst []] (ω ++ [.obj "Net" []]) = some (.val .non (ω ++ [netC []])) := by
  refine fn_nx (ρ := [.fz (.oid ω.length), .fz (.lst [])]) rfl ?_
  unfold bq_Net___init__
  refine Eq.trans (seqS_nx (ρ' := [.fz (.oid ω.length), .fz (.lst [])]) (ω' := ω ++ [.obj "Net" []]) ?_) ?_
  · rw [ifS_f (ω' := ω ++ [.obj "Net" []]) (tst_ev (bo_ev (x := .int 0) (y := .int 6) (ω1 := ω ++ [.obj "Net" []]) (uo_ev (x := .lst []) (ω1 := ω ++ [.obj "Net" []]) rfl rfl (show lenD (.lst []) = some (.int 0) from rfl)) rfl rfl rfl (gtD_f (by omega))))]
    rfl
  refine Eq.trans (fldS_at (k := ω.length) (c := "Net") (fs := []) (d := .lst []) (ω1 := ω ++ [.obj "Net" []]) (ω2 := ω ++ [.obj "Net" []]) (uo_ev (x := .lst []) (ω1 := ω ++ [.obj "Net" []]) rfl rfl (show listD (.lst []) = some (.lst []) from rfl)) rfl (last_cell _ _) rfl (by decide)) ?_
  rw [set_last]
  rfl
/-- a net of the store, or a process alone -/
def isT (ω : List Cell) (t : D) (ls : List Int) : Prop := (∃ b, t = .oid b ∧ ω[b]? = some (netC ls)) ∨ ∃ z, t = prP z ∧ ls = [z]
theorem isT.app {ω : List Cell} {t : D} {ls : List Int} (h : isT ω t ls) (x : List Cell) : isT (ω ++ x) t ls := by
  rcases h with ⟨b, e, h⟩ | h
  · exact .inl ⟨b, e, app_get h x⟩
  · exact .inr h
section
variable {ω : List Cell} {ls ms : List Int} {b : Nat} {t u : D} {z : Int}
theorem nrows_ev {i : Nat} {ρ : Rho} (hi : ρ[i]? = some (.fz (.oid b))) (hb : ω[b]? = some (netC ls)) : (uo (fldD ["Net"] "rows") (vW i)) ρ ω = some (.val (.lst (prs ls)) ω) := uo_ev (y_fz hi) (view_net hb) (fldD_ev rfl rfl)
theorem c_rowsof (h : isT ω t ls) : g_rows_of [t] ω = some (.val (.lst (prs ls)) ω) := by
  refine fn_rt rfl ?_
  unfold b_rows_of
  rcases h with ⟨b, rfl, hb⟩ | ⟨z, rfl, rfl⟩
  · refine seqS_rt ?_
    rw [ifS_t (ω' := ω) (truM_ev (uo_ev (x := .oid b) (ω1 := ω) rfl (view_net hb) rfl))]
    exact retS_ev (uo_ev (nrows_ev rfl hb) rfl rfl)
  · refine Eq.trans (seqS_nx (ρ' := [.fz (prP z)]) (ω' := ω) (by rw [ifS_f (ω' := ω) (truM_ev (uo_ev (x := prP z) (ω1 := ω) rfl rfl rfl))]; rfl)) ?_
    exact retS_ev rfl
theorem prs_app (ls ms : List Int) : prs ls ++ prs ms = prs (ls ++ ms) := List.map_append.symm
theorem addD_prs (h : ls.length + ms.length ≤ 1000) : addD (.lst (prs ls)) (.lst (prs ms)) = some (.lst (prs (ls ++ ms))) := by
  rw [addD_lst (by rw [prs, prs, List.length_map, List.length_map]; exact h), prs_app]
theorem c_nor (hb : ω[b]? = some (netC ls)) (h : isT ω u ms) (hl : ls.length + ms.length ≤ 6) : g_Net___or__ [.oid b, u] ω = some (.val (.oid ω.length) (ω ++ [netC (ls ++ ms)])) := by
  refine fn_rt rfl ?_
  unfold b_Net___or__
  exact retS_ev (mkN_at (cons_ev (bo_ev (x := .lst (prs ls)) (y := .lst (prs ms)) (ω1 := ω) (nrows_ev rfl hb) (calM_ev (ds := [u]) (ω1 := ω) rfl (c_rowsof h)) rfl rfl (addD_prs (by omega))) (ds := []) (ω2 := ω) rfl) (c_mkNet ω rfl (by rw [List.length_append]; exact hl)))
theorem c_norX (hb : ω[b]? = some (netC ls)) (h : isT ω u ms) (hl : 6 < ls.length + ms.length) (h2 : ls.length + ms.length ≤ 1000) : g_Net___or__ [.oid b, u] ω = some (.exc (bad "machines") (ω ++ [.obj "Net" []])) := by
  refine fn_ex (ρ := startE N_Net___or__ [.oid b, u]) rfl ?_
  unfold b_Net___or__
  exact retS_ex (mkN_x (cons_ev (bo_ev (x := .lst (prs ls)) (y := .lst (prs ms)) (ω1 := ω) (nrows_ev rfl hb) (calM_ev (ds := [u]) (ω1 := ω) rfl (c_rowsof h)) rfl rfl (addD_prs h2)) (ds := []) (ω2 := ω) rfl) (c_mkNetX ω rfl (by rw [List.length_append]; exact hl)))
theorem addD_one (h : ms.length ≤ 900) : addD (.lst [prP z]) (.lst (prs ms)) = some (.lst (prs ([z] ++ ms))) := by
  rw [addD_lst (by rw [prs, List.length_map]; show 1 + _ ≤ _; omega)]; rfl
theorem c_por (h : isT ω u ms) (hl : 1 + ms.length ≤ 6) : g_Process___or__ [prP z, u] ω = some (.val (.oid ω.length) (ω ++ [netC ([z] ++ ms)])) := by
  refine fn_rt rfl ?_
  unfold b_Process___or__
  exact retS_ev (mkN_at (cons_ev (bo_ev (x := .lst [prP z]) (y := .lst (prs ms)) (ω1 := ω) rfl (calM_ev (ds := [u]) (ω1 := ω) rfl (c_rowsof h)) rfl rfl (addD_one (by omega))) (ds := []) (ω2 := ω) rfl) (c_mkNet ω rfl (by rw [List.length_append]; exact hl)))
theorem c_porX (h : isT ω u ms) (hl : 6 < 1 + ms.length) (h2 : ms.length ≤ 900) : g_Process___or__ [prP z, u] ω = some (.exc (bad "machines") (ω ++ [.obj "Net" []])) := by
  refine fn_ex (ρ := startE N_Process___or__ [prP z, u]) rfl ?_
  unfold b_Process___or__
  exact retS_ex (mkN_x (cons_ev (bo_ev (x := .lst [prP z]) (y := .lst (prs ms)) (ω1 := ω) rfl (calM_ev (ds := [u]) (ω1 := ω) rfl (c_rowsof h)) rfl rfl (addD_one h2)) (ds := []) (ω2 := ω) rfl) (c_mkNetX ω rfl (by rw [List.length_append]; exact hl)))
/-! ### times -/
def rep : Nat → List Int → List Int
  | 0, _ => []
  | n + 1, ls => rep n ls ++ ls
theorem rep_len (n : Nat) (ls : List Int) : (rep n ls).length = n * ls.length := by
  induction n with
  | zero => simp [rep]
  | succ n ih => rw [rep, List.length_append, ih, Nat.succ_mul]
theorem rep_nil (n : Nat) : rep n [] = [] := by
  induction n with
  | zero => rfl
  | succ n ih => rw [rep, ih]; rfl
theorem rep_flat : ∀ (n : Nat) (ls : List Int), (List.replicate n ls).flatten = rep n ls := by
  intro n ls
  induction n with
  | zero => rfl
  | succ n ih => rw [List.replicate_succ', List.flatten_append, ih]; simp [rep]
theorem mul_test {m : Int} (hb : ω[b]? = some (netC ls)) (hl : ls.length ≤ 6) : (tst (bo gtD (bo mulD (vW 1) (uo lenD (uo (fldD ["Net"] "rows") (vW 0)))) (M.pure (.int 6)))) (startE N_Net___mul__ [.oid b, .int m]) ω = some (.val (decide (6 < m * (ls.length : Nat))) ω) :=
  tst_ev (bo_ev (x := .int (m * (ls.length : Nat))) (y := .int 6) (ω1 := ω) (bo_ev (x := .int m) (y := .int (ls.length : Nat)) (ω1 := ω) rfl (uo_ev (nrows_ev rfl hb) rfl (lenD_prs ls)) rfl rfl (mulD_r (by omega) (by omega))) rfl rfl rfl (by
    by_cases h : 6 < m * (ls.length : Nat)
    · rw [decide_eq_true h]; exact gtD_t h
    · rw [decide_eq_false h]; exact gtD_f h))
theorem c_nmulX {m : Int} (hb : ω[b]? = some (netC ls)) (hl : ls.length ≤ 6) (h : 6 < m * (ls.length : Nat)) : g_Net___mul__ [.oid b, .int m] ω = some (.exc (bad "machines") ω) := by
  refine fn_ex (ρ := startE N_Net___mul__ [.oid b, .int m]) rfl ?_
  unfold b_Net___mul__
  have t := mul_test (m := m) hb hl
  rw [decide_eq_true h] at t
  refine seqS_ex ?_
  rw [ifS_t t]
  rfl
theorem c_nmul {m : Int} (hb : ω[b]? = some (netC ls)) (hl : ls.length ≤ 6) (h0 : 0 ≤ m) (h : ¬ 6 < m * (ls.length : Nat)) : g_Net___mul__ [.oid b, .int m] ω = some (.val (.oid ω.length) (ω ++ [netC (rep m.toNat ls)])) := by
  refine fn_rt rfl ?_
  unfold b_Net___mul__
  have t := mul_test (m := m) hb hl
  rw [decide_eq_false h] at t
  refine Eq.trans (seqS_nx (ρ' := startE N_Net___mul__ [.oid b, .int m]) (ω' := ω) (by rw [ifS_f t])) ?_
  refine Eq.trans (seqS_nx (ρ' := [.fz (.oid b), .fz (.int m), .fz (.lst []), .no]) (ω' := ω) rfl) ?_
  have fin : ∀ (s3 : Sl) (rs : List Int), rs.length ≤ 6 → (retS ((consM (vF 2) (M.pure [])).bind (mkN "Net" g_mk_Net))) [.fz (.oid b), .fz (.int m), .fz (.lst (prs rs)), s3] ω = some (.rt (.oid ω.length) (ω ++ [netC rs])) := fun s3 rs hr =>
    retS_ev (mkN_at (cons_ev (d := .lst (prs rs)) (ω1 := ω) rfl (ds := []) (ω2 := ω) rfl) (c_mkNet ω rfl hr))
  have tr : (truM (uo (fldD ["Net"] "rows") (vW 0))) [.fz (.oid b), .fz (.int m), .fz (.lst []), .no] ω = some (.val (!(prs ls).isEmpty) ω) := y_truL (nrows_ev rfl hb)
  cases ls with
  | nil =>
    rw [rep_nil]
    refine Eq.trans (seqS_nx (ρ' := [.fz (.oid b), .fz (.int m), .fz (.lst []), .no]) (ω' := ω) (by rw [ifS_f tr])) ?_
    exact fin .no [] (by decide)
  | cons a r =>
    have hm : m ≤ 6 := by
      rcases Int.lt_or_le 6 m with z | z
      · exfalso
        apply h
        have : m * 1 ≤ m * (((a :: r).length : Nat) : Int) := Int.mul_le_mul_of_nonneg_left (by simp; omega) h0
        omega
      · exact z
    have hm2 : m.toNat * (a :: r).length ≤ 6 := by
      have e : ((m.toNat : Nat) : Int) = m := Int.toNat_of_nonneg h0
      have h3 : ((m.toNat * (a :: r).length : Nat) : Int) ≤ 6 := by rw [Int.natCast_mul, e]; omega
      omega
    obtain ⟨ρ', ω', e, s3, rfl, rfl⟩ := forGo_thru (T := nmT 3) (F := lb_Net___mul___1)
      (fun k ρ w => ∃ (s3 : Sl), ρ = [.fz (.oid b), .fz (.int m), .fz (.lst (prs (rep k (a :: r)))), s3] ∧ ω = w)
      (items := rangeD 0 m.toNat) (ρ := [.fz (.oid b), .fz (.int m), .fz (.lst []), .no]) (ω := ω) ⟨.no, rfl, rfl⟩ (by
        rintro j d ρ w hd ⟨s3, rfl, rfl⟩
        obtain ⟨hj, rfl⟩ := rangeD_get hd
        refine ⟨_, [.fz (.oid b), .fz (.int m), .fz (.lst (prs (rep (j + 1) (a :: r)))), .fz (.int (0 + (j : Nat)))], ω, rfl, ?_, _, rfl, rfl⟩
        unfold lb_Net___mul___1
        have hz : (rep j (a :: r)).length + (a :: r).length ≤ 1000 := by
          rw [rep_len]
          have : j * (a :: r).length ≤ m.toNat * (a :: r).length := Nat.mul_le_mul_right _ (by omega)
          omega
        exact setS_ev (bo_ev (x := .lst (prs (rep j (a :: r)))) (y := .lst (prs (a :: r))) (ω1 := ω) rfl (nrows_ev rfl hb) rfl rfl (addD_prs hz)))
    have hlen : (rangeD 0 m.toNat).length = m.toNat := by unfold rangeD; rw [List.length_map, List.length_range]
    rw [hlen] at e
    refine Eq.trans (seqS_nx (ρ' := [.fz (.oid b), .fz (.int m), .fz (.lst (prs (rep m.toNat (a :: r)))), s3]) (ω' := ω) ?_) ?_
    · rw [ifS_t tr]
      exact forS_nx (y_bind (a := .int m) (ω1 := ω) rfl (rng1_int h0 (by omega))) e
    · exact fin s3 _ (by rw [rep_len]; exact hm2)
/-! ### in place -/
theorem c_ior (hb : ω[b]? = some (netC ls)) (h : isT ω u ms) (hl : ls.length + ms.length ≤ 6) : g_Net___ior__ [.oid b, u] ω = some (.val (.oid b) (ω.set b (netC (ls ++ ms)))) := by
  refine fn_rt rfl ?_
  unfold b_Net___ior__
  refine Eq.trans (seqS_nx (ρ' := [.fz (.oid b), .fz u, .fz (.lst (prs (ls ++ ms)))]) (ω' := ω) (setS_ev (bo_ev (x := .lst (prs ls)) (y := .lst (prs ms)) (ω1 := ω) (nrows_ev rfl hb) (calM_ev (ds := [u]) (ω1 := ω) rfl (c_rowsof h)) rfl rfl (addD_prs (by omega))))) ?_
  refine Eq.trans (seqS_nx (ρ' := [.fz (.oid b), .fz u, .fz (.lst (prs (ls ++ ms)))]) (ω' := ω) (by rw [ifS_f (ω' := ω) (tst_ev (bo_ev (x := .int ((ls ++ ms).length : Nat)) (y := .int 6) (ω1 := ω) (uo_ev (x := .lst (prs (ls ++ ms))) (ω1 := ω) rfl rfl (lenD_prs _)) rfl rfl rfl (gtD_f (by rw [List.length_append]; omega))))])) ?_
  refine Eq.trans (seqS_nx (ρ' := [.fz (.oid b), .fz u, .fz (.lst (prs (ls ++ ms)))]) (fldS_at (k := b) (c := "Net") (fs := [("rows", .lst (prs ls))]) (d := .lst (prs (ls ++ ms))) (ω1 := ω) (ω2 := ω) rfl rfl hb rfl (show 1 < 1000 by decide))) ?_
  exact retS_ev rfl
theorem c_iorX (hb : ω[b]? = some (netC ls)) (h : isT ω u ms) (hl : 6 < ls.length + ms.length) (h2 : ls.length + ms.length ≤ 1000) : g_Net___ior__ [.oid b, u] ω = some (.exc (bad "machines") ω) := by
  refine fn_ex (ρ := [.fz (.oid b), .fz u, .fz (.lst (prs (ls ++ ms)))]) rfl ?_
  unfold b_Net___ior__
  refine Eq.trans (seqS_nx (ρ' := [.fz (.oid b), .fz u, .fz (.lst (prs (ls ++ ms)))]) (ω' := ω) (setS_ev (bo_ev (x := .lst (prs ls)) (y := .lst (prs ms)) (ω1 := ω) (nrows_ev rfl hb) (calM_ev (ds := [u]) (ω1 := ω) rfl (c_rowsof h)) rfl rfl (addD_prs h2)))) ?_
  refine seqS_ex ?_
  rw [ifS_t (ω' := ω) (tst_ev (bo_ev (x := .int ((ls ++ ms).length : Nat)) (y := .int 6) (ω1 := ω) (uo_ev (x := .lst (prs (ls ++ ms))) (ω1 := ω) rfl rfl (lenD_prs _)) rfl rfl rfl (gtD_t (by rw [List.length_append]; omega))))]
  rfl
end
end L06
namespace L06
open PySem L2 DL
local macro_rules
  | `(tactic| fail "as") => `(tactic| focus first
    | (simp only [tupT, lstT, consT, nilT, nmT, view, List.length_cons, List.length_nil, Nat.reduceAdd, if_true, List.set_cons_zero, List.set_cons_succ]; exact rfl)
    | exact rfl)
local macro_rules
  | `(tactic| fail "fi") => `(tactic| focus first
    | with_reducible assumption
    | exact rfl
    | (apply fine_of; (simp only [DL.plain, plainL, Bool.and_true, Bool.true_and]; first | done | decide +kernel); (simp only [dep, depL]; first | done | decide | omega))
    | (apply fine_of; (simp [DL.plain, plainL, *]; done); (simp only [dep, depL]; first | done | decide | omega)))
local macro_rules
  | `(tactic| fail "sd") => `(tactic| focus first
    | with_reducible assumption
    | with_reducible exact And.left (by assumption)
    | omega
    | decide
    | (simp only [List.length_cons, List.length_nil, List.length_append, List.length_map, List.length_range]; omega)
    | (simp; done)
    | (simp; omega)
    | (decide +kernel))
local macro_rules
  | `(tactic| fail "vw") => `(tactic| focus first
    | with_reducible assumption
    | exact rfl)
local macro_rules
  | `(tactic| fail "bt") => `(tactic| focus first
    | with_reducible assumption
    | with_reducible rfl
    | (exact decide_eq_true (by first | with_reducible assumption | omega))
    | (exact decide_eq_false (by first | with_reducible assumption | omega))
    | (simp only [Bool.and_eq_true, Bool.or_eq_true, Bool.not_eq_true', Bool.not_eq_false', Bool.and_eq_false_iff, Bool.or_eq_false_iff, decide_eq_true_eq, decide_eq_false_iff_not, Bool.not_true, Bool.not_false]; omega)
    | exact rfl
    | (simp [*]; done)
    | (decide +kernel))
local macro_rules
  | `(tactic| fail "op") => `(tactic| focus first
    | with_reducible assumption
    | with_reducible exact addD_int _ _
    | with_reducible exact subD_int _ _
    | with_reducible exact ltD_d _ _
    | with_reducible exact gtD_d _ _
    | with_reducible exact leD_d _ _
    | with_reducible exact geD_d _ _
    | with_reducible exact eqD_int _ _
    | with_reducible exact neD_int _ _
    | with_reducible exact lenD_lstM
    | with_reducible exact lenD_tupM
    | with_reducible exact intD_int _
    | with_reducible exact intD_bl _
    | ((with_reducible apply ixD_ints); fail "sd"; fail "sd")
    | ((with_reducible apply ixD_sgn); fail "sd"; fail "sd"; fail "sd")
    | ((with_reducible apply modD_int); fail "sd")
    | ((with_reducible apply mulD_l); fail "sd"; fail "sd")
    | ((with_reducible apply mulD_r); fail "sd"; fail "sd")
    | ((with_reducible apply fdivD_r); fail "sd"; fail "sd")
    | ((with_reducible apply eqD_str); fail "sd"; fail "sd")
    | ((with_reducible apply neD_str); fail "sd"; fail "sd")
    | ((with_reducible apply fldD_ev); exact rfl; exact rfl)
    | ((with_reducible apply neD_sameR); exact rfl; fail "fi")
    | ((with_reducible apply neD_sameL); exact rfl; fail "fi")
    | ((with_reducible apply eqD_sameR); exact rfl; fail "fi")
    | ((with_reducible apply eqD_sameL); exact rfl; fail "fi")
    | ((with_reducible apply mulSD_ev); fail "sd"; fail "sd"; fail "sd"; fail "sd")
    | with_reducible exact strD_str _
    | ((with_reducible apply strD_int); fail "sd")
    | ((with_reducible apply joinD_lst); fail "sd")
    | ((with_reducible apply addD_lstL); fail "sd")
    | ((with_reducible apply addD_tup); fail "sd")
    | ((with_reducible apply addD_strL); fail "sd")
    | exact rfl)
local macro_rules
  | `(tactic| fail "cl") => `(tactic| focus with_reducible assumption)
local macro_rules
  | `(tactic| fail "ev") => `(tactic| focus first
    | with_reducible assumption
    | exact rfl)
local macro_rules
  | `(tactic| fail "ev") => `(tactic| focus first
    | with_reducible assumption
    | with_reducible exact pure_ev
    | ((with_reducible apply y_fF); exact rfl)
    | ((with_reducible apply y_fz); exact rfl)
    | ((with_reducible apply y_ow); exact rfl)
    | ((with_reducible apply bo_ev); fail "ev"; fail "ev"; fail "vw"; fail "vw"; fail "op")
    | ((with_reducible apply uo_ev); fail "ev"; fail "vw"; fail "op")
    | ((with_reducible apply tst_ev); fail "ev")
    | ((with_reducible apply truM_ev); fail "ev")
    | ((with_reducible apply y_truT); fail "ev")
    | ((with_reducible apply y_truL); fail "ev")
    | ((with_reducible apply cons_ev); fail "ev"; fail "ev")
    | ((with_reducible apply calM_ev); fail "ev"; fail "cl")
    | ((with_reducible apply y_lenOk); fail "sd")
    | ((with_reducible apply y_mkTup); fail "sd")
    | ((with_reducible apply y_mkLst); fail "sd")
    | ((with_reducible apply rng1_nat); fail "sd")
    | ((with_reducible apply rng1_int); fail "sd"; fail "sd")
    | ((with_reducible apply notM_ev); fail "ev")
    | ((with_reducible apply notV_ev); fail "ev")
    | ((with_reducible apply orM_ev); fail "ev"; fail "ev")
    | ((with_reducible apply andM_ev); fail "ev"; fail "ev")
    | ((with_reducible apply orV_ev); fail "ev"; fail "ev")
    | ((with_reducible apply andV_ev); fail "ev"; fail "ev")
    | ((with_reducible apply y_orT); fail "ev"; fail "bt")
    | ((with_reducible apply y_orF); fail "ev"; fail "bt"; fail "ev")
    | ((with_reducible apply y_andF); fail "ev"; fail "bt")
    | ((with_reducible apply y_andT); fail "ev"; fail "bt"; fail "ev")
    | ((with_reducible apply y_orVT); fail "ev"; fail "bt")
    | ((with_reducible apply y_orVF); fail "ev"; fail "bt"; fail "ev")
    | ((with_reducible apply y_andVF); fail "ev"; fail "bt")
    | ((with_reducible apply y_andVT); fail "ev"; fail "bt"; fail "ev")
    | ((with_reducible apply y_ifT); fail "ev"; fail "bt"; fail "ev")
    | ((with_reducible apply y_ifF); fail "ev"; fail "bt"; fail "ev")
    | with_reducible exact asI_ev
    | with_reducible exact items_lst
    | with_reducible exact items_tup
    | ((with_reducible apply sl_lst_to); fail "sd")
    | ((with_reducible apply sl_lst_from); fail "sd")
    | ((with_reducible apply sl_tup_to); fail "sd")
    | ((with_reducible apply sl_tup_from); fail "sd")
    | ((with_reducible apply sl_lst_two); fail "sd"; fail "sd")
    | ((with_reducible apply binO_oo); fail "ev"; fail "ev"; fail "cl")
    | ((with_reducible apply cmpO_oo); fail "ev"; fail "ev"; fail "cl")
    | ((with_reducible apply cmpN_oo); fail "ev"; fail "ev"; fail "cl")
    | ((with_reducible apply methM_o); fail "ev"; exact rfl; fail "ev"; fail "cl")
    | ((with_reducible apply methM_ev); fail "ev"; fail "vw"; exact rfl; exact rfl; fail "ev"; fail "cl")
    | ((with_reducible apply y_bind); fail "ev"; fail "ev"))
local macro_rules
  | `(tactic| fail "rs") => `(tactic| focus (first | (simp only [List.set_cons_zero, List.set_cons_succ]; done) | (simp only [List.set_cons_zero, List.set_cons_succ]; exact rfl) | exact rfl))
local macro_rules
  | `(tactic| fail "st") => `(tactic| first
    | (with_reducible apply z_asc)
    | (with_reducible apply z_skp)
    | ((with_reducible apply z_frzOS); exact rfl; fail "rs")
    | ((with_reducible apply z_frzFS); exact rfl)
    | ((with_reducible apply z_frzO); exact rfl; fail "rs")
    | ((with_reducible apply z_frzF); exact rfl)
    | ((with_reducible apply z_set); fail "ev"; fail "rs")
    | ((with_reducible apply z_setO); fail "ev"; fail "rs")
    | ((with_reducible apply z_app); exact rfl; fail "ev"; fail "sd"; fail "rs")
    | ((with_reducible apply z_ext); exact rfl; fail "ev"; fail "vw"; fail "sd"; fail "rs")
    | ((with_reducible apply z_asg); fail "ev"; fail "as")
    | ((with_reducible apply z_exp); fail "ev")
    | ((with_reducible apply z_ret); fail "ev"; first | exact rfl | skip)
    | ((with_reducible apply z_retR); fail "ev"; first | exact rfl | skip)
    | ((with_reducible apply z_rai); fail "ev"; exact rfl)
    | ((with_reducible apply z_raiR); fail "ev"; exact rfl)
    | ((with_reducible apply z_if); fail "ev"; first | ((with_reducible apply z_ct); fail "bt") | ((with_reducible apply z_cf); fail "bt") | skip)
    | ((with_reducible apply z_ifR); fail "ev"; first | ((with_reducible apply z_ctR); fail "bt") | ((with_reducible apply z_cfR); fail "bt") | skip)
    | ((with_reducible apply z_ct); fail "bt")
    | ((with_reducible apply z_cf); fail "bt")
    | ((with_reducible apply z_ctR); fail "bt")
    | ((with_reducible apply z_cfR); fail "bt")
    | ((with_reducible apply z_for); fail "ev"; first | with_reducible assumption | assumption)
    | ((with_reducible apply e_for); fail "ev"; first | with_reducible assumption | assumption)
    | ((with_reducible apply e_set); fail "ev"; fail "rs")
    | ((with_reducible apply e_setO); fail "ev"; fail "rs")
    | ((with_reducible apply e_app); exact rfl; fail "ev"; fail "sd"; fail "rs")
    | ((with_reducible apply e_ext); exact rfl; fail "ev"; fail "vw"; fail "sd"; fail "rs")
    | ((with_reducible apply exprS_ev); fail "ev")
    | ((with_reducible apply asgS_ev); fail "ev"; fail "as")
    | ((with_reducible apply z_end); first | with_reducible exact rfl | exact rfl))
local macro_rules
  | `(tactic| fail "run") => `(tactic| (fail "st"; repeat fail "st"))
local macro_rules
  | `(tactic| fail "ex") => `(tactic| repeat (with_reducible apply Exists.intro))
local macro_rules
  | `(tactic| fail "se") => `(tactic| simp only [startE, List.map_cons, List.map_nil, List.length_cons, List.length_nil, Nat.reduceAdd, Nat.reduceSub, Nat.sub_self, List.replicate_succ, List.replicate_zero, List.cons_append, List.nil_append, List.append_nil])
local macro_rules
  | `(tactic| fail "ev") => `(tactic| focus first
    | ((with_reducible apply inO_at); fail "ev"; fail "ev"; fail "vw"; exact rfl; fail "cl"; exact rfl)
    | ((with_reducible apply lenO_at); fail "ev"; fail "vw"; exact rfl; fail "cl"; fail "sd"; fail "sd")
    | ((with_reducible apply ixO_at); fail "ev"; fail "ev"; fail "vw"; exact rfl; fail "cl")
    | ((with_reducible apply newS_at); fail "ev")
    | ((with_reducible apply sortL_at); fail "ev"; fail "vw"; fail "sd")
    | ((with_reducible apply listK_at); fail "ev"; fail "vw"))
/-! ### the steps of the law -/
theorem cB_b : ca_BadTerm.lookup ("BadTerm" : Str) = some true := by decide +kernel
/-- what stands behind a refused step -/
theorem su_tail {fx : M D} {n : Nat} {ρ : Rho} {ω ω1 : List Cell} (h : fx ρ ω = some (.val (.oid n) ω1)) (p : XP) (i : Nat) (hi : ρ[i]? = some (.ex p (bad "machines"))) : (retS ((consM fx (consM (xfM i "BadTerm" "field" p) (M.pure []))).bind mkTup)) ρ ω = some (.rt (.tup [.oid n, .str "machines"]) ω1) :=
  retS_ev (tup_ev (ds := [.oid n, .str "machines"]) (cons_ev h (cons_ev (d := .str "machines") (ω1 := ω1) (xfM_ev (x := bad "machines") hi rfl rfl) (ds := []) (ω2 := ω1) rfl)) (by simp))
theorem net_q {ρ : Rho} {ω : List Cell} : ((consM (((M.pure []).bind lenOk).bind fun ds => M.pure (.lst ds)) (M.pure [])).bind (mkN "Net" g_q_mk_Net)) ρ ω = some (.val (.oid ω.length) (ω ++ [netC []])) :=
  mkN_at (cons_ev (d := .lst []) (ω1 := ω) rfl (ds := []) (ω2 := ω) rfl) (c_mkNetQ ω)
section
variable {ω : List Cell} {ls ms : List Int} {b : Nat} {t u : D} {z : Int}
theorem isT.obj (h : isT ω t ls) : ∃ c fl, view ω t = some (.obj c fl) ∧ ((c = "Process" ∧ ∃ z, t = prP z ∧ ls = [z]) ∨ (c = "Net" ∧ ∃ b, t = .oid b ∧ ω[b]? = some (netC ls))) := by
  rcases h with ⟨b, rfl, hb⟩ | ⟨z, rfl, rfl⟩
  · exact ⟨"Net", _, view_net hb, .inr ⟨rfl, b, rfl, hb⟩⟩
  · exact ⟨"Process", [("kind", .str "call"), ("parts", .tup [.str (pnm z), .tup [.int z]]), ("depth", .int 1), ("size", .int 1)], rfl, .inl ⟨rfl, z, rfl, rfl⟩⟩
noncomputable abbrev OrT : List (Str × Fn) := [("Process", g_Process___or__), ("Net", g_Net___or__)]
theorem or_at {r : Option (R D)} (h : isT ω t ls) (k : isT ω u ms) (hp : ∀ z, t = prP z → ls = [z] → g_Process___or__ [t, u] ω = r) (hn : ∀ b, t = .oid b → ω[b]? = some (netC ls) → g_Net___or__ [t, u] ω = r) {ρ : Rho} (h0 : ρ[0]? = some (.fz t)) (h1 : ρ[1]? = some (.fz u)) : (binX "__or__" OrT (vF 0) (vF 1)) ρ ω = r := by
  obtain ⟨c, fl, hv, hc⟩ := h.obj
  obtain ⟨c', fl', hw, hc'⟩ := k.obj
  have ht' : (OrT.lookup c').isSome = true := by
    rcases hc' with ⟨rfl, _⟩ | ⟨rfl, _⟩ <;> rfl
  rcases hc with ⟨rfl, z, e1, e2⟩ | ⟨rfl, b, e1, e2⟩
  · exact binX_at (y_fF h0) (y_fF h1) hv hw (show OrT.lookup ("Process" : Str) = some g_Process___or__ from rfl) ht' (hp z e1 e2)
  · exact binX_at (y_fF h0) (y_fF h1) hv hw (show OrT.lookup ("Net" : Str) = some g_Net___or__ from rfl) ht' (hn b e1 e2)
theorem c_joined (h : isT ω t ls) (k : isT ω u ms) (hl : ls.length + ms.length ≤ 6) : g__law_joined [t, u] ω = some (.val (.tup [.oid ω.length, .str ""]) (ω ++ [netC (ls ++ ms)])) := by
  refine fn_rt rfl ?_
  unfold b__law_joined
  refine tryS_rt ?_
  unfold tb__law_joined_1
  have e := or_at (r := some (.val (.oid ω.length) (ω ++ [netC (ls ++ ms)]))) h k (fun z e1 e2 => by
    subst e1 e2
    exact c_por k hl) (fun b e1 e2 => by
    subst e1
    exact c_nor e2 k hl) (ρ := startE N__law_joined [t, u]) rfl rfl
  exact retS_ev (tup_ev (ds := [.oid ω.length, .str ""]) (cons_ev e (cons_ev (d := .str "") (ω1 := ω ++ [netC (ls ++ ms)]) rfl (ds := []) (ω2 := ω ++ [netC (ls ++ ms)]) rfl)) (by simp))
theorem c_joinedX (h : isT ω t ls) (k : isT ω u ms) (hl : 6 < ls.length + ms.length) (h2 : ls.length ≤ 100 ∧ ms.length ≤ 100) : ∃ n w, g__law_joined [t, u] ω = some (.val (.tup [.oid n, .str "machines"]) (ω ++ w)) := by
  refine ⟨(ω ++ [Cell.obj "Net" []]).length, [Cell.obj "Net" []] ++ [netC []], fn_rt rfl ?_⟩
  unfold b__law_joined
  have e := or_at (r := some (.exc (bad "machines") (ω ++ [Cell.obj "Net" []]))) h k (fun z e1 e2 => by
    subst e1 e2
    exact c_porX k hl (by omega)) (fun b e1 e2 => by
    subst e1
    exact c_norX e2 k hl (by omega)) (ρ := startE N__law_joined [t, u]) rfl rfl
  rw [← List.append_assoc]
  generalize ω ++ [Cell.obj "Net" []] = w1 at e ⊢
  refine Eq.trans (tryS_ex (x := bad "machines") (ρ' := startE N__law_joined [t, u]) (ω' := w1) ?_) (catS_rt cB_b fun p => ?_)
  · unfold tb__law_joined_1
    exact retS_ex (bind_ex (cons_x1 e))
  · unfold su__law_joined_1
    exact su_tail net_q p 2 rfl
noncomputable abbrev MuT : List (Str × Fn) := [("Process", g_Process___rmul__), ("Net", g_Net___rmul__)]
theorem nrmul {m : Int} {r : Option (R D)} (hb : ω[b]? = some (netC ls)) (h : g_Net___mul__ [.oid b, .int m] ω = r) (hr : ∀ x, r = some x → (∃ d w, x = .val d w) ∨ ∃ e w, x = .exc e w) (hs : r.isSome = true) : g_Net___rmul__ [.oid b, .int m] ω = r := by
  have e : (binO "__mul__" [("Net", g_Net___mul__)] (vF 0) (vF 1)) (startE N_Net___rmul__ [.oid b, .int m]) ω = r := binO_at (x := .oid b) (y := .int m) (ω1 := ω) (ω2 := ω) rfl rfl (by rw [show kdI ω (.int m) = true from rfl, Bool.or_true]) (view_net hb) rfl h
  cases r with
  | none => cases hs
  | some x =>
    rcases hr x rfl with ⟨d, w, rfl⟩ | ⟨ex, w, rfl⟩
    · refine fn_rt rfl ?_
      unfold b_Net___rmul__
      exact retS_ev e
    · refine fn_ex (ρ := startE N_Net___rmul__ [.oid b, .int m]) rfl ?_
      unfold b_Net___rmul__
      exact retS_ex e
theorem prmul {m : Int} {r : Option (R D)} (h : g_Net___mul__ [.oid ω.length, .int m] (ω ++ [netC [z]]) = r) (hr : ∀ x, r = some x → (∃ d w, x = .val d w) ∨ ∃ e w, x = .exc e w) (hs : r.isSome = true) : g_Process___rmul__ [prP z, .int m] ω = r := by
  have e : (binO "__mul__" [("Net", g_Net___mul__)] ((consM (((consM (vF 0) (M.pure [])).bind lenOk).bind fun ds => M.pure (.lst ds)) (M.pure [])).bind (mkN "Net" g_mk_Net)) (vF 1)) (startE N_Process___rmul__ [prP z, .int m]) ω = r :=
    binO_at (x := .oid ω.length) (y := .int m) (ω1 := ω ++ [netC [z]]) (ω2 := ω ++ [netC [z]]) (mkN_at (cons_ev (d := .lst (prs [z])) (ω1 := ω) rfl (ds := []) (ω2 := ω) rfl) (c_mkNet ω rfl (by simp))) rfl (by rw [show kdI (ω ++ [netC [z]]) (.int m) = true from rfl, Bool.or_true]) (view_net (last_get ω _)) rfl h
  cases r with
  | none => cases hs
  | some x =>
    rcases hr x rfl with ⟨d, w, rfl⟩ | ⟨ex, w, rfl⟩
    · refine fn_rt rfl ?_
      unfold b_Process___rmul__
      exact retS_ev e
    · refine fn_ex (ρ := startE N_Process___rmul__ [prP z, .int m]) rfl ?_
      unfold b_Process___rmul__
      exact retS_ex e
theorem isV (d : D) (w : List Cell) : ∀ x, (some (R.val d w) : Option (R D)) = some x → (∃ d w, x = .val d w) ∨ ∃ e w, x = .exc e w := fun x h => .inl ⟨d, w, (Option.some.inj h).symm⟩
theorem isE (e : Exc) (w : List Cell) : ∀ x, (some (R.exc e w) : Option (R D)) = some x → (∃ d w, x = .val d w) ∨ ∃ e w, x = .exc e w := fun x h => .inr ⟨e, w, (Option.some.inj h).symm⟩
theorem mu_at {m : Int} {r : Option (R D)} (h : isT ω t ls) (hp : ∀ z, t = prP z → ls = [z] → g_Process___rmul__ [t, .int m] ω = r) (hn : ∀ b, t = .oid b → ω[b]? = some (netC ls) → g_Net___rmul__ [t, .int m] ω = r) {ρ : Rho} (h0 : ρ[0]? = some (.fz (.int m))) (h1 : ρ[1]? = some (.fz t)) : (rmulO "__rmul__" MuT (vF 0) (vF 1)) ρ ω = r := by
  obtain ⟨c, fl, hv, hc⟩ := h.obj
  rcases hc with ⟨rfl, z, e1, e2⟩ | ⟨rfl, b, e1, e2⟩
  · exact rmulO_at (y_fF h0) (y_fF h1) hv (show MuT.lookup ("Process" : Str) = some g_Process___rmul__ from rfl) (hp z e1 e2)
  · exact rmulO_at (y_fF h0) (y_fF h1) hv (show MuT.lookup ("Net" : Str) = some g_Net___rmul__ from rfl) (hn b e1 e2)
theorem c_times {m : Int} (h : isT ω t ls) (hl : ls.length ≤ 6) (h0 : 0 ≤ m) (hm : ¬ 6 < m * (ls.length : Nat)) : ∃ n w, g__law_times [.int m, t] ω = some (.val (.tup [.oid n, .str ""]) (ω ++ w)) ∧ (ω ++ w)[n]? = some (netC (rep m.toNat ls)) ∧ ω.length ≤ n := by
  have e : ∃ n w, (rmulO "__rmul__" MuT (vF 0) (vF 1)) (startE N__law_times [.int m, t]) ω = some (.val (.oid n) (ω ++ w)) ∧ (ω ++ w)[n]? = some (netC (rep m.toNat ls)) ∧ ω.length ≤ n := by
    rcases h with ⟨b, rfl, hb⟩ | ⟨z, rfl, rfl⟩
    · refine ⟨ω.length, [netC (rep m.toNat ls)], ?_, last_get ω _, Nat.le_refl _⟩
      have g := c_nmul hb hl h0 hm
      exact mu_at (.inl ⟨b, rfl, hb⟩) (fun z e1 => by cases e1) (fun b' e1 e2 => by cases e1; exact nrmul hb g (isV _ _) rfl) rfl rfl
    · have g := c_nmul (ω := ω ++ [netC [z]]) (b := ω.length) (ls := [z]) (last_get ω _) hl h0 hm
      refine ⟨(ω ++ [netC [z]]).length, [netC [z]] ++ [netC (rep m.toNat [z])], ?_, ?_, by rw [List.length_append]; omega⟩
      · rw [← List.append_assoc]
        exact mu_at (.inr ⟨z, rfl, rfl⟩) (fun z' e1 e2 => by cases e2; exact prmul g (isV _ _) rfl) (fun b' e1 => by cases e1) rfl rfl
      · rw [← List.append_assoc]; exact last_get _ _
  obtain ⟨n, w, e, h1, h2⟩ := e
  refine ⟨n, w, fn_rt rfl ?_, h1, h2⟩
  unfold b__law_times
  refine tryS_rt ?_
  unfold tb__law_times_1
  exact retS_ev (tup_ev (ds := [.oid n, .str ""]) (cons_ev e (cons_ev (d := .str "") (ω1 := ω ++ w) rfl (ds := []) (ω2 := ω ++ w) rfl)) (by simp))
theorem c_timesX {m : Int} (h : isT ω t ls) (hl : ls.length ≤ 6) (hm : 6 < m * (ls.length : Nat)) : ∃ n w, g__law_times [.int m, t] ω = some (.val (.tup [.oid n, .str "machines"]) (ω ++ w)) := by
  have e : ∃ w, (rmulO "__rmul__" MuT (vF 0) (vF 1)) (startE N__law_times [.int m, t]) ω = some (.exc (bad "machines") (ω ++ w)) := by
    rcases h with ⟨b, rfl, hb⟩ | ⟨z, rfl, rfl⟩
    · refine ⟨[], ?_⟩
      rw [List.append_nil]
      have g := c_nmulX hb hl hm
      exact mu_at (.inl ⟨b, rfl, hb⟩) (fun z e1 => by cases e1) (fun b' e1 e2 => by cases e1; exact nrmul hb g (isE _ _) rfl) rfl rfl
    · have g := c_nmulX (ω := ω ++ [netC [z]]) (b := ω.length) (ls := [z]) (last_get ω _) hl hm
      exact ⟨[netC [z]], mu_at (.inr ⟨z, rfl, rfl⟩) (fun z' e1 e2 => by cases e2; exact prmul g (isE _ _) rfl) (fun b' e1 => by cases e1) rfl rfl⟩
  obtain ⟨w, e⟩ := e
  refine ⟨(ω ++ w).length, w ++ [netC []], fn_rt rfl ?_⟩
  unfold b__law_times
  rw [← List.append_assoc]
  generalize ω ++ w = w1 at e ⊢
  refine Eq.trans (tryS_ex (x := bad "machines") (ρ' := startE N__law_times [.int m, t]) (ω' := w1) ?_) (catS_rt cB_b fun p => ?_)
  · unfold tb__law_times_1
    exact retS_ex (bind_ex (cons_x1 e))
  · unfold su__law_times_1
    exact su_tail net_q p 2 rfl
/-! ### a net from a list -/
theorem listed_cm (hz : ∀ z ∈ ls, okL z) (hl : ls.length ≤ 100) : cm__law_listed_1 g__law_process (startE N__law_listed [.lst (ls.map D.int)]) ω = some (.val (prs ls) ω) := by
  unfold cm__law_listed_1
  refine lcM_map (xs := ls) D.int prP (ω1 := ω) rfl (by rw [sizeLine_eq]; omega) fun z hm => ?_
  exact ⟨[.fz (.lst (ls.map D.int)), .no, .no, .no, .fz (.int z)], rfl, calM_ev (ds := [.int z]) (ω1 := ω) rfl (c_process ω (hz z hm))⟩
theorem c_listed (hz : ∀ z ∈ ls, okL z) (hl : ls.length ≤ 6) : ∃ n w, g__law_listed [.lst (ls.map D.int)] ω = some (.val (.tup [.oid n, .str ""]) (ω ++ w)) ∧ (ω ++ w)[n]? = some (netC ls) ∧ ω.length ≤ n := by
  have e1 : setN 1 (cm__law_listed_1 g__law_process) (startE N__law_listed [.lst (ls.map D.int)]) ω = some (.nx [.fz (.lst (ls.map D.int)), .fz (.oid ω.length), .no, .no, .no] (ω ++ [Cell.lst (prs ls)])) := setN_at (listed_cm hz (by omega))
  have hlen : (ω ++ [Cell.lst (prs ls)]).length = ω.length + 1 := by rw [List.length_append]; rfl
  have m := c_mkNet (ls := ls) (v := .oid ω.length) (ω ++ [Cell.lst (prs ls)]) (view_lst (app_get (last_get ω _) _)) hl
  refine ⟨ω.length + 1, [Cell.lst (prs ls ++ [prP 7]), netC ls], fn_rt rfl ?_, ?_, by omega⟩
  · unfold b__law_listed
    refine Eq.trans (seqS_nx e1) ?_
    refine Eq.trans (seqS_nx (ρ' := [.fz (.lst (ls.map D.int)), .fz (.oid ω.length), .fz (.oid (ω.length + 1)), .no, .no]) (ω' := ω ++ [Cell.lst (prs ls)] ++ [netC ls]) (tryS_nx ?_)) ?_
    · unfold tb__law_listed_1
      have n := mkN_at (c := "Net") (ρ := [.fz (.lst (ls.map D.int)), .fz (.oid ω.length), .no, .no, .no]) (ω := ω ++ [Cell.lst (prs ls)]) (ds := [.oid ω.length]) (fs := consM (vF 1) (M.pure [])) rfl m
      rw [hlen] at n
      exact setS_ev n
    · have g : (ω ++ [Cell.lst (prs ls)] ++ [netC ls])[ω.length]? = some (.lst (prs ls)) := app_get (last_get ω _) _
      refine Eq.trans (seqS_nx (appO_at (d := prP 7) (k := ω.length) (xs := prs ls) (ys := prs ls) (ω' := ω ++ [Cell.lst (prs ls)] ++ [netC ls]) rfl g (calM_ev (ds := [.int 7]) (ω1 := ω ++ [Cell.lst (prs ls)] ++ [netC ls]) rfl (c_process _ ⟨by decide, by decide⟩)) g (by rw [prs, List.length_map]; omega))) ?_
      have es : (ω ++ [Cell.lst (prs ls)] ++ [netC ls]).set ω.length (Cell.lst (prs ls ++ [prP 7])) = ω ++ [Cell.lst (prs ls ++ [prP 7]), netC ls] := by
        rw [List.set_append_left _ _ (by rw [hlen]; omega), set_last, List.append_assoc]; rfl
      rw [es]
      exact retS_ev (tup_ev (ds := [.oid (ω.length + 1), .str ""]) rfl (by simp))
  · rw [List.getElem?_append_right (by omega), show ω.length + 1 - ω.length = 1 by omega]; rfl
theorem c_listedX (hz : ∀ z ∈ ls, okL z) (hl : 6 < ls.length) (hl2 : ls.length ≤ 100) : ∃ n w, g__law_listed [.lst (ls.map D.int)] ω = some (.val (.tup [.oid n, .str "machines"]) (ω ++ w)) := by
  have e1 : setN 1 (cm__law_listed_1 g__law_process) (startE N__law_listed [.lst (ls.map D.int)]) ω = some (.nx [.fz (.lst (ls.map D.int)), .fz (.oid ω.length), .no, .no, .no] (ω ++ [Cell.lst (prs ls)])) := setN_at (listed_cm hz hl2)
  have m := c_mkNetX (ls := ls) (v := .oid ω.length) (ω ++ [Cell.lst (prs ls)]) (view_lst (app_get (last_get ω _) _)) hl
  refine ⟨(ω ++ [Cell.lst (prs ls)] ++ [Cell.obj "Net" []]).length, [Cell.lst (prs ls)] ++ ([Cell.obj "Net" []] ++ [netC []]), fn_rt rfl ?_⟩
  unfold b__law_listed
  rw [← List.append_assoc, ← List.append_assoc]
  refine Eq.trans (seqS_nx e1) (seqS_rt ?_)
  have n := mkN_x (c := "Net") (ρ := [.fz (.lst (ls.map D.int)), .fz (.oid ω.length), .no, .no, .no]) (ω := ω ++ [Cell.lst (prs ls)]) (ds := [.oid ω.length]) (fs := consM (vF 1) (M.pure [])) rfl m
  generalize ω ++ [Cell.lst (prs ls)] ++ [Cell.obj "Net" []] = w1 at n ⊢
  refine Eq.trans (tryS_ex (x := bad "machines") (ρ' := [.fz (.lst (ls.map D.int)), .fz (.oid ω.length), .no, .no, .no]) (ω' := w1) ?_) (catS_rt cB_b fun p => ?_)
  · unfold tb__law_listed_1
    exact setS_ex n
  · unfold su__law_listed_1
    exact su_tail net_q p 3 rfl
/-! ### a net extended in place -/
theorem augO_at {i : Nat} {m : Str} {T : List (Str × Fn)} {fe : M D} {x y z : D} {cc : Str} {fl : List (Str × D)} {Gf : Fn} {ρ : Rho} {w w1 w2 : List Cell} (hi : ρ[i]? = some (.fz x)) (he : fe ρ w = some (.val y w1)) (hv : view w1 x = some (.obj cc fl)) (ht : T.lookup cc = some Gf) (h : Gf [x, y] w1 = some (.val z w2)) : augO i m T fe ρ w = some (.nx (ρ.set i (.fz z)) w2) := by
  unfold augO
  rw [hi]
  simp only
  rw [bindS_ev he, bindS_ev ((ownM_at hv ht).trans h)]
theorem augO_x {i : Nat} {m : Str} {T : List (Str × Fn)} {fe : M D} {x y : D} {e : Exc} {cc : Str} {fl : List (Str × D)} {Gf : Fn} {ρ : Rho} {w w1 w2 : List Cell} (hi : ρ[i]? = some (.fz x)) (he : fe ρ w = some (.val y w1)) (hv : view w1 x = some (.obj cc fl)) (ht : T.lookup cc = some Gf) (h : Gf [x, y] w1 = some (.exc e w2)) : augO i m T fe ρ w = some (.exc e ρ w2) := by
  unfold augO
  rw [hi]
  simp only
  rw [bindS_ev he, bindS_ex ((ownM_at hv ht).trans h)]
theorem c_ext (hb : ω[b]? = some (netC ls)) (h : isT ω u ms) (hl : ls.length + ms.length ≤ 6) : g__law_extended [.oid b, u] ω = some (.val (.tup [.oid b, .str ""]) (ω.set b (netC (ls ++ ms)))) := by
  refine fn_rt rfl ?_
  unfold b__law_extended
  refine Eq.trans (seqS_nx (ρ' := startE N__law_extended [.oid b, u]) (ω' := ω.set b (netC (ls ++ ms))) (tryS_nx ?_)) ?_
  · unfold tb__law_extended_1
    exact augO_at (x := .oid b) (y := u) (z := .oid b) (w1 := ω) rfl rfl (view_net hb) rfl (c_ior hb h hl)
  · rfl
theorem c_extX (hb : ω[b]? = some (netC ls)) (h : isT ω u ms) (hl : 6 < ls.length + ms.length) (h2 : ls.length + ms.length ≤ 1000) : g__law_extended [.oid b, u] ω = some (.val (.tup [.oid b, .str "machines"]) ω) := by
  refine fn_rt rfl ?_
  unfold b__law_extended
  refine seqS_rt ?_
  refine Eq.trans (tryS_ex (x := bad "machines") (ρ' := startE N__law_extended [.oid b, u]) (ω' := ω) ?_) (catS_rt cB_b fun p => ?_)
  · unfold tb__law_extended_1
    exact augO_x (x := .oid b) (y := u) (w1 := ω) rfl rfl (view_net hb) rfl (c_iorX hb h hl h2)
  · unfold su__law_extended_1
    exact su_tail (n := b) (ω1 := ω) rfl p 2 rfl
/-! ### what the law sees of a net -/
theorem c_nlen (hb : ω[b]? = some (netC ls)) : g_Net___len__ [.oid b] ω = some (.val (.int (ls.length : Nat)) ω) := by
  refine fn_rt rfl ?_
  unfold b_Net___len__
  exact retS_ev (uo_ev (nrows_ev rfl hb) rfl (lenD_prs ls))
theorem c_nget {i : Nat} (hb : ω[b]? = some (netC ls)) (h : ls[i]? = some z) : g_Net___getitem__ [.oid b, .int (i : Nat)] ω = some (.val (prP z) ω) := by
  refine fn_rt rfl ?_
  unfold b_Net___getitem__
  exact retS_ev (bo_ev (x := .lst (prs ls)) (y := .int (i : Nat)) (ω1 := ω) (nrows_ev rfl hb) rfl rfl rfl (ixD_lst (by rw [prs, List.getElem?_map, h]; rfl)))
abbrev isS (b : Nat) (ls : List Int) (q2 q3 : Sl) : Rho := [.fz (.oid b), .fz (.lst (ls.map D.int)), q2, q3]
theorem fine_pz (z : Int) : DL.fine (.tup [.str (pnm z), .tup [.int z]]) = true := by
  rw [fine_iff]
  refine ⟨?_, by show max 0 (max (max 0 0 + 1) 0) + 1 ≤ 64; decide⟩
  show (PySem.PyData.strOk (pnm z) && ((true && true) && true)) = true
  rw [(pL_ok _ (pnm_mem z)).2.1]; rfl
theorem is_turn (hb : ω[b]? = some (netC ls)) {k : Nat} (hk : k < ls.length) (q3 : Sl) : ∃ p3, lb__law_is_1 g_Net___getitem__ (isS b ls (.fz (.int (0 + (k : Nat)))) q3) ω = some (.nx (isS b ls (.fz (.int (0 + (k : Nat)))) p3) ω) := by
  have e0 : (0 + (k : Nat) : Int) = (k : Int) := by omega
  rw [e0]
  have hz : ls[k]? = some ls[k] := List.getElem?_eq_getElem hk
  generalize ls[k] = z at hz
  refine ⟨.fz (prP z), ?_⟩
  unfold lb__law_is_1
  refine Eq.trans (seqS_nx (ρ' := isS b ls (.fz (.int (k : Nat))) (.fz (prP z))) (ω' := ω) (setS_ev (ixO_at (o := .oid b) (i := .int (k : Nat)) (ω1 := ω) (ω2 := ω) rfl rfl (view_net hb) rfl (c_nget hb hz)))) ?_
  have lz : (bo ixD (vW 1) (vW 2)) (isS b ls (.fz (.int (k : Nat))) (.fz (prP z))) ω = some (.val (.int z) ω) := bo_ev (x := .lst (ls.map D.int)) (y := .int (k : Nat)) (ω1 := ω) rfl rfl rfl rfl (ixD_lst (by rw [List.getElem?_map, hz]; rfl))
  have t1 : (tst (bo neD (uo (fldD ["Process"] "kind") (vW 3)) (M.pure (.str "call")))) (isS b ls (.fz (.int (k : Nat))) (.fz (prP z))) ω = some (.val false ω) :=
    tst_ev (bo_ev (x := .str "call") (y := .str "call") (ω1 := ω) (uo_ev (x := prP z) (ω1 := ω) rfl rfl rfl) rfl rfl rfl (neD_sameR rfl (by decide +kernel)))
  have tp : ((consM (nmM (bo ixD (vW 1) (vW 2))) (consM ((consM (bo ixD (vW 1) (vW 2)) (M.pure [])).bind mkTup) (M.pure []))).bind mkTup) (isS b ls (.fz (.int (k : Nat))) (.fz (prP z))) ω = some (.val (.tup [.str (pnm z), .tup [.int z]]) ω) :=
    tup_ev (cons_ev (nm_ev lz) (cons_ev (tup_ev (cons_ev lz (ds := []) (ω2 := ω) rfl) (by simp)) (ds := []) (ω2 := ω) rfl)) (by simp)
  have t2 : (tst (bo neD (uo (fldD ["Process"] "parts") (vW 3)) ((consM (nmM (bo ixD (vW 1) (vW 2))) (consM ((consM (bo ixD (vW 1) (vW 2)) (M.pure [])).bind mkTup) (M.pure []))).bind mkTup))) (isS b ls (.fz (.int (k : Nat))) (.fz (prP z))) ω = some (.val false ω) :=
    tst_ev (bo_ev (x := .tup [.str (pnm z), .tup [.int z]]) (y := .tup [.str (pnm z), .tup [.int z]]) (ω1 := ω) (uo_ev (x := prP z) (ω1 := ω) rfl rfl rfl) tp rfl rfl (neD_sameR rfl (fine_pz z)))
  rw [ifS_f (orM_f t1 t2)]
theorem c_is (hb : ω[b]? = some (netC ls)) (hl : ls.length ≤ 100) : g__law_is [.oid b, .lst (ls.map D.int)] ω = some (.val (.bl true) ω) := by
  obtain ⟨ρ', ω', e, q2, q3, rfl, rfl⟩ := forGo_thru (T := nmT 2) (F := lb__law_is_1 g_Net___getitem__)
    (fun k ρ w => ∃ (q2 q3 : Sl), ρ = isS b ls q2 q3 ∧ ω = w)
    (items := rangeD 0 ls.length) (ρ := isS b ls .no .no) (ω := ω) ⟨.no, .no, rfl, rfl⟩ (by
      rintro j d ρ w hd ⟨q2, q3, rfl, rfl⟩
      obtain ⟨hj, rfl⟩ := rangeD_get hd
      obtain ⟨p3, h⟩ := is_turn hb hj q3
      exact ⟨_, _, _, rfl, h, _, _, rfl, rfl⟩)
  refine fn_rt rfl ?_
  unfold b__law_is
  have l1 : (uo lenD (vW 1)) (isS b ls .no .no) ω = some (.val (.int (ls.length : Nat)) ω) := uo_ev (x := .lst (ls.map D.int)) (ω1 := ω) rfl rfl (by show some (D.int _) = _; rw [List.length_map])
  refine Eq.trans (seqS_nx (ρ' := isS b ls .no .no) (ω' := ω) (ifS_f (ρ := isS b ls .no .no) (ω' := ω) (tst_ev (bo_ev (lenO_at (o := .oid b) (ω1 := ω) rfl (view_net hb) rfl (c_nlen hb) (by omega) (by omega)) l1 rfl rfl (neD_sameR rfl rfl))))) ?_
  refine Eq.trans (seqS_nx (forS_nx (y_bind l1 (rng1_nat (by omega))) e)) ?_
  exact retS_ev rfl
end
end L06
namespace L06
open PySem L2 DL
local macro_rules
  | `(tactic| fail "as") => `(tactic| focus first
    | (simp only [tupT, lstT, consT, nilT, nmT, view, List.length_cons, List.length_nil, Nat.reduceAdd, if_true, List.set_cons_zero, List.set_cons_succ]; exact rfl)
    | exact rfl)
local macro_rules
  | `(tactic| fail "fi") => `(tactic| focus first
    | with_reducible assumption
    | exact rfl
    | (apply fine_of; (simp only [DL.plain, plainL, Bool.and_true, Bool.true_and]; first | done | decide +kernel); (simp only [dep, depL]; first | done | decide | omega))
    | (apply fine_of; (simp [DL.plain, plainL, *]; done); (simp only [dep, depL]; first | done | decide | omega)))
local macro_rules
  | `(tactic| fail "sd") => `(tactic| focus first
    | with_reducible assumption
    | with_reducible exact And.left (by assumption)
    | omega
    | decide
    | (simp only [List.length_cons, List.length_nil, List.length_append, List.length_map, List.length_range]; omega)
    | (simp; done)
    | (simp; omega)
    | (decide +kernel))
local macro_rules
  | `(tactic| fail "vw") => `(tactic| focus first
    | with_reducible assumption
    | exact rfl)
local macro_rules
  | `(tactic| fail "bt") => `(tactic| focus first
    | with_reducible assumption
    | with_reducible rfl
    | (exact decide_eq_true (by first | with_reducible assumption | omega))
    | (exact decide_eq_false (by first | with_reducible assumption | omega))
    | (simp only [Bool.and_eq_true, Bool.or_eq_true, Bool.not_eq_true', Bool.not_eq_false', Bool.and_eq_false_iff, Bool.or_eq_false_iff, decide_eq_true_eq, decide_eq_false_iff_not, Bool.not_true, Bool.not_false]; omega)
    | exact rfl
    | (simp [*]; done)
    | (decide +kernel))
local macro_rules
  | `(tactic| fail "op") => `(tactic| focus first
    | with_reducible assumption
    | with_reducible exact addD_int _ _
    | with_reducible exact subD_int _ _
    | with_reducible exact ltD_d _ _
    | with_reducible exact gtD_d _ _
    | with_reducible exact leD_d _ _
    | with_reducible exact geD_d _ _
    | with_reducible exact eqD_int _ _
    | with_reducible exact neD_int _ _
    | with_reducible exact lenD_lstM
    | with_reducible exact lenD_tupM
    | with_reducible exact intD_int _
    | with_reducible exact intD_bl _
    | ((with_reducible apply ixD_ints); fail "sd"; fail "sd")
    | ((with_reducible apply ixD_sgn); fail "sd"; fail "sd"; fail "sd")
    | ((with_reducible apply modD_int); fail "sd")
    | ((with_reducible apply mulD_l); fail "sd"; fail "sd")
    | ((with_reducible apply mulD_r); fail "sd"; fail "sd")
    | ((with_reducible apply fdivD_r); fail "sd"; fail "sd")
    | ((with_reducible apply eqD_str); fail "sd"; fail "sd")
    | ((with_reducible apply neD_str); fail "sd"; fail "sd")
    | ((with_reducible apply fldD_ev); exact rfl; exact rfl)
    | ((with_reducible apply neD_sameR); exact rfl; fail "fi")
    | ((with_reducible apply neD_sameL); exact rfl; fail "fi")
    | ((with_reducible apply eqD_sameR); exact rfl; fail "fi")
    | ((with_reducible apply eqD_sameL); exact rfl; fail "fi")
    | ((with_reducible apply mulSD_ev); fail "sd"; fail "sd"; fail "sd"; fail "sd")
    | with_reducible exact strD_str _
    | ((with_reducible apply strD_int); fail "sd")
    | ((with_reducible apply joinD_lst); fail "sd")
    | ((with_reducible apply addD_lstL); fail "sd")
    | ((with_reducible apply addD_tup); fail "sd")
    | ((with_reducible apply addD_strL); fail "sd")
    | exact rfl)
local macro_rules
  | `(tactic| fail "cl") => `(tactic| focus with_reducible assumption)
local macro_rules
  | `(tactic| fail "ev") => `(tactic| focus first
    | with_reducible assumption
    | exact rfl)
local macro_rules
  | `(tactic| fail "ev") => `(tactic| focus first
    | with_reducible assumption
    | with_reducible exact pure_ev
    | ((with_reducible apply y_fF); exact rfl)
    | ((with_reducible apply y_fz); exact rfl)
    | ((with_reducible apply y_ow); exact rfl)
    | ((with_reducible apply bo_ev); fail "ev"; fail "ev"; fail "vw"; fail "vw"; fail "op")
    | ((with_reducible apply uo_ev); fail "ev"; fail "vw"; fail "op")
    | ((with_reducible apply tst_ev); fail "ev")
    | ((with_reducible apply truM_ev); fail "ev")
    | ((with_reducible apply y_truT); fail "ev")
    | ((with_reducible apply y_truL); fail "ev")
    | ((with_reducible apply cons_ev); fail "ev"; fail "ev")
    | ((with_reducible apply calM_ev); fail "ev"; fail "cl")
    | ((with_reducible apply y_lenOk); fail "sd")
    | ((with_reducible apply y_mkTup); fail "sd")
    | ((with_reducible apply y_mkLst); fail "sd")
    | ((with_reducible apply rng1_nat); fail "sd")
    | ((with_reducible apply rng1_int); fail "sd"; fail "sd")
    | ((with_reducible apply notM_ev); fail "ev")
    | ((with_reducible apply notV_ev); fail "ev")
    | ((with_reducible apply orM_ev); fail "ev"; fail "ev")
    | ((with_reducible apply andM_ev); fail "ev"; fail "ev")
    | ((with_reducible apply orV_ev); fail "ev"; fail "ev")
    | ((with_reducible apply andV_ev); fail "ev"; fail "ev")
    | ((with_reducible apply y_orT); fail "ev"; fail "bt")
    | ((with_reducible apply y_orF); fail "ev"; fail "bt"; fail "ev")
    | ((with_reducible apply y_andF); fail "ev"; fail "bt")
    | ((with_reducible apply y_andT); fail "ev"; fail "bt"; fail "ev")
    | ((with_reducible apply y_orVT); fail "ev"; fail "bt")
    | ((with_reducible apply y_orVF); fail "ev"; fail "bt"; fail "ev")
    | ((with_reducible apply y_andVF); fail "ev"; fail "bt")
    | ((with_reducible apply y_andVT); fail "ev"; fail "bt"; fail "ev")
    | ((with_reducible apply y_ifT); fail "ev"; fail "bt"; fail "ev")
    | ((with_reducible apply y_ifF); fail "ev"; fail "bt"; fail "ev")
    | with_reducible exact asI_ev
    | with_reducible exact items_lst
    | with_reducible exact items_tup
    | ((with_reducible apply sl_lst_to); fail "sd")
    | ((with_reducible apply sl_lst_from); fail "sd")
    | ((with_reducible apply sl_tup_to); fail "sd")
    | ((with_reducible apply sl_tup_from); fail "sd")
    | ((with_reducible apply sl_lst_two); fail "sd"; fail "sd")
    | ((with_reducible apply binO_oo); fail "ev"; fail "ev"; fail "cl")
    | ((with_reducible apply cmpO_oo); fail "ev"; fail "ev"; fail "cl")
    | ((with_reducible apply cmpN_oo); fail "ev"; fail "ev"; fail "cl")
    | ((with_reducible apply methM_o); fail "ev"; exact rfl; fail "ev"; fail "cl")
    | ((with_reducible apply methM_ev); fail "ev"; fail "vw"; exact rfl; exact rfl; fail "ev"; fail "cl")
    | ((with_reducible apply y_bind); fail "ev"; fail "ev"))
local macro_rules
  | `(tactic| fail "rs") => `(tactic| focus (first | (simp only [List.set_cons_zero, List.set_cons_succ]; done) | (simp only [List.set_cons_zero, List.set_cons_succ]; exact rfl) | exact rfl))
local macro_rules
  | `(tactic| fail "st") => `(tactic| first
    | (with_reducible apply z_asc)
    | (with_reducible apply z_skp)
    | ((with_reducible apply z_frzOS); exact rfl; fail "rs")
    | ((with_reducible apply z_frzFS); exact rfl)
    | ((with_reducible apply z_frzO); exact rfl; fail "rs")
    | ((with_reducible apply z_frzF); exact rfl)
    | ((with_reducible apply z_set); fail "ev"; fail "rs")
    | ((with_reducible apply z_setO); fail "ev"; fail "rs")
    | ((with_reducible apply z_app); exact rfl; fail "ev"; fail "sd"; fail "rs")
    | ((with_reducible apply z_ext); exact rfl; fail "ev"; fail "vw"; fail "sd"; fail "rs")
    | ((with_reducible apply z_asg); fail "ev"; fail "as")
    | ((with_reducible apply z_exp); fail "ev")
    | ((with_reducible apply z_ret); fail "ev"; first | exact rfl | skip)
    | ((with_reducible apply z_retR); fail "ev"; first | exact rfl | skip)
    | ((with_reducible apply z_rai); fail "ev"; exact rfl)
    | ((with_reducible apply z_raiR); fail "ev"; exact rfl)
    | ((with_reducible apply z_if); fail "ev"; first | ((with_reducible apply z_ct); fail "bt") | ((with_reducible apply z_cf); fail "bt") | skip)
    | ((with_reducible apply z_ifR); fail "ev"; first | ((with_reducible apply z_ctR); fail "bt") | ((with_reducible apply z_cfR); fail "bt") | skip)
    | ((with_reducible apply z_ct); fail "bt")
    | ((with_reducible apply z_cf); fail "bt")
    | ((with_reducible apply z_ctR); fail "bt")
    | ((with_reducible apply z_cfR); fail "bt")
    | ((with_reducible apply z_for); fail "ev"; first | with_reducible assumption | assumption)
    | ((with_reducible apply e_for); fail "ev"; first | with_reducible assumption | assumption)
    | ((with_reducible apply e_set); fail "ev"; fail "rs")
    | ((with_reducible apply e_setO); fail "ev"; fail "rs")
    | ((with_reducible apply e_app); exact rfl; fail "ev"; fail "sd"; fail "rs")
    | ((with_reducible apply e_ext); exact rfl; fail "ev"; fail "vw"; fail "sd"; fail "rs")
    | ((with_reducible apply exprS_ev); fail "ev")
    | ((with_reducible apply asgS_ev); fail "ev"; fail "as")
    | ((with_reducible apply z_end); first | with_reducible exact rfl | exact rfl))
local macro_rules
  | `(tactic| fail "run") => `(tactic| (fail "st"; repeat fail "st"))
local macro_rules
  | `(tactic| fail "ex") => `(tactic| repeat (with_reducible apply Exists.intro))
local macro_rules
  | `(tactic| fail "se") => `(tactic| simp only [startE, List.map_cons, List.map_nil, List.length_cons, List.length_nil, Nat.reduceAdd, Nat.reduceSub, Nat.sub_self, List.replicate_succ, List.replicate_zero, List.cons_append, List.nil_append, List.append_nil])
local macro_rules
  | `(tactic| fail "ev") => `(tactic| focus first
    | ((with_reducible apply inO_at); fail "ev"; fail "ev"; fail "vw"; exact rfl; fail "cl"; exact rfl)
    | ((with_reducible apply lenO_at); fail "ev"; fail "vw"; exact rfl; fail "cl"; fail "sd"; fail "sd")
    | ((with_reducible apply ixO_at); fail "ev"; fail "ev"; fail "vw"; exact rfl; fail "cl")
    | ((with_reducible apply newS_at); fail "ev")
    | ((with_reducible apply sortL_at); fail "ev"; fail "vw"; fail "sd")
    | ((with_reducible apply listK_at); fail "ev"; fail "vw"))
/-! ### the nets and labels of the law -/
abbrev Ent := Option Nat × List Int
def thingD : Ent → D
  | (some b, _) => .oid b
  | (none, ls) => prP (ls.headD 0)
abbrev encD (e : Ent) : D := .tup [thingD e, .bl e.1.isSome]
abbrev labD (e : Ent) : D := .lst (e.2.map D.int)
structure Nv (ω : List Cell) (es : List Ent) : Prop where
  nets : ω[2]? = some (.lst (es.map encD))
  labs : ω[3]? = some (.lst (es.map labD))
  ok : ∀ e ∈ es, isT ω (thingD e) e.2 ∧ e.2.length ≤ 6 ∧ ∀ z ∈ e.2, okL z
  uniq : ∀ (i j b : Nat) (ls ms : List Int), es[i]? = some (some b, ls) → es[j]? = some (some b, ms) → i = j
  len : 4 ≤ es.length
section
variable {ω : List Cell} {es : List Ent}
theorem Nv.net (I : Nv ω es) {b : Nat} {ls : List Int} (h : ((some b, ls) : Ent) ∈ es) : ω[b]? = some (netC ls) := by
  rcases (I.ok _ h).1 with ⟨b', e, hb⟩ | ⟨z, e, _⟩
  · cases e; exact hb
  · cases e
theorem Nv.app (I : Nv ω es) (w : List Cell) : Nv (ω ++ w) es := ⟨app_get I.nets w, app_get I.labs w, fun e he => ⟨(I.ok e he).1.app w, (I.ok e he).2⟩, I.uniq, I.len⟩
theorem net_ne_lst {b q : Nat} {ls : List Int} {ds : List D} (h : ω[b]? = some (netC ls)) (k : ω[q]? = some (.lst ds)) : b ≠ q := fun e => by
  rw [e, k] at h; cases h
theorem isT.set {t : D} {ls : List Int} {q : Nat} (h : isT ω t ls) (hq : ∀ b, t = .oid b → q ≠ b) (c : Cell) : isT (ω.set q c) t ls := by
  rcases h with ⟨b, e, hb⟩ | h
  · exact .inl ⟨b, e, set_ne hb (hq b e) c⟩
  · exact .inr h
/-- one more net -/
theorem Nv.push (I : Nv ω es) {n : Nat} {due : List Int} (hn : ω[n]? = some (netC due)) (hf : ∀ b ls, ((some b, ls) : Ent) ∈ es → b ≠ n) (hl : due.length ≤ 6) (hz : ∀ z ∈ due, okL z) :
    Nv ((ω.set 2 (.lst (es.map encD ++ [.tup [.oid n, .bl true]]))).set 3 (.lst (es.map labD ++ [.lst (due.map D.int)]))) (es ++ [(some n, due)]) := by
  have n2 := net_ne_lst hn I.nets
  have n3 := net_ne_lst hn I.labs
  refine ⟨?_, ?_, ?_, ?_, ?_⟩
  · rw [List.map_append]
    exact set_ne (set_get I.nets _) (by decide) _
  · rw [List.map_append]
    exact set_get (set_ne I.labs (by decide) _) _
  · intro e he
    rcases List.mem_append.mp he with h | h
    · obtain ⟨h1, h2⟩ := I.ok e h
      refine ⟨?_, h2⟩
      refine (h1.set ?_ _).set ?_ _
      · intro b hb
        rcases h1 with ⟨b', e1, hb'⟩ | ⟨z, e1, _⟩
        · rw [e1] at hb; cases hb; exact fun z => net_ne_lst hb' I.nets z.symm
        · rw [e1] at hb; cases hb
      · intro b hb
        rcases h1 with ⟨b', e1, hb'⟩ | ⟨z, e1, _⟩
        · rw [e1] at hb; cases hb; exact fun z => net_ne_lst hb' I.labs z.symm
        · rw [e1] at hb; cases hb
    · rw [List.mem_singleton.mp h]
      exact ⟨.inl ⟨n, rfl, set_ne (set_ne hn (fun z => n2 z.symm) _) (fun z => n3 z.symm) _⟩, hl, hz⟩
  · intro i j b ls ms hi hj
    have key : ∀ (i : Nat) (ls : List Int), (es ++ [((some n, due) : Ent)])[i]? = some (some b, ls) → (es[i]? = some (some b, ls) ∧ b ≠ n) ∨ (i = es.length ∧ b = n) := by
      intro i ls h
      rcases Nat.lt_or_ge i es.length with hl | hl
      · rw [List.getElem?_append_left hl] at h
        exact .inl ⟨h, hf b ls (List.mem_of_getElem? h)⟩
      · rw [List.getElem?_append_right hl] at h
        have hi : i - es.length = 0 := by
          rcases Nat.eq_zero_or_pos (i - es.length) with z | z
          · exact z
          · rw [List.getElem?_eq_none (by simp; omega)] at h; cases h
        rw [hi] at h
        cases h
        exact .inr ⟨by omega, rfl⟩
    rcases key i ls hi with ⟨h1, h2⟩ | ⟨h1, h2⟩ <;> rcases key j ms hj with ⟨h3, h4⟩ | ⟨h3, h4⟩
    · exact I.uniq i j b ls ms h1 h3
    · exact absurd h4 h2
    · exact absurd h2 h4
    · omega
  · rw [List.length_append]; have := I.len; omega
/-- a net that has grown -/
theorem Nv.grow (I : Nv ω es) {i b : Nat} {ls ms : List Int} (hi : es[i]? = some (some b, ls)) (hl : (ls ++ ms).length ≤ 6) (hz : ∀ z ∈ ms, okL z) :
    Nv ((ω.set b (netC (ls ++ ms))).set 3 (.lst ((es.map labD).set i (.lst ((ls ++ ms).map D.int))))) (es.set i (some b, ls ++ ms)) := by
  have hm := List.mem_of_getElem? hi
  have hb := I.net hm
  have n2 := net_ne_lst hb I.nets
  have n3 := net_ne_lst hb I.labs
  obtain ⟨hil, hie⟩ := List.getElem?_eq_some_iff.mp hi
  have henc : (es.set i (some b, ls ++ ms)).map encD = es.map encD := by
    rw [List.map_set]
    have : encD (some b, ls ++ ms) = (es.map encD)[i]'(by rw [List.length_map]; exact hil) := by
      rw [List.getElem_map, hie]; rfl
    rw [this, List.set_getElem_self]
  refine ⟨?_, ?_, ?_, ?_, ?_⟩
  · rw [henc]
    exact set_ne (set_ne I.nets n2 _) (by decide) _
  · rw [List.map_set]
    exact set_get (set_ne I.labs n3 _) _
  · intro e he
    obtain ⟨j, hj, ej⟩ := List.mem_iff_getElem.mp he
    have hj' : j < es.length := by rw [List.length_set] at hj; exact hj
    by_cases hij : i = j
    · subst hij
      rw [List.getElem_set_self] at ej
      rw [← ej]
      refine ⟨.inl ⟨b, rfl, set_ne (set_get hb _) (fun z => n3 z.symm) _⟩, hl, fun z h => ?_⟩
      rcases List.mem_append.mp h with h | h
      · exact (I.ok _ hm).2.2 z h
      · exact hz z h
    · rw [List.getElem_set_ne hij] at ej
      have hjm : e ∈ es := by rw [← ej]; exact List.getElem_mem hj'
      obtain ⟨h1, h2⟩ := I.ok e hjm
      refine ⟨(h1.set ?_ _).set ?_ _, h2⟩
      · intro b' hb'
        rcases h1 with ⟨b2, e1, hb2⟩ | ⟨z, e1, _⟩
        · rw [e1] at hb'
          cases hb'
          intro z
          subst z
          obtain ⟨o, ks⟩ := e
          cases o with
          | none => cases e1
          | some b3 =>
            have : b3 = b := by
              have : D.oid b3 = D.oid b := e1
              exact D.oid.inj this
            subst this
            exact hij (I.uniq i j b3 ls ks hi (by have q := List.getElem?_eq_getElem (l := es) hj'; rw [ej] at q; exact q))
        · rw [e1] at hb'; cases hb'
      · intro b' hb'
        rcases h1 with ⟨b2, e1, hb2⟩ | ⟨z, e1, _⟩
        · rw [e1] at hb'; cases hb'; exact fun z => net_ne_lst hb2 I.labs z.symm
        · rw [e1] at hb'; cases hb'
  · intro j k c ls' ms' hj hk
    have key : ∀ (j : Nat) (ls' : List Int), (es.set i (some b, ls ++ ms))[j]? = some (some c, ls') → ∃ ls2, es[j]? = some (some c, ls2) := by
      intro j ls' h
      by_cases hij : i = j
      · subst hij
        rw [List.getElem?_set_self hil] at h
        cases h
        exact ⟨ls, hi⟩
      · rw [List.getElem?_set_ne hij] at h
        exact ⟨ls', h⟩
    obtain ⟨l1, h1⟩ := key j ls' hj
    obtain ⟨l2, h2⟩ := key k ms' hk
    exact I.uniq j k c l1 l2 h1 h2
  · rw [List.length_set]; exact I.len
/-! ### reading nets and labels -/
section
variable {ρ : Rho} {s i : Nat} {e : Ent}
theorem ent_ev (I : Nv ω es) (h2 : ρ[2]? = some (.fz (.oid 2))) (hs : ρ[s]? = some (.fz (.int (i : Nat)))) (he : es[i]? = some e) : (bo ixD (vW 2) (vW s)) ρ ω = some (.val (encD e) ω) :=
  bo_ev (x := .oid 2) (y := .int (i : Nat)) (ω1 := ω) (y_fz h2) (y_fz hs) (view_lst I.nets) rfl (ixD_lst (by rw [List.getElem?_map, he]; rfl))
theorem thing_ev (I : Nv ω es) (h2 : ρ[2]? = some (.fz (.oid 2))) (hs : ρ[s]? = some (.fz (.int (i : Nat)))) (he : es[i]? = some e) : (bo ixD (bo ixD (vW 2) (vW s)) (M.pure (.int 0))) ρ ω = some (.val (thingD e) ω) :=
  bo_ev (x := encD e) (y := .int 0) (ω1 := ω) (ent_ev I h2 hs he) rfl rfl rfl (ixD_t0 _ _)
theorem flag_ev (I : Nv ω es) (h2 : ρ[2]? = some (.fz (.oid 2))) (hs : ρ[s]? = some (.fz (.int (i : Nat)))) (he : es[i]? = some e) : (bo ixD (bo ixD (vW 2) (vW s)) (M.pure (.int 1))) ρ ω = some (.val (.bl e.1.isSome) ω) :=
  bo_ev (x := encD e) (y := .int 1) (ω1 := ω) (ent_ev I h2 hs he) rfl rfl rfl (ixD_t1 _ _ _)
theorem lab_ev (I : Nv ω es) (h3 : ρ[3]? = some (.fz (.oid 3))) (hs : ρ[s]? = some (.fz (.int (i : Nat)))) (he : es[i]? = some e) : (bo ixD (vW 3) (vW s)) ρ ω = some (.val (labD e) ω) :=
  bo_ev (x := .oid 3) (y := .int (i : Nat)) (ω1 := ω) (y_fz h3) (y_fz hs) (view_lst I.labs) rfl (ixD_lst (by rw [List.getElem?_map, he]; rfl))
end
theorem lenD_ints (ls : List Int) : lenD (.lst (ls.map D.int)) = some (.int (ls.length : Nat)) := by
  show some (D.int _) = _
  rw [List.length_map]
theorem addD_ints {ls ms : List Int} (h : ls.length + ms.length ≤ 1000) : addD (.lst (ls.map D.int)) (.lst (ms.map D.int)) = some (.lst ((ls ++ ms).map D.int)) := by
  rw [addD_lst (by rw [List.length_map, List.length_map]; exact h), List.map_append]
/-! ### behind the middle of a step -/
noncomputable abbrev tailS : MS := (seqS (ifS (tst (bo gtD (uo lenD (vW 10)) (M.pure (.int 6)))) (retS (bo eqD (vW 9) (M.pure (.str "machines")))) (fun ρ ω => some (.nx ρ ω)))
  (seqS (appO 2 ((consM (vF 8) (consM (M.pure (.bl true)) (M.pure []))).bind mkTup))
  (seqS (appO 3 (vF 10))
  (retS (andV (bo eqD (vW 9) (M.pure (.str ""))) (calM g__law_is (consM (vF 8) (consM (vF 10) (M.pure [])))))))))
abbrev stR (s0 s1 s4 s5 s6 s7 s8 s9 s10 s11 s12 : Sl) : Rho := [s0, s1, .fz (.oid 2), .fz (.oid 3), s4, s5, s6, s7, s8, s9, s10, s11, s12]
theorem tail_no (s0 s1 s4 s5 s6 s7 s11 s12 : Sl) {n : Nat} {due : List Int} (hl : 6 < due.length) : tailS (stR s0 s1 s4 s5 s6 s7 (.fz (.oid n)) (.fz (.str "machines")) (.fz (.lst (due.map D.int))) s11 s12) ω = some (.rt (.bl true) ω) := by
  refine seqS_rt ?_
  rw [ifS_t (ω' := ω) (tst_ev (bo_ev (x := .int (due.length : Nat)) (y := .int 6) (ω1 := ω) (uo_ev (x := .lst (due.map D.int)) (ω1 := ω) rfl rfl (lenD_ints due)) rfl rfl rfl (gtD_t (by omega))))]
  exact retS_ev (bo_ev (x := .str "machines") (y := .str "machines") (ω1 := ω) rfl rfl rfl rfl (eqD_sameR rfl (by decide +kernel)))
theorem tail_ok (s0 s1 s4 s5 s6 s7 s11 s12 : Sl) {n : Nat} {due : List Int} (I : Nv ω es) (he : es.length ≤ 100) (hn : ω[n]? = some (netC due)) (hf : ∀ b ls, ((some b, ls) : Ent) ∈ es → b ≠ n) (hl : due.length ≤ 6) (hz : ∀ z ∈ due, okL z) :
    ∃ ω', Nv ω' (es ++ [(some n, due)]) ∧ tailS (stR s0 s1 s4 s5 s6 s7 (.fz (.oid n)) (.fz (.str "")) (.fz (.lst (due.map D.int))) s11 s12) ω = some (.rt (.bl true) ω') := by
  have J := I.push hn hf hl hz
  refine ⟨_, J, ?_⟩
  refine Eq.trans (seqS_nx (ω' := ω) (ifS_f (tst_ev (bo_ev (x := .int (due.length : Nat)) (y := .int 6) (ω1 := ω) (uo_ev (x := .lst (due.map D.int)) (ω1 := ω) rfl rfl (lenD_ints due)) rfl rfl rfl (gtD_f (by omega)))))) ?_
  have l1 : (es.map encD).length ≤ 100000 := by rw [List.length_map]; omega
  have l2 : (es.map labD).length ≤ 100000 := by rw [List.length_map]; omega
  refine Eq.trans (seqS_nx (appO_at (d := .tup [.oid n, .bl true]) (k := 2) (xs := es.map encD) (ys := es.map encD) (ω' := ω) rfl I.nets rfl I.nets l1)) ?_
  have L1 : (ω.set 2 (.lst (es.map encD ++ [.tup [.oid n, .bl true]])))[3]? = some (.lst (es.map labD)) := set_ne I.labs (by decide) _
  refine Eq.trans (seqS_nx (appO_at (d := .lst (due.map D.int)) (k := 3) (xs := es.map labD) (ys := es.map labD) (ω' := ω.set 2 (.lst (es.map encD ++ [.tup [.oid n, .bl true]]))) rfl L1 rfl L1 l2)) ?_
  have hb := J.net (b := n) (ls := due) (by simp)
  refine retS_ev ?_
  refine Eq.trans (andV_t (bo_ev (x := .str "") (y := .str "") rfl rfl rfl rfl (eqD_sameR rfl (by decide +kernel)))) ?_
  exact calM_ev (ds := [.oid n, .lst (due.map D.int)]) rfl (c_is hb (by omega))
end
end L06
namespace L06
open PySem L2 DL
local macro_rules
  | `(tactic| fail "as") => `(tactic| focus first
    | (simp only [tupT, lstT, consT, nilT, nmT, view, List.length_cons, List.length_nil, Nat.reduceAdd, if_true, List.set_cons_zero, List.set_cons_succ]; exact rfl)
    | exact rfl)
local macro_rules
  | `(tactic| fail "fi") => `(tactic| focus first
    | with_reducible assumption
    | exact rfl
    | (apply fine_of; (simp only [DL.plain, plainL, Bool.and_true, Bool.true_and]; first | done | decide +kernel); (simp only [dep, depL]; first | done | decide | omega))
    | (apply fine_of; (simp [DL.plain, plainL, *]; done); (simp only [dep, depL]; first | done | decide | omega)))
local macro_rules
  | `(tactic| fail "sd") => `(tactic| focus first
    | with_reducible assumption
    | with_reducible exact And.left (by assumption)
    | omega
    | decide
    | (simp only [List.length_cons, List.length_nil, List.length_append, List.length_map, List.length_range]; omega)
    | (simp; done)
    | (simp; omega)
    | (decide +kernel))
local macro_rules
  | `(tactic| fail "vw") => `(tactic| focus first
    | with_reducible assumption
    | exact rfl)
local macro_rules
  | `(tactic| fail "bt") => `(tactic| focus first
    | with_reducible assumption
    | with_reducible rfl
    | (exact decide_eq_true (by first | with_reducible assumption | omega))
    | (exact decide_eq_false (by first | with_reducible assumption | omega))
    | (simp only [Bool.and_eq_true, Bool.or_eq_true, Bool.not_eq_true', Bool.not_eq_false', Bool.and_eq_false_iff, Bool.or_eq_false_iff, decide_eq_true_eq, decide_eq_false_iff_not, Bool.not_true, Bool.not_false]; omega)
    | exact rfl
    | (simp [*]; done)
    | (decide +kernel))
local macro_rules
  | `(tactic| fail "op") => `(tactic| focus first
    | with_reducible assumption
    | with_reducible exact addD_int _ _
    | with_reducible exact subD_int _ _
    | with_reducible exact ltD_d _ _
    | with_reducible exact gtD_d _ _
    | with_reducible exact leD_d _ _
    | with_reducible exact geD_d _ _
    | with_reducible exact eqD_int _ _
    | with_reducible exact neD_int _ _
    | with_reducible exact lenD_lstM
    | with_reducible exact lenD_tupM
    | with_reducible exact intD_int _
    | with_reducible exact intD_bl _
    | ((with_reducible apply ixD_ints); fail "sd"; fail "sd")
    | ((with_reducible apply ixD_sgn); fail "sd"; fail "sd"; fail "sd")
    | ((with_reducible apply modD_int); fail "sd")
    | ((with_reducible apply mulD_l); fail "sd"; fail "sd")
    | ((with_reducible apply mulD_r); fail "sd"; fail "sd")
    | ((with_reducible apply fdivD_r); fail "sd"; fail "sd")
    | ((with_reducible apply eqD_str); fail "sd"; fail "sd")
    | ((with_reducible apply neD_str); fail "sd"; fail "sd")
    | ((with_reducible apply fldD_ev); exact rfl; exact rfl)
    | ((with_reducible apply neD_sameR); exact rfl; fail "fi")
    | ((with_reducible apply neD_sameL); exact rfl; fail "fi")
    | ((with_reducible apply eqD_sameR); exact rfl; fail "fi")
    | ((with_reducible apply eqD_sameL); exact rfl; fail "fi")
    | ((with_reducible apply mulSD_ev); fail "sd"; fail "sd"; fail "sd"; fail "sd")
    | with_reducible exact strD_str _
    | ((with_reducible apply strD_int); fail "sd")
    | ((with_reducible apply joinD_lst); fail "sd")
    | ((with_reducible apply addD_lstL); fail "sd")
    | ((with_reducible apply addD_tup); fail "sd")
    | ((with_reducible apply addD_strL); fail "sd")
    | exact rfl)
local macro_rules
  | `(tactic| fail "cl") => `(tactic| focus with_reducible assumption)
local macro_rules
  | `(tactic| fail "ev") => `(tactic| focus first
    | with_reducible assumption
    | exact rfl)
local macro_rules
  | `(tactic| fail "ev") => `(tactic| focus first
    | with_reducible assumption
    | with_reducible exact pure_ev
    | ((with_reducible apply y_fF); exact rfl)
    | ((with_reducible apply y_fz); exact rfl)
    | ((with_reducible apply y_ow); exact rfl)
    | ((with_reducible apply bo_ev); fail "ev"; fail "ev"; fail "vw"; fail "vw"; fail "op")
    | ((with_reducible apply uo_ev); fail "ev"; fail "vw"; fail "op")
    | ((with_reducible apply tst_ev); fail "ev")
    | ((with_reducible apply truM_ev); fail "ev")
    | ((with_reducible apply y_truT); fail "ev")
    | ((with_reducible apply y_truL); fail "ev")
    | ((with_reducible apply cons_ev); fail "ev"; fail "ev")
    | ((with_reducible apply calM_ev); fail "ev"; fail "cl")
    | ((with_reducible apply y_lenOk); fail "sd")
    | ((with_reducible apply y_mkTup); fail "sd")
    | ((with_reducible apply y_mkLst); fail "sd")
    | ((with_reducible apply rng1_nat); fail "sd")
    | ((with_reducible apply rng1_int); fail "sd"; fail "sd")
    | ((with_reducible apply notM_ev); fail "ev")
    | ((with_reducible apply notV_ev); fail "ev")
    | ((with_reducible apply orM_ev); fail "ev"; fail "ev")
    | ((with_reducible apply andM_ev); fail "ev"; fail "ev")
    | ((with_reducible apply orV_ev); fail "ev"; fail "ev")
    | ((with_reducible apply andV_ev); fail "ev"; fail "ev")
    | ((with_reducible apply y_orT); fail "ev"; fail "bt")
    | ((with_reducible apply y_orF); fail "ev"; fail "bt"; fail "ev")
    | ((with_reducible apply y_andF); fail "ev"; fail "bt")
    | ((with_reducible apply y_andT); fail "ev"; fail "bt"; fail "ev")
    | ((with_reducible apply y_orVT); fail "ev"; fail "bt")
    | ((with_reducible apply y_orVF); fail "ev"; fail "bt"; fail "ev")
    | ((with_reducible apply y_andVF); fail "ev"; fail "bt")
    | ((with_reducible apply y_andVT); fail "ev"; fail "bt"; fail "ev")
    | ((with_reducible apply y_ifT); fail "ev"; fail "bt"; fail "ev")
    | ((with_reducible apply y_ifF); fail "ev"; fail "bt"; fail "ev")
    | with_reducible exact asI_ev
    | with_reducible exact items_lst
    | with_reducible exact items_tup
    | ((with_reducible apply sl_lst_to); fail "sd")
    | ((with_reducible apply sl_lst_from); fail "sd")
    | ((with_reducible apply sl_tup_to); fail "sd")
    | ((with_reducible apply sl_tup_from); fail "sd")
    | ((with_reducible apply sl_lst_two); fail "sd"; fail "sd")
    | ((with_reducible apply binO_oo); fail "ev"; fail "ev"; fail "cl")
    | ((with_reducible apply cmpO_oo); fail "ev"; fail "ev"; fail "cl")
    | ((with_reducible apply cmpN_oo); fail "ev"; fail "ev"; fail "cl")
    | ((with_reducible apply methM_o); fail "ev"; exact rfl; fail "ev"; fail "cl")
    | ((with_reducible apply methM_ev); fail "ev"; fail "vw"; exact rfl; exact rfl; fail "ev"; fail "cl")
    | ((with_reducible apply y_bind); fail "ev"; fail "ev"))
local macro_rules
  | `(tactic| fail "rs") => `(tactic| focus (first | (simp only [List.set_cons_zero, List.set_cons_succ]; done) | (simp only [List.set_cons_zero, List.set_cons_succ]; exact rfl) | exact rfl))
local macro_rules
  | `(tactic| fail "st") => `(tactic| first
    | (with_reducible apply z_asc)
    | (with_reducible apply z_skp)
    | ((with_reducible apply z_frzOS); exact rfl; fail "rs")
    | ((with_reducible apply z_frzFS); exact rfl)
    | ((with_reducible apply z_frzO); exact rfl; fail "rs")
    | ((with_reducible apply z_frzF); exact rfl)
    | ((with_reducible apply z_set); fail "ev"; fail "rs")
    | ((with_reducible apply z_setO); fail "ev"; fail "rs")
    | ((with_reducible apply z_app); exact rfl; fail "ev"; fail "sd"; fail "rs")
    | ((with_reducible apply z_ext); exact rfl; fail "ev"; fail "vw"; fail "sd"; fail "rs")
    | ((with_reducible apply z_asg); fail "ev"; fail "as")
    | ((with_reducible apply z_exp); fail "ev")
    | ((with_reducible apply z_ret); fail "ev"; first | exact rfl | skip)
    | ((with_reducible apply z_retR); fail "ev"; first | exact rfl | skip)
    | ((with_reducible apply z_rai); fail "ev"; exact rfl)
    | ((with_reducible apply z_raiR); fail "ev"; exact rfl)
    | ((with_reducible apply z_if); fail "ev"; first | ((with_reducible apply z_ct); fail "bt") | ((with_reducible apply z_cf); fail "bt") | skip)
    | ((with_reducible apply z_ifR); fail "ev"; first | ((with_reducible apply z_ctR); fail "bt") | ((with_reducible apply z_cfR); fail "bt") | skip)
    | ((with_reducible apply z_ct); fail "bt")
    | ((with_reducible apply z_cf); fail "bt")
    | ((with_reducible apply z_ctR); fail "bt")
    | ((with_reducible apply z_cfR); fail "bt")
    | ((with_reducible apply z_for); fail "ev"; first | with_reducible assumption | assumption)
    | ((with_reducible apply e_for); fail "ev"; first | with_reducible assumption | assumption)
    | ((with_reducible apply e_set); fail "ev"; fail "rs")
    | ((with_reducible apply e_setO); fail "ev"; fail "rs")
    | ((with_reducible apply e_app); exact rfl; fail "ev"; fail "sd"; fail "rs")
    | ((with_reducible apply e_ext); exact rfl; fail "ev"; fail "vw"; fail "sd"; fail "rs")
    | ((with_reducible apply exprS_ev); fail "ev")
    | ((with_reducible apply asgS_ev); fail "ev"; fail "as")
    | ((with_reducible apply z_end); first | with_reducible exact rfl | exact rfl))
local macro_rules
  | `(tactic| fail "run") => `(tactic| (fail "st"; repeat fail "st"))
local macro_rules
  | `(tactic| fail "ex") => `(tactic| repeat (with_reducible apply Exists.intro))
local macro_rules
  | `(tactic| fail "se") => `(tactic| simp only [startE, List.map_cons, List.map_nil, List.length_cons, List.length_nil, Nat.reduceAdd, Nat.reduceSub, Nat.sub_self, List.replicate_succ, List.replicate_zero, List.cons_append, List.nil_append, List.append_nil])
local macro_rules
  | `(tactic| fail "ev") => `(tactic| focus first
    | ((with_reducible apply inO_at); fail "ev"; fail "ev"; fail "vw"; exact rfl; fail "cl"; exact rfl)
    | ((with_reducible apply lenO_at); fail "ev"; fail "vw"; exact rfl; fail "cl"; fail "sd"; fail "sd")
    | ((with_reducible apply ixO_at); fail "ev"; fail "ev"; fail "vw"; exact rfl; fail "cl")
    | ((with_reducible apply newS_at); fail "ev")
    | ((with_reducible apply sortL_at); fail "ev"; fail "vw"; fail "sd")
    | ((with_reducible apply listK_at); fail "ev"; fail "vw"))
/-! ### the middle of a step -/
noncomputable abbrev joinS : MS := (seqS (setS 10 (bo addD (bo ixD (vW 3) (vW 6)) (bo ixD (vW 3) (vW 7))))
  (asgS (calM g__law_joined (consM (bo ixD (bo ixD (vW 2) (vW 6)) (M.pure (.int 0))) (consM (bo ixD (bo ixD (vW 2) (vW 7)) (M.pure (.int 0))) (M.pure [])))) (tupT 2 (consT (nmT 8) (consT (nmT 9) nilT)))))
noncomputable abbrev timesS : MS := (seqS (setS 11 (bo modD (bo fdivD (bo ixD (vW 0) (bo addD (vW 1) (M.pure (.int 2)))) (M.pure (.int 20))) (M.pure (.int 6))))
  (seqS (ifS (tst (bo eqD (vW 11) (M.pure (.int 5)))) (setS 11 (bo powD (M.pure (.int 10)) (M.pure (.int 40)))) (fun ρ ω => some (.nx ρ ω)))
  (seqS (setS 10 (bo mulLD (((consM (M.pure (.int 0)) (M.pure [])).bind lenOk).bind fun ds => M.pure (.lst ds)) (M.pure (.int 7))))
  (seqS (ifS (orM (tst (bo ltD (vW 11) (M.pure (.int 5)))) (tst (bo eqD (bo ixD (vW 3) (vW 6)) (((M.pure []).bind lenOk).bind fun ds => M.pure (.lst ds))))) (setS 10 (bo mulLD (bo ixD (vW 3) (vW 6)) (uo intD (bo modD (uo intD (vW 11)) (M.pure (.int 5)))))) (fun ρ ω => some (.nx ρ ω)))
  (asgS (calM g__law_times (consM (vF 11) (consM (bo ixD (bo ixD (vW 2) (vW 6)) (M.pure (.int 0))) (M.pure [])))) (tupT 2 (consT (nmT 8) (consT (nmT 9) nilT))))))))
noncomputable abbrev listS : MS := (seqS (setS 10 (cm__law_step_1.bind fun ds => M.pure (.lst ds)))
  (asgS (calM g__law_listed (consM (vF 10) (M.pure []))) (tupT 2 (consT (nmT 8) (consT (nmT 9) nilT)))))
/-- what the middle comes to -/
def Mid (ω : List Cell) (F : MS) (s0 s1 s4 s5 s6 s7 : Sl) : Prop := ∃ (n : Nat) (f : Str) (due : List Int) (w : List Cell) (s11 s12 : Sl), F (stR s0 s1 s4 s5 s6 s7 .no .no .no .no .no) ω = some (.nx (stR s0 s1 s4 s5 s6 s7 (.fz (.oid n)) (.fz (.str f)) (.fz (.lst (due.map D.int))) s11 s12) (ω ++ w)) ∧
  ((f = "machines" ∧ 6 < due.length) ∨ (f = "" ∧ due.length ≤ 6 ∧ (ω ++ w)[n]? = some (netC due) ∧ ω.length ≤ n ∧ ∀ z ∈ due, okL z))
section
variable {ω : List Cell} {es : List Ent} {i j k : Nat} {e1 e2 : Ent} {xs : List Int}
theorem zeros : bo mulLD (((consM (M.pure (.int 0)) (M.pure [])).bind lenOk).bind fun ds => M.pure (.lst ds)) (M.pure (.int 7)) = bo mulLD (((consM (M.pure (.int 0)) (M.pure [])).bind lenOk).bind fun ds => M.pure (.lst ds)) (M.pure (.int 7)) := rfl
theorem mid_join (I : Nv ω es) (h1 : es[i]? = some e1) (h2 : es[j]? = some e2) (s0 s1 s4 s5 : Sl) : Mid ω joinS s0 s1 s4 s5 (.fz (.int (i : Nat))) (.fz (.int (j : Nat))) := by
  obtain ⟨t1, l1, z1⟩ := I.ok e1 (List.mem_of_getElem? h1)
  obtain ⟨t2, l2, z2⟩ := I.ok e2 (List.mem_of_getElem? h2)
  have ea : (setS 10 (bo addD (bo ixD (vW 3) (vW 6)) (bo ixD (vW 3) (vW 7)))) (stR s0 s1 s4 s5 (.fz (.int (i : Nat))) (.fz (.int (j : Nat))) .no .no .no .no .no) ω = some (.nx (stR s0 s1 s4 s5 (.fz (.int (i : Nat))) (.fz (.int (j : Nat))) .no .no (.fz (.lst ((e1.2 ++ e2.2).map D.int))) .no .no) ω) :=
    setS_ev (bo_ev (x := labD e1) (y := labD e2) (ω1 := ω) (lab_ev I rfl rfl h1) (lab_ev I rfl rfl h2) rfl rfl (addD_ints (by omega)))
  have args : (consM (bo ixD (bo ixD (vW 2) (vW 6)) (M.pure (.int 0))) (consM (bo ixD (bo ixD (vW 2) (vW 7)) (M.pure (.int 0))) (M.pure []))) (stR s0 s1 s4 s5 (.fz (.int (i : Nat))) (.fz (.int (j : Nat))) .no .no (.fz (.lst ((e1.2 ++ e2.2).map D.int))) .no .no) ω = some (.val [thingD e1, thingD e2] ω) :=
    cons_ev (thing_ev I rfl rfl h1) (cons_ev (thing_ev I rfl rfl h2) (ds := []) (ω2 := ω) rfl)
  by_cases h : e1.2.length + e2.2.length ≤ 6
  · refine ⟨ω.length, "", e1.2 ++ e2.2, [netC (e1.2 ++ e2.2)], .no, .no, ?_, .inr ⟨rfl, by rw [List.length_append]; exact h, last_get ω _, Nat.le_refl _, fun z hz => ?_⟩⟩
    · exact Eq.trans (seqS_nx ea) (asgS_ev (calM_ev args (c_joined t1 t2 h)) rfl)
    · rcases List.mem_append.mp hz with q | q
      · exact z1 z q
      · exact z2 z q
  · obtain ⟨n, w, g⟩ := c_joinedX t1 t2 (by omega) ⟨by omega, by omega⟩
    refine ⟨n, "machines", e1.2 ++ e2.2, w, .no, .no, ?_, .inl ⟨rfl, by rw [List.length_append]; omega⟩⟩
    exact Eq.trans (seqS_nx ea) (asgS_ev (calM_ev args g) rfl)
theorem int_at {k : Nat} (hk : k < xs.length) {i : Int} (e : i = (k : Nat)) : ixD (dInts xs) (.int i) = some (.int xs[k]) := by
  rw [e]
  exact ixD_lst (by rw [List.getElem?_map, List.getElem?_eq_getElem hk]; rfl)
theorem ten40 : powD (.int 10) (.int 40) = some (.int (10 ^ 40)) := by
  refine powD_int (i := 10) (j := 40) ?_
  decide
theorem rep_mem {z : Int} : ∀ {n : Nat} {ls : List Int}, z ∈ rep n ls → z ∈ ls
  | 0, _, h => by cases h
  | n + 1, ls, h => by
    rcases List.mem_append.mp (show z ∈ rep n ls ++ ls from h) with q | q
    · exact rep_mem q
    · exact q
theorem mulLD_ints {ls : List Int} {m : Int} (h0 : 0 ≤ m) (h1 : m ≤ 1000) (h2 : ls.length ≤ 1000) : mulLD (.lst (ls.map D.int)) (.int m) = some (.lst ((rep m.toNat ls).map D.int)) := by
  rw [mulLD_ev h0 h1 (by rw [List.length_map]; exact h2), ← rep_flat, List.map_flatten, List.map_replicate]
/-- the number of times -/
def manyI (x : Int) : Int := if x / 20 % 6 = 5 then 10 ^ 40 else x / 20 % 6
theorem mid_times {x : Int} (I : Nv ω es) (h1 : es[i]? = some e1) (s0 s1 s4 s5 s7 : Sl) (hx : ∀ (q : List Sl) (w : List Cell), (bo ixD (vW 0) (bo addD (vW 1) (M.pure (.int 2)))) (s0 :: s1 :: q) w = some (.val (.int x) w)) (h0 : 0 ≤ x) : Mid ω timesS s0 s1 s4 s5 (.fz (.int (i : Nat))) s7 := by
  obtain ⟨t1, l1, z1⟩ := I.ok e1 (List.mem_of_getElem? h1)
  let m0 : Int := x / 20 % 6
  have m00 : 0 ≤ x / 20 % 6 := Int.emod_nonneg _ (by decide)
  have m06 : x / 20 % 6 < 6 := Int.emod_lt_of_pos _ (by decide)
  have ea : (setS 11 (bo modD (bo fdivD (bo ixD (vW 0) (bo addD (vW 1) (M.pure (.int 2)))) (M.pure (.int 20))) (M.pure (.int 6)))) (stR s0 s1 s4 s5 (.fz (.int (i : Nat))) s7 .no .no .no .no .no) ω = some (.nx (stR s0 s1 s4 s5 (.fz (.int (i : Nat))) s7 .no .no .no (.fz (.int (x / 20 % 6))) .no) ω) :=
    setS_ev (bo_ev (x := .int (x / 20)) (y := .int 6) (ω1 := ω) (bo_ev (x := .int x) (y := .int 20) (ω1 := ω) (hx _ _) rfl rfl rfl (fdivD_r (by decide) (by decide))) rfl rfl rfl (modD_int (by decide)))
  have eb : (ifS (tst (bo eqD (vW 11) (M.pure (.int 5)))) (setS 11 (bo powD (M.pure (.int 10)) (M.pure (.int 40)))) (fun ρ ω => some (.nx ρ ω))) (stR s0 s1 s4 s5 (.fz (.int (i : Nat))) s7 .no .no .no (.fz (.int (x / 20 % 6))) .no) ω = some (.nx (stR s0 s1 s4 s5 (.fz (.int (i : Nat))) s7 .no .no .no (.fz (.int (manyI x))) .no) ω) := by
    have t : (tst (bo eqD (vW 11) (M.pure (.int 5)))) (stR s0 s1 s4 s5 (.fz (.int (i : Nat))) s7 .no .no .no (.fz (.int (x / 20 % 6))) .no) ω = some (.val (decide (x / 20 % 6 = 5)) ω) := tst_ev (bo_ev (x := .int (x / 20 % 6)) (y := .int 5) (ω1 := ω) rfl rfl rfl rfl (eqD_int _ _))
    by_cases h : x / 20 % 6 = 5
    · rw [decide_eq_true h] at t
      rw [ifS_t t, show manyI x = 10 ^ 40 from if_pos h]
      exact setS_ev (bo_ev (x := .int 10) (y := .int 40) (ω1 := ω) rfl rfl rfl rfl ten40)
    · rw [decide_eq_false h] at t
      rw [ifS_f t, show manyI x = x / 20 % 6 from if_neg h]
  have ec : (setS 10 (bo mulLD (((consM (M.pure (.int 0)) (M.pure [])).bind lenOk).bind fun ds => M.pure (.lst ds)) (M.pure (.int 7)))) (stR s0 s1 s4 s5 (.fz (.int (i : Nat))) s7 .no .no .no (.fz (.int (manyI x))) .no) ω = some (.nx (stR s0 s1 s4 s5 (.fz (.int (i : Nat))) s7 .no .no (.fz (.lst ((rep 7 [0]).map D.int))) (.fz (.int (manyI x))) .no) ω) :=
    setS_ev (bo_ev (x := .lst ([0].map D.int)) (y := .int 7) (ω1 := ω) rfl rfl rfl rfl (mulLD_ints (m := 7) (by decide) (by decide) (by simp)))
  -- the due labels
  have many0 : 0 ≤ manyI x := by unfold manyI; split <;> omega
  have mod5 : 0 ≤ manyI x % 5 ∧ manyI x % 5 < 5 := ⟨Int.emod_nonneg _ (by decide), Int.emod_lt_of_pos _ (by decide)⟩
  have tl : ∀ q10 : Sl, (orM (tst (bo ltD (vW 11) (M.pure (.int 5)))) (tst (bo eqD (bo ixD (vW 3) (vW 6)) (((M.pure []).bind lenOk).bind fun ds => M.pure (.lst ds))))) (stR s0 s1 s4 s5 (.fz (.int (i : Nat))) s7 .no .no q10 (.fz (.int (manyI x))) .no) ω = some (.val (decide (manyI x < 5) || decide (e1.2 = [])) ω) := fun q10 =>
    orM_ev (tst_ev (bo_ev (x := .int (manyI x)) (y := .int 5) (ω1 := ω) rfl rfl rfl rfl rfl)) (tst_ev (bo_ev (x := labD e1) (y := .lst []) (ω1 := ω) (lab_ev I rfl rfl h1) rfl rfl rfl (by
      rw [eqD_fine (fine_ints e1.2) (by decide +kernel)]
      cases e1.2 <;> rfl)))
  have fin : ∀ (due : List Int), (∃ n w, g__law_times [.int (manyI x), thingD e1] ω = some (.val (.tup [.oid n, .str ""]) (ω ++ w)) ∧ (ω ++ w)[n]? = some (netC due) ∧ ω.length ≤ n ∧ due.length ≤ 6 ∧ ∀ z ∈ due, okL z) ∨ ((∃ n w, g__law_times [.int (manyI x), thingD e1] ω = some (.val (.tup [.oid n, .str "machines"]) (ω ++ w))) ∧ 6 < due.length) →
      (ifS (orM (tst (bo ltD (vW 11) (M.pure (.int 5)))) (tst (bo eqD (bo ixD (vW 3) (vW 6)) (((M.pure []).bind lenOk).bind fun ds => M.pure (.lst ds))))) (setS 10 (bo mulLD (bo ixD (vW 3) (vW 6)) (uo intD (bo modD (uo intD (vW 11)) (M.pure (.int 5)))))) (fun ρ ω => some (.nx ρ ω))) (stR s0 s1 s4 s5 (.fz (.int (i : Nat))) s7 .no .no (.fz (.lst ((rep 7 [0]).map D.int))) (.fz (.int (manyI x))) .no) ω = some (.nx (stR s0 s1 s4 s5 (.fz (.int (i : Nat))) s7 .no .no (.fz (.lst (due.map D.int))) (.fz (.int (manyI x))) .no) ω) → Mid ω timesS s0 s1 s4 s5 (.fz (.int (i : Nat))) s7 := by
    intro due hd ed
    have args : (consM (vF 11) (consM (bo ixD (bo ixD (vW 2) (vW 6)) (M.pure (.int 0))) (M.pure []))) (stR s0 s1 s4 s5 (.fz (.int (i : Nat))) s7 .no .no (.fz (.lst (due.map D.int))) (.fz (.int (manyI x))) .no) ω = some (.val [.int (manyI x), thingD e1] ω) :=
      cons_ev (d := .int (manyI x)) (ω1 := ω) rfl (cons_ev (thing_ev I rfl rfl h1) (ds := []) (ω2 := ω) rfl)
    rcases hd with ⟨n, w, g, g1, g2, g3, g4⟩ | ⟨⟨n, w, g⟩, g1⟩
    · refine ⟨n, "", due, w, .fz (.int (manyI x)), .no, ?_, .inr ⟨rfl, g3, g1, g2, g4⟩⟩
      exact Eq.trans (seqS_nx ea) (Eq.trans (seqS_nx eb) (Eq.trans (seqS_nx ec) (Eq.trans (seqS_nx ed) (asgS_ev (calM_ev args g) rfl))))
    · refine ⟨n, "machines", due, w, .fz (.int (manyI x)), .no, ?_, .inl ⟨rfl, g1⟩⟩
      exact Eq.trans (seqS_nx ea) (Eq.trans (seqS_nx eb) (Eq.trans (seqS_nx ec) (Eq.trans (seqS_nx ed) (asgS_ev (calM_ev args g) rfl))))
  have em : ∀ q10 : Sl, (setS 10 (bo mulLD (bo ixD (vW 3) (vW 6)) (uo intD (bo modD (uo intD (vW 11)) (M.pure (.int 5)))))) (stR s0 s1 s4 s5 (.fz (.int (i : Nat))) s7 .no .no q10 (.fz (.int (manyI x))) .no) ω = some (.nx (stR s0 s1 s4 s5 (.fz (.int (i : Nat))) s7 .no .no (.fz (.lst ((rep (manyI x % 5).toNat e1.2).map D.int))) (.fz (.int (manyI x))) .no) ω) := fun q10 =>
    setS_ev (bo_ev (x := labD e1) (y := .int (manyI x % 5)) (ω1 := ω) (lab_ev I rfl rfl h1) (uo_ev (x := .int (manyI x % 5)) (ω1 := ω) (bo_ev (x := .int (manyI x)) (y := .int 5) (ω1 := ω) (uo_ev (x := .int (manyI x)) (ω1 := ω) rfl rfl rfl) rfl rfl rfl (modD_int (by decide))) rfl rfl) rfl rfl (mulLD_ints mod5.1 (by omega) (by omega)))
  by_cases h : manyI x < 5
  · have t := tl (.fz (.lst ((rep 7 [0]).map D.int)))
    rw [decide_eq_true h, Bool.true_or] at t
    have e5 : manyI x % 5 = manyI x := Int.emod_eq_of_lt many0 h
    have emx := em (.fz (.lst ((rep 7 [0]).map D.int)))
    rw [e5] at emx
    refine fin (rep (manyI x).toNat e1.2) ?_ (by rw [ifS_t t]; exact emx)
    have em2 : (((manyI x).toNat : Nat) : Int) = manyI x := Int.toNat_of_nonneg many0
    have hlen : (((rep (manyI x).toNat e1.2).length : Nat) : Int) = manyI x * (e1.2.length : Nat) := by rw [rep_len, Int.natCast_mul, em2]
    by_cases h6 : 6 < manyI x * (e1.2.length : Nat)
    · exact .inr ⟨c_timesX t1 l1 h6, by omega⟩
    · obtain ⟨n, w, g, g1, g2⟩ := c_times t1 l1 many0 h6
      exact .inl ⟨n, w, g, g1, g2, by omega, fun z hz => z1 z (rep_mem hz)⟩
  · have h40 : manyI x = 10 ^ 40 := by
      unfold manyI at h ⊢
      split
      · rfl
      · rename_i q; rw [if_neg q] at h; omega
    have t := tl (.fz (.lst ((rep 7 [0]).map D.int)))
    rw [decide_eq_false h, Bool.false_or] at t
    by_cases hn : e1.2 = []
    · rw [decide_eq_true hn] at t
      refine fin (rep (manyI x % 5).toNat e1.2) ?_ (by rw [ifS_t t]; exact em _)
      rw [hn, rep_nil]
      have h6 : ¬ 6 < manyI x * (e1.2.length : Nat) := by rw [hn]; simp
      obtain ⟨n, w, g, g1, g2⟩ := c_times t1 l1 many0 h6
      rw [hn, rep_nil] at g1
      exact .inl ⟨n, w, g, g1, g2, by simp, fun z hz => by cases hz⟩
    · rw [decide_eq_false hn] at t
      refine fin (rep 7 [0]) ?_ (by rw [ifS_f t])
      refine .inr ⟨c_timesX t1 l1 ?_, by decide⟩
      have : 1 ≤ e1.2.length := by
        cases q : e1.2 with
        | nil => exact absurd q hn
        | cons a r => simp
      rw [h40]
      have : (10 ^ 40 : Int) * 1 ≤ 10 ^ 40 * (e1.2.length : Nat) := Int.mul_le_mul_of_nonneg_left (by omega) (by decide)
      omega
theorem mid_list {x : Int} (s0 s1 s5 s6 s7 : Sl) (hk : k < 20) (hx : ∀ (q : List Sl) (w : List Cell), (bo ixD (vW 0) (bo addD (vW 1) (M.pure (.int 2)))) (s0 :: s1 :: q) w = some (.val (.int x) w)) (h0 : 0 ≤ x) : Mid ω listS s0 s1 (.fz (.int (k : Nat))) s5 s6 s7 := by
  obtain ⟨n, hn⟩ : ∃ n : Nat, (n : Int) = x % 9 := ⟨(x % 9).toNat, Int.toNat_of_nonneg (Int.emod_nonneg _ (by decide))⟩
  have n9 : n < 9 := by have := Int.emod_lt_of_pos x (show (0 : Int) < 9 by decide); omega
  let due : List Int := (List.range n).map fun j => 100 * (k : Int) + (0 + (j : Nat))
  have dl : due.length = n := by show ((List.range n).map _).length = n; rw [List.length_map, List.length_range]
  have dz : ∀ z ∈ due, okL z := by
    intro z hz
    obtain ⟨j, hj, rfl⟩ := List.mem_map.mp hz
    have := List.mem_range.mp hj
    exact ⟨by omega, by omega⟩
  have en : (bo modD (uo intD (bo ixD (vW 0) (bo addD (vW 1) (M.pure (.int 2))))) (M.pure (.int 9))) (stR s0 s1 (.fz (.int (k : Nat))) s5 s6 s7 .no .no .no .no .no) ω = some (.val (.int (n : Nat)) ω) := by
    rw [hn]
    exact bo_ev (x := .int x) (y := .int 9) (ω1 := ω) (uo_ev (x := .int x) (ω1 := ω) (hx _ _) rfl rfl) rfl rfl rfl (modD_int (by decide))
  have ec : cm__law_step_1 (stR s0 s1 (.fz (.int (k : Nat))) s5 s6 s7 .no .no .no .no .no) ω = some (.val (due.map D.int) ω) := by
    unfold cm__law_step_1
    rw [List.map_map]
    refine lcM_map (xs := List.range n) (fun j => D.int (0 + (j : Nat))) (D.int ∘ fun j => 100 * (k : Int) + (0 + (j : Nat))) (ω1 := ω) ?_ (by rw [List.length_range, sizeLine_eq]; omega) ?_
    · exact y_bind en (rng1_nat (n := n) (by omega))
    · intro j hj
      refine ⟨stR s0 s1 (.fz (.int (k : Nat))) s5 s6 s7 .no .no .no .no (.fz (.int (0 + (j : Nat)))), rfl, ?_⟩
      exact bo_ev (x := .int (100 * (k : Int))) (y := .int (0 + (j : Nat))) (ω1 := ω) (bo_ev (x := .int 100) (y := .int (k : Nat)) (ω1 := ω) rfl rfl rfl rfl (mulD_l (by decide) (by decide))) rfl rfl rfl rfl
  have ea : (setS 10 (cm__law_step_1.bind fun ds => M.pure (.lst ds))) (stR s0 s1 (.fz (.int (k : Nat))) s5 s6 s7 .no .no .no .no .no) ω = some (.nx (stR s0 s1 (.fz (.int (k : Nat))) s5 s6 s7 .no .no (.fz (.lst (due.map D.int))) .no .no) ω) := setS_ev (y_bind ec rfl)
  by_cases h : n ≤ 6
  · obtain ⟨m, w, g, g1, g2⟩ := c_listed (ω := ω) dz (by rw [dl]; exact h)
    exact ⟨m, "", due, w, .no, .no, Eq.trans (seqS_nx ea) (asgS_ev (calM_ev (ds := [.lst (due.map D.int)]) (ω1 := ω) rfl g) rfl), .inr ⟨rfl, by rw [dl]; exact h, g1, g2, dz⟩⟩
  · obtain ⟨m, w, g⟩ := c_listedX (ω := ω) dz (by rw [dl]; omega) (by rw [dl]; omega)
    exact ⟨m, "machines", due, w, .no, .no, Eq.trans (seqS_nx ea) (asgS_ev (calM_ev (ds := [.lst (due.map D.int)]) (ω1 := ω) rfl g) rfl), .inl ⟨rfl, by rw [dl]; omega⟩⟩
end
end L06
namespace L06
open PySem L2 DL
local macro_rules
  | `(tactic| fail "as") => `(tactic| focus first
    | (simp only [tupT, lstT, consT, nilT, nmT, view, List.length_cons, List.length_nil, Nat.reduceAdd, if_true, List.set_cons_zero, List.set_cons_succ]; exact rfl)
    | exact rfl)
local macro_rules
  | `(tactic| fail "fi") => `(tactic| focus first
    | with_reducible assumption
    | exact rfl
    | (apply fine_of; (simp only [DL.plain, plainL, Bool.and_true, Bool.true_and]; first | done | decide +kernel); (simp only [dep, depL]; first | done | decide | omega))
    | (apply fine_of; (simp [DL.plain, plainL, *]; done); (simp only [dep, depL]; first | done | decide | omega)))
local macro_rules
  | `(tactic| fail "sd") => `(tactic| focus first
    | with_reducible assumption
    | with_reducible exact And.left (by assumption)
    | omega
    | decide
    | (simp only [List.length_cons, List.length_nil, List.length_append, List.length_map, List.length_range]; omega)
    | (simp; done)
    | (simp; omega)
    | (decide +kernel))
local macro_rules
  | `(tactic| fail "vw") => `(tactic| focus first
    | with_reducible assumption
    | exact rfl)
local macro_rules
  | `(tactic| fail "bt") => `(tactic| focus first
    | with_reducible assumption
    | with_reducible rfl
    | (exact decide_eq_true (by first | with_reducible assumption | omega))
    | (exact decide_eq_false (by first | with_reducible assumption | omega))
    | (simp only [Bool.and_eq_true, Bool.or_eq_true, Bool.not_eq_true', Bool.not_eq_false', Bool.and_eq_false_iff, Bool.or_eq_false_iff, decide_eq_true_eq, decide_eq_false_iff_not, Bool.not_true, Bool.not_false]; omega)
    | exact rfl
    | (simp [*]; done)
    | (decide +kernel))
local macro_rules
  | `(tactic| fail "op") => `(tactic| focus first
    | with_reducible assumption
    | with_reducible exact addD_int _ _
    | with_reducible exact subD_int _ _
    | with_reducible exact ltD_d _ _
    | with_reducible exact gtD_d _ _
    | with_reducible exact leD_d _ _
    | with_reducible exact geD_d _ _
    | with_reducible exact eqD_int _ _
    | with_reducible exact neD_int _ _
    | with_reducible exact lenD_lstM
    | with_reducible exact lenD_tupM
    | with_reducible exact intD_int _
    | with_reducible exact intD_bl _
    | ((with_reducible apply ixD_ints); fail "sd"; fail "sd")
    | ((with_reducible apply ixD_sgn); fail "sd"; fail "sd"; fail "sd")
    | ((with_reducible apply modD_int); fail "sd")
    | ((with_reducible apply mulD_l); fail "sd"; fail "sd")
    | ((with_reducible apply mulD_r); fail "sd"; fail "sd")
    | ((with_reducible apply fdivD_r); fail "sd"; fail "sd")
    | ((with_reducible apply eqD_str); fail "sd"; fail "sd")
    | ((with_reducible apply neD_str); fail "sd"; fail "sd")
    | ((with_reducible apply fldD_ev); exact rfl; exact rfl)
    | ((with_reducible apply neD_sameR); exact rfl; fail "fi")
    | ((with_reducible apply neD_sameL); exact rfl; fail "fi")
    | ((with_reducible apply eqD_sameR); exact rfl; fail "fi")
    | ((with_reducible apply eqD_sameL); exact rfl; fail "fi")
    | ((with_reducible apply mulSD_ev); fail "sd"; fail "sd"; fail "sd"; fail "sd")
    | with_reducible exact strD_str _
    | ((with_reducible apply strD_int); fail "sd")
    | ((with_reducible apply joinD_lst); fail "sd")
    | ((with_reducible apply addD_lstL); fail "sd")
    | ((with_reducible apply addD_tup); fail "sd")
    | ((with_reducible apply addD_strL); fail "sd")
    | exact rfl)
local macro_rules
  | `(tactic| fail "cl") => `(tactic| focus with_reducible assumption)
local macro_rules
  | `(tactic| fail "ev") => `(tactic| focus first
    | with_reducible assumption
    | exact rfl)
local macro_rules
  | `(tactic| fail "ev") => `(tactic| focus first
    | with_reducible assumption
    | with_reducible exact pure_ev
    | ((with_reducible apply y_fF); exact rfl)
    | ((with_reducible apply y_fz); exact rfl)
    | ((with_reducible apply y_ow); exact rfl)
    | ((with_reducible apply bo_ev); fail "ev"; fail "ev"; fail "vw"; fail "vw"; fail "op")
    | ((with_reducible apply uo_ev); fail "ev"; fail "vw"; fail "op")
    | ((with_reducible apply tst_ev); fail "ev")
    | ((with_reducible apply truM_ev); fail "ev")
    | ((with_reducible apply y_truT); fail "ev")
    | ((with_reducible apply y_truL); fail "ev")
    | ((with_reducible apply cons_ev); fail "ev"; fail "ev")
    | ((with_reducible apply calM_ev); fail "ev"; fail "cl")
    | ((with_reducible apply y_lenOk); fail "sd")
    | ((with_reducible apply y_mkTup); fail "sd")
    | ((with_reducible apply y_mkLst); fail "sd")
    | ((with_reducible apply rng1_nat); fail "sd")
    | ((with_reducible apply rng1_int); fail "sd"; fail "sd")
    | ((with_reducible apply notM_ev); fail "ev")
    | ((with_reducible apply notV_ev); fail "ev")
    | ((with_reducible apply orM_ev); fail "ev"; fail "ev")
    | ((with_reducible apply andM_ev); fail "ev"; fail "ev")
    | ((with_reducible apply orV_ev); fail "ev"; fail "ev")
    | ((with_reducible apply andV_ev); fail "ev"; fail "ev")
    | ((with_reducible apply y_orT); fail "ev"; fail "bt")
    | ((with_reducible apply y_orF); fail "ev"; fail "bt"; fail "ev")
    | ((with_reducible apply y_andF); fail "ev"; fail "bt")
    | ((with_reducible apply y_andT); fail "ev"; fail "bt"; fail "ev")
    | ((with_reducible apply y_orVT); fail "ev"; fail "bt")
    | ((with_reducible apply y_orVF); fail "ev"; fail "bt"; fail "ev")
    | ((with_reducible apply y_andVF); fail "ev"; fail "bt")
    | ((with_reducible apply y_andVT); fail "ev"; fail "bt"; fail "ev")
    | ((with_reducible apply y_ifT); fail "ev"; fail "bt"; fail "ev")
    | ((with_reducible apply y_ifF); fail "ev"; fail "bt"; fail "ev")
    | with_reducible exact asI_ev
    | with_reducible exact items_lst
    | with_reducible exact items_tup
    | ((with_reducible apply sl_lst_to); fail "sd")
    | ((with_reducible apply sl_lst_from); fail "sd")
    | ((with_reducible apply sl_tup_to); fail "sd")
    | ((with_reducible apply sl_tup_from); fail "sd")
    | ((with_reducible apply sl_lst_two); fail "sd"; fail "sd")
    | ((with_reducible apply binO_oo); fail "ev"; fail "ev"; fail "cl")
    | ((with_reducible apply cmpO_oo); fail "ev"; fail "ev"; fail "cl")
    | ((with_reducible apply cmpN_oo); fail "ev"; fail "ev"; fail "cl")
    | ((with_reducible apply methM_o); fail "ev"; exact rfl; fail "ev"; fail "cl")
    | ((with_reducible apply methM_ev); fail "ev"; fail "vw"; exact rfl; exact rfl; fail "ev"; fail "cl")
    | ((with_reducible apply y_bind); fail "ev"; fail "ev"))
local macro_rules
  | `(tactic| fail "rs") => `(tactic| focus (first | (simp only [List.set_cons_zero, List.set_cons_succ]; done) | (simp only [List.set_cons_zero, List.set_cons_succ]; exact rfl) | exact rfl))
local macro_rules
  | `(tactic| fail "st") => `(tactic| first
    | (with_reducible apply z_asc)
    | (with_reducible apply z_skp)
    | ((with_reducible apply z_frzOS); exact rfl; fail "rs")
    | ((with_reducible apply z_frzFS); exact rfl)
    | ((with_reducible apply z_frzO); exact rfl; fail "rs")
    | ((with_reducible apply z_frzF); exact rfl)
    | ((with_reducible apply z_set); fail "ev"; fail "rs")
    | ((with_reducible apply z_setO); fail "ev"; fail "rs")
    | ((with_reducible apply z_app); exact rfl; fail "ev"; fail "sd"; fail "rs")
    | ((with_reducible apply z_ext); exact rfl; fail "ev"; fail "vw"; fail "sd"; fail "rs")
    | ((with_reducible apply z_asg); fail "ev"; fail "as")
    | ((with_reducible apply z_exp); fail "ev")
    | ((with_reducible apply z_ret); fail "ev"; first | exact rfl | skip)
    | ((with_reducible apply z_retR); fail "ev"; first | exact rfl | skip)
    | ((with_reducible apply z_rai); fail "ev"; exact rfl)
    | ((with_reducible apply z_raiR); fail "ev"; exact rfl)
    | ((with_reducible apply z_if); fail "ev"; first | ((with_reducible apply z_ct); fail "bt") | ((with_reducible apply z_cf); fail "bt") | skip)
    | ((with_reducible apply z_ifR); fail "ev"; first | ((with_reducible apply z_ctR); fail "bt") | ((with_reducible apply z_cfR); fail "bt") | skip)
    | ((with_reducible apply z_ct); fail "bt")
    | ((with_reducible apply z_cf); fail "bt")
    | ((with_reducible apply z_ctR); fail "bt")
    | ((with_reducible apply z_cfR); fail "bt")
    | ((with_reducible apply z_for); fail "ev"; first | with_reducible assumption | assumption)
    | ((with_reducible apply e_for); fail "ev"; first | with_reducible assumption | assumption)
    | ((with_reducible apply e_set); fail "ev"; fail "rs")
    | ((with_reducible apply e_setO); fail "ev"; fail "rs")
    | ((with_reducible apply e_app); exact rfl; fail "ev"; fail "sd"; fail "rs")
    | ((with_reducible apply e_ext); exact rfl; fail "ev"; fail "vw"; fail "sd"; fail "rs")
    | ((with_reducible apply exprS_ev); fail "ev")
    | ((with_reducible apply asgS_ev); fail "ev"; fail "as")
    | ((with_reducible apply z_end); first | with_reducible exact rfl | exact rfl))
local macro_rules
  | `(tactic| fail "run") => `(tactic| (fail "st"; repeat fail "st"))
local macro_rules
  | `(tactic| fail "ex") => `(tactic| repeat (with_reducible apply Exists.intro))
local macro_rules
  | `(tactic| fail "se") => `(tactic| simp only [startE, List.map_cons, List.map_nil, List.length_cons, List.length_nil, Nat.reduceAdd, Nat.reduceSub, Nat.sub_self, List.replicate_succ, List.replicate_zero, List.cons_append, List.nil_append, List.append_nil])
local macro_rules
  | `(tactic| fail "ev") => `(tactic| focus first
    | ((with_reducible apply inO_at); fail "ev"; fail "ev"; fail "vw"; exact rfl; fail "cl"; exact rfl)
    | ((with_reducible apply lenO_at); fail "ev"; fail "vw"; exact rfl; fail "cl"; fail "sd"; fail "sd")
    | ((with_reducible apply ixO_at); fail "ev"; fail "ev"; fail "vw"; exact rfl; fail "cl")
    | ((with_reducible apply newS_at); fail "ev")
    | ((with_reducible apply sortL_at); fail "ev"; fail "vw"; fail "sd")
    | ((with_reducible apply listK_at); fail "ev"; fail "vw"))
/-! ### a step -/
theorem ixN_at {n j : Nat} (hj : j < n) : ixN n (j : Int) = some j := by
  unfold ixN
  rw [if_pos (by omega), if_pos (by omega)]
  simp
section
variable {ω : List Cell} {es : List Ent} {k : Nat} {xs : List Int}
theorem lab_at {ρ : Rho} {s i : Nat} {e : Ent} (L : ω[3]? = some (.lst (es.map labD))) (h3 : ρ[3]? = some (.fz (.oid 3))) (hs : ρ[s]? = some (.fz (.int (i : Nat)))) (he : es[i]? = some e) : (bo ixD (vW 3) (vW s)) ρ ω = some (.val (labD e) ω) :=
  bo_ev (x := .oid 3) (y := .int (i : Nat)) (ω1 := ω) (y_fz h3) (y_fz hs) (view_lst L) rfl (ixD_lst (by rw [List.getElem?_map, he]; rfl))
theorem len_lab {ρ : Rho} {s i : Nat} {e : Ent} (L : ω[3]? = some (.lst (es.map labD))) (h3 : ρ[3]? = some (.fz (.oid 3))) (hs : ρ[s]? = some (.fz (.int (i : Nat)))) (he : es[i]? = some e) : (uo lenD (bo ixD (vW 3) (vW s))) ρ ω = some (.val (.int (e.2.length : Nat)) ω) :=
  uo_ev (x := labD e) (ω1 := ω) (lab_at L h3 hs he) rfl (lenD_ints e.2)
noncomputable abbrev growS : MS := (seqS (asgS (calM g__law_extended (consM (bo ixD (bo ixD (vW 2) (vW 6)) (M.pure (.int 0))) (consM (bo ixD (bo ixD (vW 2) (vW 7)) (M.pure (.int 0))) (M.pure [])))) (tupT 2 (consT (nmT 8) (consT (nmT 9) nilT))))
  (seqS (ifS (tst (bo gtD (bo addD (uo lenD (bo ixD (vW 3) (vW 6))) (uo lenD (bo ixD (vW 3) (vW 7)))) (M.pure (.int 6)))) (retS (andV (bo eqD (vW 9) (M.pure (.str "machines"))) (calM g__law_is (consM (bo ixD (bo ixD (vW 2) (vW 6)) (M.pure (.int 0))) (consM (bo ixD (vW 3) (vW 6)) (M.pure [])))))) (fun ρ ω => some (.nx ρ ω)))
  (seqS (putLS (vF 3) (vF 6) (bo addD (bo ixD (vW 3) (vW 6)) (bo ixD (vW 3) (vW 7))))
  (retS (andV (bo eqD (vW 9) (M.pure (.str ""))) (andV (calM g__law_is (consM (vF 8) (consM (bo ixD (vW 3) (vW 6)) (M.pure [])))) (calM g__law_is (consM (bo ixD (bo ixD (vW 2) (vW 6)) (M.pure (.int 0))) (consM (bo ixD (vW 3) (vW 6)) (M.pure []))))))))))
theorem grow_ev {i j b : Nat} {ls : List Int} {e2 : Ent} (I : Nv ω es) (hi : es[i]? = some (some b, ls)) (hj : es[j]? = some e2) (s0 s1 s4 s5 : Sl) : ∃ es' ω', Nv ω' es' ∧ es'.length = es.length ∧ growS (stR s0 s1 s4 s5 (.fz (.int (i : Nat))) (.fz (.int (j : Nat))) .no .no .no .no .no) ω = some (.rt (.bl true) ω') := by
  have m1 := List.mem_of_getElem? hi
  obtain ⟨t1, l1, z1⟩ := I.ok _ m1
  obtain ⟨t2, l2, z2⟩ := I.ok e2 (List.mem_of_getElem? hj)
  have hb := I.net m1
  have n2 := net_ne_lst hb I.nets
  have n3 := net_ne_lst hb I.labs
  replace l1 : ls.length ≤ 6 := l1
  have args : (consM (bo ixD (bo ixD (vW 2) (vW 6)) (M.pure (.int 0))) (consM (bo ixD (bo ixD (vW 2) (vW 7)) (M.pure (.int 0))) (M.pure []))) (stR s0 s1 s4 s5 (.fz (.int (i : Nat))) (.fz (.int (j : Nat))) .no .no .no .no .no) ω = some (.val [.oid b, thingD e2] ω) :=
    cons_ev (thing_ev I rfl rfl hi) (cons_ev (thing_ev I rfl rfl hj) (ds := []) (ω2 := ω) rfl)
  have tt : ∀ (w : List Cell) (f : Str), w[3]? = some (.lst (es.map labD)) → (tst (bo gtD (bo addD (uo lenD (bo ixD (vW 3) (vW 6))) (uo lenD (bo ixD (vW 3) (vW 7)))) (M.pure (.int 6)))) (stR s0 s1 s4 s5 (.fz (.int (i : Nat))) (.fz (.int (j : Nat))) (.fz (.oid b)) (.fz (.str f)) .no .no .no) w = some (.val (decide (6 < ((ls.length : Nat) : Int) + (e2.2.length : Nat))) w) := fun w f L =>
    tst_ev (bo_ev (x := .int (((ls.length : Nat) : Int) + (e2.2.length : Nat))) (y := .int 6) (ω1 := w) (bo_ev (x := .int (ls.length : Nat)) (y := .int (e2.2.length : Nat)) (ω1 := w) (len_lab L rfl rfl hi) (len_lab L rfl rfl hj) rfl rfl rfl) rfl rfl rfl (by
      by_cases h : 6 < ((ls.length : Nat) : Int) + (e2.2.length : Nat)
      · rw [decide_eq_true h]; exact gtD_t h
      · rw [decide_eq_false h]; exact gtD_f h))
  by_cases h : ls.length + e2.2.length ≤ 6
  · have J := I.grow hi (ms := e2.2) (by rw [List.length_append]; exact h) z2
    refine ⟨_, _, J, List.length_set, ?_⟩
    have L1 : (ω.set b (netC (ls ++ e2.2)))[3]? = some (.lst (es.map labD)) := set_ne I.labs n3 _
    have t := tt _ "" L1
    rw [decide_eq_false (by omega)] at t
    refine Eq.trans (seqS_nx (ρ' := stR s0 s1 s4 s5 (.fz (.int (i : Nat))) (.fz (.int (j : Nat))) (.fz (.oid b)) (.fz (.str "")) .no .no .no) (ω' := ω.set b (netC (ls ++ e2.2))) (asgS_ev (calM_ev args (c_ext hb t2 h)) rfl)) ?_
    refine Eq.trans (seqS_nx (ω' := ω.set b (netC (ls ++ e2.2))) (ifS_f t)) ?_
    have hil : i < (es.map labD).length := by rw [List.length_map]; exact (List.getElem?_eq_some_iff.mp hi).1
    refine Eq.trans (seqS_nx (putLS_at (d := .lst ((ls ++ e2.2).map D.int)) (k := 3) (z := (i : Nat)) (ω1 := ω.set b (netC (ls ++ e2.2))) (ω2 := ω.set b (netC (ls ++ e2.2))) (bo_ev (x := labD (some b, ls)) (y := labD e2) (ω1 := ω.set b (netC (ls ++ e2.2))) (lab_at L1 rfl rfl hi) (lab_at L1 rfl rfl hj) rfl rfl (addD_ints (show ls.length + e2.2.length ≤ 1000 by omega))) rfl rfl L1 (ixN_at hil))) ?_
    have hi' : (es.set i (some b, ls ++ e2.2))[i]? = some (some b, ls ++ e2.2) := List.getElem?_set_self (List.getElem?_eq_some_iff.mp hi).1
    have hb' := J.net (List.mem_of_getElem? hi')
    generalize (ω.set b (netC (ls ++ e2.2))).set 3 (.lst ((es.map labD).set i (.lst ((ls ++ e2.2).map D.int)))) = w at J hb'
    have g := c_is hb' (by rw [List.length_append]; omega)
    refine retS_ev ?_
    refine Eq.trans (andV_t (ω1 := w) (bo_ev (x := .str "") (y := .str "") (ω1 := w) rfl rfl rfl rfl (eqD_sameR rfl (by decide +kernel)))) ?_
    refine Eq.trans (andV_t (ω1 := w) (calM_ev (ds := [.oid b, .lst ((ls ++ e2.2).map D.int)]) (ω1 := w) (cons_ev (d := .oid b) (ω1 := w) rfl (cons_ev (lab_ev J rfl rfl hi') (ds := []) (ω2 := w) rfl)) g)) ?_
    exact calM_ev (ds := [.oid b, .lst ((ls ++ e2.2).map D.int)]) (ω1 := w) (cons_ev (thing_ev J rfl rfl hi') (cons_ev (lab_ev J rfl rfl hi') (ds := []) (ω2 := w) rfl)) g
  · refine ⟨es, ω, I, rfl, ?_⟩
    have t := tt ω "machines" I.labs
    rw [decide_eq_true (by omega)] at t
    refine Eq.trans (seqS_nx (ρ' := stR s0 s1 s4 s5 (.fz (.int (i : Nat))) (.fz (.int (j : Nat))) (.fz (.oid b)) (.fz (.str "machines")) .no .no .no) (ω' := ω) (asgS_ev (calM_ev args (c_extX hb t2 (by omega) (by omega))) rfl)) ?_
    refine seqS_rt ?_
    rw [ifS_t t]
    refine retS_ev ?_
    refine Eq.trans (andV_t (ω1 := ω) (bo_ev (x := .str "machines") (y := .str "machines") (ω1 := ω) rfl rfl rfl rfl (eqD_sameR rfl (by decide +kernel)))) ?_
    exact calM_ev (ds := [.oid b, .lst (ls.map D.int)]) (ω1 := ω) (cons_ev (thing_ev I rfl rfl hi) (cons_ev (lab_ev I rfl rfl hi) (ds := []) (ω2 := ω) rfl)) (c_is hb (by omega))
theorem c_step (I : Nv ω es) (he : es.length ≤ 90) (hx : xs.length = 60) (hb : ∀ x ∈ xs, 0 ≤ x ∧ x < 1000) (hk : k < 20) : ∃ es' ω', Nv ω' es' ∧ es'.length ≤ es.length + 1 ∧ g__law_step [dInts xs, .int (3 * (k : Nat)), .oid 2, .oid 3, .int (k : Nat)] ω = some (.val (.bl true) ω') := by
  have k1 : 3 * k < xs.length := by omega
  have k2 : 3 * k + 1 < xs.length := by omega
  have k3 : 3 * k + 2 < xs.length := by omega
  have b1 := hb _ (List.getElem_mem k1)
  have b2 := hb _ (List.getElem_mem k2)
  have b3 := hb _ (List.getElem_mem k3)
  have i1 := int_at k1 (i := 3 * (k : Nat)) (by omega)
  have i2 := int_at k2 (i := 3 * (k : Nat) + 1) (by omega)
  have i3 := int_at k3 (i := 3 * (k : Nat) + 2) (by omega)
  generalize xs[3 * k] = x1 at b1 i1
  generalize xs[3 * k + 1] = x2 at b2 i2
  generalize xs[3 * k + 2] = x3 at b3 i3
  have a1 : ∀ (q : List Sl) (w : List Cell), (bo ixD (vW 0) (vW 1)) (.fz (dInts xs) :: .fz (.int (3 * (k : Nat))) :: q) w = some (.val (.int x1) w) := fun q w => bo_ev (x := dInts xs) (y := .int (3 * (k : Nat))) (ω1 := w) rfl rfl rfl rfl i1
  have a2 : ∀ (q : List Sl) (w : List Cell), (bo ixD (vW 0) (bo addD (vW 1) (M.pure (.int 1)))) (.fz (dInts xs) :: .fz (.int (3 * (k : Nat))) :: q) w = some (.val (.int x2) w) := fun q w => bo_ev (x := dInts xs) (y := .int (3 * (k : Nat) + 1)) (ω1 := w) rfl rfl rfl rfl i2
  have a3 : ∀ (q : List Sl) (w : List Cell), (bo ixD (vW 0) (bo addD (vW 1) (M.pure (.int 2)))) (.fz (dInts xs) :: .fz (.int (3 * (k : Nat))) :: q) w = some (.val (.int x3) w) := fun q w => bo_ev (x := dInts xs) (y := .int (3 * (k : Nat) + 2)) (ω1 := w) rfl rfl rfl rfl i3
  have hn : 0 < es.length := by have := I.len; omega
  have pick : ∀ x : Int, 0 ≤ x → ∃ (i : Nat) (e : Ent), (i : Int) = x % (es.length : Nat) ∧ es[i]? = some e := by
    intro x h0
    have h1 : 0 ≤ x % (es.length : Nat) := Int.emod_nonneg _ (by omega)
    have h2 : x % (es.length : Nat) < es.length := Int.emod_lt_of_pos _ (by omega)
    have hl : (x % (es.length : Nat)).toNat < es.length := by omega
    exact ⟨_, es[(x % (es.length : Nat)).toNat], Int.toNat_of_nonneg h1, List.getElem?_eq_getElem hl⟩
  obtain ⟨i, e1, hi, h1⟩ := pick x2 b2.1
  obtain ⟨j, e2, hj, h2⟩ := pick x3 b3.1
  have ln : ∀ (ρ : Rho), ρ[2]? = some (.fz (.oid 2)) → (uo lenD (vW 2)) ρ ω = some (.val (.int (es.length : Nat)) ω) := fun ρ h => uo_ev (x := .oid 2) (ω1 := ω) (y_fz h) (view_lst I.nets) (by show some (D.int _) = _; rw [List.length_map])
  let s0 : Sl := .fz (dInts xs)
  let s1 : Sl := .fz (.int (3 * (k : Nat)))
  let s4 : Sl := .fz (.int (k : Nat))
  let s5 : Sl := .fz (.int (x1 % 5))
  have start : ∀ K : MS, (seqS (setS 5 (bo modD (uo intD (bo ixD (vW 0) (vW 1))) (M.pure (.int 5))))
      (seqS (setS 6 (bo modD (uo intD (bo ixD (vW 0) (bo addD (vW 1) (M.pure (.int 1))))) (uo lenD (vW 2))))
      (seqS (setS 7 (bo modD (uo intD (bo ixD (vW 0) (bo addD (vW 1) (M.pure (.int 2))))) (uo lenD (vW 2)))) K))) (startE N__law_step [dInts xs, .int (3 * (k : Nat)), .oid 2, .oid 3, .int (k : Nat)]) ω = K (stR s0 s1 s4 s5 (.fz (.int (i : Nat))) (.fz (.int (j : Nat))) .no .no .no .no .no) ω := by
    intro K
    refine Eq.trans (seqS_nx (ρ' := stR s0 s1 s4 s5 .no .no .no .no .no .no .no) (ω' := ω) (setS_ev (bo_ev (x := .int x1) (y := .int 5) (ω1 := ω) (uo_ev (x := .int x1) (ω1 := ω) (a1 _ _) rfl rfl) rfl rfl rfl (modD_int (by decide))))) ?_
    refine Eq.trans (seqS_nx (ρ' := stR s0 s1 s4 s5 (.fz (.int (i : Nat))) .no .no .no .no .no .no) (ω' := ω) (setS_ev (d := .int (i : Nat)) (bo_ev (x := .int x2) (y := .int (es.length : Nat)) (ω1 := ω) (uo_ev (x := .int x2) (ω1 := ω) (a2 _ _) rfl rfl) (ln _ rfl) rfl rfl (by rw [modD_int (by omega), hi])))) ?_
    exact seqS_nx (ρ' := stR s0 s1 s4 s5 (.fz (.int (i : Nat))) (.fz (.int (j : Nat))) .no .no .no .no .no) (ω' := ω) (setS_ev (d := .int (j : Nat)) (bo_ev (x := .int x3) (y := .int (es.length : Nat)) (ω1 := ω) (uo_ev (x := .int x3) (ω1 := ω) (a3 _ _) rfl rfl) (ln _ rfl) rfl rfl (by rw [modD_int (by omega), hj])))
  have w5 : ∀ (c : Int) (q6 q7 : Sl), (bo eqD (vW 5) (M.pure (.int c))) (stR s0 s1 s4 s5 q6 q7 .no .no .no .no .no) ω = some (.val (.bl (decide (x1 % 5 = c))) ω) := fun c q6 q7 => bo_ev (x := .int (x1 % 5)) (y := .int c) (ω1 := ω) rfl rfl rfl rfl (eqD_int _ _)
  have t1 : (andM (tst (bo eqD (vW 5) (M.pure (.int 4)))) (truM (bo ixD (bo ixD (vW 2) (vW 6)) (M.pure (.int 1))))) (stR s0 s1 s4 s5 (.fz (.int (i : Nat))) (.fz (.int (j : Nat))) .no .no .no .no .no) ω = some (.val (decide (x1 % 5 = 4) && e1.1.isSome) ω) :=
    andM_ev (tst_ev (w5 4 _ _)) (truM_ev (flag_ev I rfl rfl h1))
  by_cases hA : x1 % 5 = 4 ∧ e1.1.isSome = true
  · -- in place
    rw [decide_eq_true hA.1, hA.2] at t1
    obtain ⟨o, ls⟩ := e1
    cases o with
    | none => cases hA.2
    | some b =>
      obtain ⟨j', e2', hj', he'⟩ : ∃ (j' : Nat) (e2' : Ent), es[j']? = some e2' ∧ (setS 7 (ifM (tst (bo eqD (bo modD (bo fdivD (bo ixD (vW 0) (bo addD (vW 1) (M.pure (.int 2)))) (M.pure (.int 20))) (M.pure (.int 3))) (M.pure (.int 0)))) (vF 6) (vF 7))) (stR s0 s1 s4 s5 (.fz (.int (i : Nat))) (.fz (.int (j : Nat))) .no .no .no .no .no) ω = some (.nx (stR s0 s1 s4 s5 (.fz (.int (i : Nat))) (.fz (.int (j' : Nat))) .no .no .no .no .no) ω) := by
        have tq : (tst (bo eqD (bo modD (bo fdivD (bo ixD (vW 0) (bo addD (vW 1) (M.pure (.int 2)))) (M.pure (.int 20))) (M.pure (.int 3))) (M.pure (.int 0)))) (stR s0 s1 s4 s5 (.fz (.int (i : Nat))) (.fz (.int (j : Nat))) .no .no .no .no .no) ω = some (.val (decide (x3 / 20 % 3 = 0)) ω) :=
          tst_ev (bo_ev (x := .int (x3 / 20 % 3)) (y := .int 0) (ω1 := ω) (bo_ev (x := .int (x3 / 20)) (y := .int 3) (ω1 := ω) (bo_ev (x := .int x3) (y := .int 20) (ω1 := ω) (a3 _ _) rfl rfl rfl (fdivD_r (by decide) (by decide))) rfl rfl rfl (modD_int (by decide))) rfl rfl rfl (eqD_int _ _))
        by_cases hq : x3 / 20 % 3 = 0
        · exact ⟨i, _, h1, setS_ev (y_ifT (r := some (R.val (D.int (i : Nat)) ω)) tq (decide_eq_true hq) rfl)⟩
        · exact ⟨j, _, h2, setS_ev (y_ifF (r := some (R.val (D.int (j : Nat)) ω)) tq (decide_eq_false hq) rfl)⟩
      obtain ⟨es', ω', J, hl, g⟩ := grow_ev I h1 hj' s0 s1 s4 s5
      refine ⟨es', ω', J, by omega, fn_rt rfl ?_⟩
      unfold b__law_step
      refine Eq.trans (start _) ?_
      refine seqS_rt ?_
      rw [ifS_t t1]
      exact Eq.trans (seqS_nx he') g
  · have hF : (decide (x1 % 5 = 4) && e1.1.isSome) = false := by
      cases q : e1.1.isSome with
      | false => rw [Bool.and_false]
      | true => rw [decide_eq_false fun z => hA ⟨z, q⟩, Bool.false_and]
    rw [hF] at t1
    have mid : Mid ω (ifS (orM (tst (bo ltD (vW 5) (M.pure (.int 2)))) (tst (bo eqD (vW 5) (M.pure (.int 4))))) joinS (ifS (tst (bo eqD (vW 5) (M.pure (.int 2)))) timesS listS)) s0 s1 s4 s5 (.fz (.int (i : Nat))) (.fz (.int (j : Nat))) := by
      have t2 : (orM (tst (bo ltD (vW 5) (M.pure (.int 2)))) (tst (bo eqD (vW 5) (M.pure (.int 4))))) (stR s0 s1 s4 s5 (.fz (.int (i : Nat))) (.fz (.int (j : Nat))) .no .no .no .no .no) ω = some (.val (decide (x1 % 5 < 2) || decide (x1 % 5 = 4)) ω) :=
        orM_ev (tst_ev (bo_ev (x := .int (x1 % 5)) (y := .int 2) (ω1 := ω) rfl rfl rfl rfl rfl)) (tst_ev (w5 4 _ _))
      cases q : (decide (x1 % 5 < 2) || decide (x1 % 5 = 4)) with
      | true =>
        rw [q] at t2
        obtain ⟨n, f, due, w, s11, s12, g, h⟩ := mid_join I h1 h2 s0 s1 s4 s5
        exact ⟨n, f, due, w, s11, s12, (ifS_t t2).trans g, h⟩
      | false =>
        rw [q] at t2
        have t3 := tst_ev (w5 2 (.fz (.int (i : Nat))) (.fz (.int (j : Nat))))
        by_cases h5 : x1 % 5 = 2
        · rw [decide_eq_true h5] at t3
          obtain ⟨n, f, due, w, s11, s12, g, h⟩ := mid_times I h1 s0 s1 s4 s5 (.fz (.int (j : Nat))) a3 b3.1
          exact ⟨n, f, due, w, s11, s12, (ifS_f t2).trans ((ifS_t t3).trans g), h⟩
        · rw [decide_eq_false h5] at t3
          obtain ⟨n, f, due, w, s11, s12, g, h⟩ := mid_list (ω := ω) (k := k) s0 s1 s5 (.fz (.int (i : Nat))) (.fz (.int (j : Nat))) hk a3 b3.1
          exact ⟨n, f, due, w, s11, s12, (ifS_f t2).trans ((ifS_f t3).trans g), h⟩
    obtain ⟨n, f, due, w, s11, s12, g, h⟩ := mid
    have J := I.app w
    rcases h with ⟨rfl, hl⟩ | ⟨rfl, hl, hn', hfresh, hz⟩
    · refine ⟨es, ω ++ w, J, by omega, fn_rt rfl ?_⟩
      unfold b__law_step
      refine Eq.trans (start _) ?_
      refine Eq.trans (seqS_nx (ω' := ω) (ifS_f t1)) ?_
      exact Eq.trans (seqS_nx g) (tail_no _ _ _ _ _ _ _ _ hl)
    · obtain ⟨ω', K, g2⟩ := tail_ok s0 s1 s4 s5 (.fz (.int (i : Nat))) (.fz (.int (j : Nat))) s11 s12 J (by omega) hn' (fun b ls hm z => by
        have := get_lt (I.net hm); omega) hl hz
      refine ⟨_, ω', K, by rw [List.length_append]; simp, fn_rt rfl ?_⟩
      unfold b__law_step
      refine Eq.trans (start _) ?_
      refine Eq.trans (seqS_nx (ω' := ω) (ifS_f t1)) ?_
      exact Eq.trans (seqS_nx g) g2
end
end L06
namespace L06
open PySem L2 DL
local macro_rules
  | `(tactic| fail "as") => `(tactic| focus first
    | (simp only [tupT, lstT, consT, nilT, nmT, view, List.length_cons, List.length_nil, Nat.reduceAdd, if_true, List.set_cons_zero, List.set_cons_succ]; exact rfl)
    | exact rfl)
local macro_rules
  | `(tactic| fail "fi") => `(tactic| focus first
    | with_reducible assumption
    | exact rfl
    | (apply fine_of; (simp only [DL.plain, plainL, Bool.and_true, Bool.true_and]; first | done | decide +kernel); (simp only [dep, depL]; first | done | decide | omega))
    | (apply fine_of; (simp [DL.plain, plainL, *]; done); (simp only [dep, depL]; first | done | decide | omega)))
local macro_rules
  | `(tactic| fail "sd") => `(tactic| focus first
    | with_reducible assumption
    | with_reducible exact And.left (by assumption)
    | omega
    | decide
    | (simp only [List.length_cons, List.length_nil, List.length_append, List.length_map, List.length_range]; omega)
    | (simp; done)
    | (simp; omega)
    | (decide +kernel))
local macro_rules
  | `(tactic| fail "vw") => `(tactic| focus first
    | with_reducible assumption
    | exact rfl)
local macro_rules
  | `(tactic| fail "bt") => `(tactic| focus first
    | with_reducible assumption
    | with_reducible rfl
    | (exact decide_eq_true (by first | with_reducible assumption | omega))
    | (exact decide_eq_false (by first | with_reducible assumption | omega))
    | (simp only [Bool.and_eq_true, Bool.or_eq_true, Bool.not_eq_true', Bool.not_eq_false', Bool.and_eq_false_iff, Bool.or_eq_false_iff, decide_eq_true_eq, decide_eq_false_iff_not, Bool.not_true, Bool.not_false]; omega)
    | exact rfl
    | (simp [*]; done)
    | (decide +kernel))
local macro_rules
  | `(tactic| fail "op") => `(tactic| focus first
    | with_reducible assumption
    | with_reducible exact addD_int _ _
    | with_reducible exact subD_int _ _
    | with_reducible exact ltD_d _ _
    | with_reducible exact gtD_d _ _
    | with_reducible exact leD_d _ _
    | with_reducible exact geD_d _ _
    | with_reducible exact eqD_int _ _
    | with_reducible exact neD_int _ _
    | with_reducible exact lenD_lstM
    | with_reducible exact lenD_tupM
    | with_reducible exact intD_int _
    | with_reducible exact intD_bl _
    | ((with_reducible apply ixD_ints); fail "sd"; fail "sd")
    | ((with_reducible apply ixD_sgn); fail "sd"; fail "sd"; fail "sd")
    | ((with_reducible apply modD_int); fail "sd")
    | ((with_reducible apply mulD_l); fail "sd"; fail "sd")
    | ((with_reducible apply mulD_r); fail "sd"; fail "sd")
    | ((with_reducible apply fdivD_r); fail "sd"; fail "sd")
    | ((with_reducible apply eqD_str); fail "sd"; fail "sd")
    | ((with_reducible apply neD_str); fail "sd"; fail "sd")
    | ((with_reducible apply fldD_ev); exact rfl; exact rfl)
    | ((with_reducible apply neD_sameR); exact rfl; fail "fi")
    | ((with_reducible apply neD_sameL); exact rfl; fail "fi")
    | ((with_reducible apply eqD_sameR); exact rfl; fail "fi")
    | ((with_reducible apply eqD_sameL); exact rfl; fail "fi")
    | ((with_reducible apply mulSD_ev); fail "sd"; fail "sd"; fail "sd"; fail "sd")
    | with_reducible exact strD_str _
    | ((with_reducible apply strD_int); fail "sd")
    | ((with_reducible apply joinD_lst); fail "sd")
    | ((with_reducible apply addD_lstL); fail "sd")
    | ((with_reducible apply addD_tup); fail "sd")
    | ((with_reducible apply addD_strL); fail "sd")
    | exact rfl)
local macro_rules
  | `(tactic| fail "cl") => `(tactic| focus with_reducible assumption)
local macro_rules
  | `(tactic| fail "ev") => `(tactic| focus first
    | with_reducible assumption
    | exact rfl)
local macro_rules
  | `(tactic| fail "ev") => `(tactic| focus first
    | with_reducible assumption
    | with_reducible exact pure_ev
    | ((with_reducible apply y_fF); exact rfl)
    | ((with_reducible apply y_fz); exact rfl)
    | ((with_reducible apply y_ow); exact rfl)
    | ((with_reducible apply bo_ev); fail "ev"; fail "ev"; fail "vw"; fail "vw"; fail "op")
    | ((with_reducible apply uo_ev); fail "ev"; fail "vw"; fail "op")
    | ((with_reducible apply tst_ev); fail "ev")
    | ((with_reducible apply truM_ev); fail "ev")
    | ((with_reducible apply y_truT); fail "ev")
    | ((with_reducible apply y_truL); fail "ev")
    | ((with_reducible apply cons_ev); fail "ev"; fail "ev")
    | ((with_reducible apply calM_ev); fail "ev"; fail "cl")
    | ((with_reducible apply y_lenOk); fail "sd")
    | ((with_reducible apply y_mkTup); fail "sd")
    | ((with_reducible apply y_mkLst); fail "sd")
    | ((with_reducible apply rng1_nat); fail "sd")
    | ((with_reducible apply rng1_int); fail "sd"; fail "sd")
    | ((with_reducible apply notM_ev); fail "ev")
    | ((with_reducible apply notV_ev); fail "ev")
    | ((with_reducible apply orM_ev); fail "ev"; fail "ev")
    | ((with_reducible apply andM_ev); fail "ev"; fail "ev")
    | ((with_reducible apply orV_ev); fail "ev"; fail "ev")
    | ((with_reducible apply andV_ev); fail "ev"; fail "ev")
    | ((with_reducible apply y_orT); fail "ev"; fail "bt")
    | ((with_reducible apply y_orF); fail "ev"; fail "bt"; fail "ev")
    | ((with_reducible apply y_andF); fail "ev"; fail "bt")
    | ((with_reducible apply y_andT); fail "ev"; fail "bt"; fail "ev")
    | ((with_reducible apply y_orVT); fail "ev"; fail "bt")
    | ((with_reducible apply y_orVF); fail "ev"; fail "bt"; fail "ev")
    | ((with_reducible apply y_andVF); fail "ev"; fail "bt")
    | ((with_reducible apply y_andVT); fail "ev"; fail "bt"; fail "ev")
    | ((with_reducible apply y_ifT); fail "ev"; fail "bt"; fail "ev")
    | ((with_reducible apply y_ifF); fail "ev"; fail "bt"; fail "ev")
    | with_reducible exact asI_ev
    | with_reducible exact items_lst
    | with_reducible exact items_tup
    | ((with_reducible apply sl_lst_to); fail "sd")
    | ((with_reducible apply sl_lst_from); fail "sd")
    | ((with_reducible apply sl_tup_to); fail "sd")
    | ((with_reducible apply sl_tup_from); fail "sd")
    | ((with_reducible apply sl_lst_two); fail "sd"; fail "sd")
    | ((with_reducible apply binO_oo); fail "ev"; fail "ev"; fail "cl")
    | ((with_reducible apply cmpO_oo); fail "ev"; fail "ev"; fail "cl")
    | ((with_reducible apply cmpN_oo); fail "ev"; fail "ev"; fail "cl")
    | ((with_reducible apply methM_o); fail "ev"; exact rfl; fail "ev"; fail "cl")
    | ((with_reducible apply methM_ev); fail "ev"; fail "vw"; exact rfl; exact rfl; fail "ev"; fail "cl")
    | ((with_reducible apply y_bind); fail "ev"; fail "ev"))
local macro_rules
  | `(tactic| fail "rs") => `(tactic| focus (first | (simp only [List.set_cons_zero, List.set_cons_succ]; done) | (simp only [List.set_cons_zero, List.set_cons_succ]; exact rfl) | exact rfl))
local macro_rules
  | `(tactic| fail "st") => `(tactic| first
    | (with_reducible apply z_asc)
    | (with_reducible apply z_skp)
    | ((with_reducible apply z_frzOS); exact rfl; fail "rs")
    | ((with_reducible apply z_frzFS); exact rfl)
    | ((with_reducible apply z_frzO); exact rfl; fail "rs")
    | ((with_reducible apply z_frzF); exact rfl)
    | ((with_reducible apply z_set); fail "ev"; fail "rs")
    | ((with_reducible apply z_setO); fail "ev"; fail "rs")
    | ((with_reducible apply z_app); exact rfl; fail "ev"; fail "sd"; fail "rs")
    | ((with_reducible apply z_ext); exact rfl; fail "ev"; fail "vw"; fail "sd"; fail "rs")
    | ((with_reducible apply z_asg); fail "ev"; fail "as")
    | ((with_reducible apply z_exp); fail "ev")
    | ((with_reducible apply z_ret); fail "ev"; first | exact rfl | skip)
    | ((with_reducible apply z_retR); fail "ev"; first | exact rfl | skip)
    | ((with_reducible apply z_rai); fail "ev"; exact rfl)
    | ((with_reducible apply z_raiR); fail "ev"; exact rfl)
    | ((with_reducible apply z_if); fail "ev"; first | ((with_reducible apply z_ct); fail "bt") | ((with_reducible apply z_cf); fail "bt") | skip)
    | ((with_reducible apply z_ifR); fail "ev"; first | ((with_reducible apply z_ctR); fail "bt") | ((with_reducible apply z_cfR); fail "bt") | skip)
    | ((with_reducible apply z_ct); fail "bt")
    | ((with_reducible apply z_cf); fail "bt")
    | ((with_reducible apply z_ctR); fail "bt")
    | ((with_reducible apply z_cfR); fail "bt")
    | ((with_reducible apply z_for); fail "ev"; first | with_reducible assumption | assumption)
    | ((with_reducible apply e_for); fail "ev"; first | with_reducible assumption | assumption)
    | ((with_reducible apply e_set); fail "ev"; fail "rs")
    | ((with_reducible apply e_setO); fail "ev"; fail "rs")
    | ((with_reducible apply e_app); exact rfl; fail "ev"; fail "sd"; fail "rs")
    | ((with_reducible apply e_ext); exact rfl; fail "ev"; fail "vw"; fail "sd"; fail "rs")
    | ((with_reducible apply exprS_ev); fail "ev")
    | ((with_reducible apply asgS_ev); fail "ev"; fail "as")
    | ((with_reducible apply z_end); first | with_reducible exact rfl | exact rfl))
local macro_rules
  | `(tactic| fail "run") => `(tactic| (fail "st"; repeat fail "st"))
local macro_rules
  | `(tactic| fail "ex") => `(tactic| repeat (with_reducible apply Exists.intro))
local macro_rules
  | `(tactic| fail "se") => `(tactic| simp only [startE, List.map_cons, List.map_nil, List.length_cons, List.length_nil, Nat.reduceAdd, Nat.reduceSub, Nat.sub_self, List.replicate_succ, List.replicate_zero, List.cons_append, List.nil_append, List.append_nil])
local macro_rules
  | `(tactic| fail "ev") => `(tactic| focus first
    | ((with_reducible apply inO_at); fail "ev"; fail "ev"; fail "vw"; exact rfl; fail "cl"; exact rfl)
    | ((with_reducible apply lenO_at); fail "ev"; fail "vw"; exact rfl; fail "cl"; fail "sd"; fail "sd")
    | ((with_reducible apply ixO_at); fail "ev"; fail "ev"; fail "vw"; exact rfl; fail "cl")
    | ((with_reducible apply newS_at); fail "ev")
    | ((with_reducible apply sortL_at); fail "ev"; fail "vw"; fail "sd")
    | ((with_reducible apply listK_at); fail "ev"; fail "vw"))
/-! ### == of nets -/
theorem eqv_int (T : List (Str × Fn)) (w : List Cell) (a b : Int) : eqv T w (.int a) (.int b) = some (decide (a = b)) := by
  simp only [eqv, flat, Bool.and_self, if_true]
  show some (a == b) = _
  rw [Bool.beq_eq_decide_eq]
theorem eqv_str (T : List (Str × Fn)) (w : List Cell) (a b : Str) : eqv T w (.str a) (.str b) = some (a == b) := by
  simp only [eqv, flat, Bool.and_self, if_true]
  rfl
theorem eqv_pz (T : List (Str × Fn)) (w : List Cell) (a b : Int) : eqv T w (.tup [.str (pnm a), .tup [.int a]]) (.tup [.str (pnm b), .tup [.int b]]) = some (decide (a = b)) := by
  have e1 : eqv T w (.tup [.int a]) (.tup [.int b]) = some (decide (a = b)) := by
    by_cases h : a = b
    · simp only [eqv, eqvL, flat, eqb]
      simp [h]
    · simp only [eqv, eqvL, flat, eqb]
      simp [h]
  have e2 : eqv T w (.tup [.str (pnm a), .tup [.int a]]) (.tup [.str (pnm b), .tup [.int b]]) = (match eqv T w (.str (pnm a)) (.str (pnm b)) with | some true => (match eqv T w (.tup [.int a]) (.tup [.int b]) with | some true => some true | r => r) | r => r) := by
    simp only [eqv, eqvL]
    try rfl
  rw [e2, eqv_str, e1]
  by_cases h : a = b
  · subst h; simp
  · by_cases q : pnm a = pnm b
    · simp [q, h]
    · simp [q, h]
theorem c_peq (w : List Cell) (a b : Int) : g_Process___eq__ [prP a, prP b] w = some (.val (.bl (decide (a = b))) w) := by
  show gr_Process___eq__ (3 + 1) [prP a, prP b] w = _
  rw [gs_Process___eq__]
  refine fn_rt rfl ?_
  unfold b_Process___eq__
  refine retS_ev ?_
  refine Eq.trans (andV_t (ω1 := w) (uo_ev (x := prP b) (ω1 := w) rfl rfl rfl)) ?_
  refine Eq.trans (andV_t (ω1 := w) (bo_ev (x := .str "call") (y := .str "call") (ω1 := w) (uo_ev (x := prP a) (ω1 := w) rfl rfl rfl) (uo_ev (x := prP b) (ω1 := w) rfl rfl rfl) rfl rfl (eqD_sameR rfl (by decide +kernel)))) ?_
  unfold eqX
  refine y_bind (a := .tup [.str (pnm a), .tup [.int a]]) (ω1 := w) (uo_ev (x := prP a) (ω1 := w) rfl rfl rfl) ?_
  refine y_bind (a := .tup [.str (pnm b), .tup [.int b]]) (ω1 := w) (uo_ev (x := prP b) (ω1 := w) rfl rfl rfl) ?_
  unfold eqTop
  simp only
  rw [eqv_pz]
  rfl
theorem eqv_pp (w : List Cell) (a b : Int) : eqv [("Process", g_Process___eq__)] w (prP a) (prP b) = some (decide (a = b)) := by
  have h := c_peq w a b
  have hk : ([("Process", g_Process___eq__)] : List (Str × Fn)).lookup ("Process" : Str) = some g_Process___eq__ := rfl
  have inj : prP a = prP b → decide (a = b) = true := by
    intro z
    have : c_peq w a b = c_peq w a b := rfl
    rw [z, c_peq w b b, decide_eq_true rfl] at h
    injection h with h1
    injection h1 with h2 _
    injection h2 with h3
    exact h3.symm
  simp only [eqv, if_true, hk, h]
  rw [if_pos ⟨rfl, fun z => inj (by rw [show prP a = .obj "Process" _ from rfl, z])⟩]
theorem eqvL_pp (w : List Cell) : ∀ ls ms : List Int, ls.length = ms.length → eqvL [("Process", g_Process___eq__)] w (prs ls) (prs ms) = some (decide (ls = ms))
  | [], [], _ => by simp only [eqvL]; rfl
  | [], _ :: _, h => by cases h
  | _ :: _, [], h => by cases h
  | a :: ls, b :: ms, h => by
    have ih := eqvL_pp w ls ms (by simpa using h)
    show eqvL _ w (prP a :: prs ls) (prP b :: prs ms) = _
    rw [eqvL, eqv_pp]
    by_cases e : a = b
    · rw [decide_eq_true e]
      simp only
      rw [ih]
      congr 1
      exact decide_eq_decide.mpr ⟨fun z => by rw [e, z], fun z => (List.cons.inj z).2⟩
    · rw [decide_eq_false e, decide_eq_false fun z => e (List.cons.inj z).1]
theorem shp_prs : ∀ ls : List Int, shpL ["Process"] (prs ls) = true
  | [] => rfl
  | a :: ls => by
    show (shp ["Process"] (prP a) && shpL ["Process"] (prs ls)) = true
    rw [shp_prs ls]; rfl
theorem ht_prs : ∀ ls : List Int, htL (prs ls) = 0
  | [] => rfl
  | a :: ls => by
    show max (ht (prP a)) (htL (prs ls)) = 0
    rw [ht_prs ls]; rfl
theorem c_neq {ω : List Cell} {b c : Nat} {ls ms : List Int} (hb : ω[b]? = some (netC ls)) (hc : ω[c]? = some (netC ms)) : g_Net___eq__ [.oid b, .oid c] ω = some (.val (.bl (decide (ls = ms))) ω) := by
  refine fn_rt rfl ?_
  unfold b_Net___eq__
  refine retS_ev ?_
  refine Eq.trans (andV_t (ω1 := ω) (uo_ev (x := .oid c) (ω1 := ω) rfl (view_net hc) rfl)) ?_
  unfold eqX
  refine y_bind (nrows_ev rfl hb) (y_bind (nrows_ev rfl hc) ?_)
  unfold eqTop
  simp only
  have s1 : shpL (([("Process", g_Process___eq__)] : List (Str × Fn)).map (·.1)) (prs ls) = true := shp_prs ls
  have s2 : shpL (([("Process", g_Process___eq__)] : List (Str × Fn)).map (·.1)) (prs ms) = true := shp_prs ms
  rw [s1, s2, ht_prs, if_pos (by rfl)]
  have e : eqv [("Process", g_Process___eq__)] ω (.lst (prs ls)) (.lst (prs ms)) = some (decide (ls = ms)) := by
    simp only [eqv]
    have h1 : (prs ls).length = ls.length := List.length_map ..
    have h2 : (prs ms).length = ms.length := List.length_map ..
    by_cases h : ls.length = ms.length
    · rw [if_pos (by rw [h1, h2]; exact h)]
      exact eqvL_pp ω ls ms h
    · rw [if_neg (by rw [h1, h2]; exact h), decide_eq_false fun z => h (by rw [z])]
  rw [e]; rfl
/-! ### the law -/
theorem eqb_ints : ∀ ls ms : List Int, eqbL (ls.map D.int) (ms.map D.int) = decide (ls = ms)
  | [], [] => rfl
  | [], _ :: _ => rfl
  | _ :: _, [] => rfl
  | a :: ls, b :: ms => by
    show ((a == b) && eqbL (ls.map D.int) (ms.map D.int)) = _
    rw [eqb_ints ls ms, Bool.beq_eq_decide_eq]
    by_cases h : a = b <;> by_cases k : ls = ms <;> simp [h, k]
theorem eq_ints (ls ms : List Int) : eqD (.lst (ls.map D.int)) (.lst (ms.map D.int)) = some (.bl (decide (ls = ms))) := by
  rw [eqD_fine (fine_ints ls) (fine_ints ms)]
  show some (D.bl (eqbL (ls.map D.int) (ms.map D.int))) = _
  rw [eqb_ints]
abbrev es0 : List Ent := [(some 0, []), (some 1, [1, 2]), (none, [3]), (none, [4])]
abbrev w00 : List Cell := [netC [], netC [1, 2], .lst [encD (some 0, []), encD (some 1, [1, 2]), encD (none, [3])]]
abbrev w0 : List Cell := [netC [], netC [1, 2], .lst (es0.map encD), .lst (es0.map labD)]
theorem nv0 : Nv w0 es0 := by
  refine ⟨rfl, rfl, ?_, ?_, by decide⟩
  · intro e he
    simp only [es0, List.mem_cons, List.not_mem_nil, or_false] at he
    rcases he with rfl | rfl | rfl | rfl
    · exact ⟨.inl ⟨0, rfl, rfl⟩, by decide, fun z h => by cases h⟩
    · refine ⟨.inl ⟨1, rfl, rfl⟩, by decide, fun z h => ?_⟩
      simp only [List.mem_cons, List.not_mem_nil, or_false] at h
      rcases h with rfl | rfl <;> exact ⟨by decide, by decide⟩
    · refine ⟨.inr ⟨3, rfl, rfl⟩, by decide, fun z h => ?_⟩
      rw [List.mem_singleton.mp h]; exact ⟨by decide, by decide⟩
    · refine ⟨.inr ⟨4, rfl, rfl⟩, by decide, fun z h => ?_⟩
      rw [List.mem_singleton.mp h]; exact ⟨by decide, by decide⟩
  · intro i j b ls ms hi hj
    match i, j, hi, hj with
    | 0, 0, _, _ => rfl
    | 1, 1, _, _ => rfl
    | 0, 1, h, k => cases h; cases k
    | 1, 0, h, k => cases h; cases k
    | 2, _, h, _ => cases h
    | 3, _, h, _ => cases h
    | _, 2, _, k => cases k
    | _, 3, _, k => cases k
    | n + 4, _, h, _ => cases h
    | _, n + 4, _, k => cases k
abbrev lR (ns : List Int) (s3 s4 s5 s6 : Sl) : Rho := [.fz (.scr ns), .fz (.oid 2), .fz (.oid 3), s3, s4, s5, s6]
section
variable {ω : List Cell} {es : List Ent} {ns : List Int}
theorem nets_ev {ρ : Rho} {s i : Nat} {e : Ent} (N : ω[2]? = some (.lst (es.map encD))) (h2 : ρ[1]? = some (.fz (.oid 2))) (hs : ρ[s]? = some (.fz (.int (i : Nat)))) (he : es[i]? = some e) : (bo ixD (vW 1) (vW s)) ρ ω = some (.val (encD e) ω) :=
  bo_ev (x := .oid 2) (y := .int (i : Nat)) (ω1 := ω) (y_fz h2) (y_fz hs) (view_lst N) rfl (ixD_lst (by rw [List.getElem?_map, he]; rfl))
theorem nthing_ev {ρ : Rho} {s i : Nat} {e : Ent} (N : ω[2]? = some (.lst (es.map encD))) (h2 : ρ[1]? = some (.fz (.oid 2))) (hs : ρ[s]? = some (.fz (.int (i : Nat)))) (he : es[i]? = some e) : (bo ixD (bo ixD (vW 1) (vW s)) (M.pure (.int 0))) ρ ω = some (.val (thingD e) ω) :=
  bo_ev (x := encD e) (y := .int 0) (ω1 := ω) (nets_ev N h2 hs he) rfl rfl rfl (ixD_t0 _ _)
theorem nflag_ev {ρ : Rho} {s i : Nat} {e : Ent} (N : ω[2]? = some (.lst (es.map encD))) (h2 : ρ[1]? = some (.fz (.oid 2))) (hs : ρ[s]? = some (.fz (.int (i : Nat)))) (he : es[i]? = some e) : (bo ixD (bo ixD (vW 1) (vW s)) (M.pure (.int 1))) ρ ω = some (.val (.bl e.1.isSome) ω) :=
  bo_ev (x := encD e) (y := .int 1) (ω1 := ω) (nets_ev N h2 hs he) rfl rfl rfl (ixD_t1 _ _ _)
theorem nlab_ev {ρ : Rho} {s i : Nat} {e : Ent} (L : ω[3]? = some (.lst (es.map labD))) (h3 : ρ[2]? = some (.fz (.oid 3))) (hs : ρ[s]? = some (.fz (.int (i : Nat)))) (he : es[i]? = some e) : (bo ixD (vW 2) (vW s)) ρ ω = some (.val (labD e) ω) :=
  bo_ev (x := .oid 3) (y := .int (i : Nat)) (ω1 := ω) (y_fz h3) (y_fz hs) (view_lst L) rfl (ixD_lst (by rw [List.getElem?_map, he]; rfl))
/-- the numbers of the nets -/
def isNet (es : List Ent) (i : Nat) : Bool := match es[i]? with
  | some e => e.1.isSome
  | none => false
theorem isNet_some {i : Nat} (h : isNet es i = true) : ∃ b ls, es[i]? = some (some b, ls) := by
  unfold isNet at h
  split at h
  · rename_i e he
    obtain ⟨o, ls⟩ := e
    cases o with
    | none => cases h
    | some b => exact ⟨b, ls, he⟩
  · cases h
def held (es : List Ent) : List Nat := (List.range es.length).filter (isNet es)
abbrev heldD (es : List Ent) : List D := (held es).map fun i => D.int (i : Nat)
theorem held_net {i : Nat} (h : i ∈ held es) : ∃ b ls, es[i]? = some (some b, ls) := isNet_some (List.mem_filter.mp h).2
theorem held_ev (I : Nv ω es) (he : es.length ≤ 200) (s3 s4 s6 : Sl) : cm_law_1 (lR ns s3 s4 .no s6) ω = some (.val (heldD es) ω) := by
  unfold cm_law_1
  show _ = some (R.val (((List.range es.length).filter (isNet es)).map fun i => D.int (i : Nat)) ω)
  refine lcM_enc (xs := List.range es.length) (fun i => D.int (0 + (i : Nat))) (isNet es) (fun i => D.int (i : Nat)) (ω1 := ω) ?_ (by rw [List.length_range, sizeLine_eq]; omega) ?_
  · exact y_bind (uo_ev (x := .oid 2) (ω1 := ω) rfl (view_lst I.nets) (show lenD (.lst (es.map encD)) = some (.int (es.length : Nat)) by show some (D.int _) = _; rw [List.length_map])) (rng1_nat (n := es.length) (by omega))
  · intro i hi
    have hi := List.mem_range.mp hi
    have e0 : (0 + (i : Nat) : Int) = (i : Int) := by omega
    refine ⟨lR ns s3 (.fz (.int (0 + (i : Nat)))) .no s6, rfl, ?_, fun _ => ?_⟩
    · have hg := List.getElem?_eq_getElem hi
      have hq : isNet es i = es[i].1.isSome := by unfold isNet; rw [hg]
      rw [hq, e0]
      exact truM_ev (nflag_ev I.nets rfl rfl hg)
    · rw [e0]; rfl
theorem pair_ev (I : Nv ω es) {i j : Nat} (hi : i ∈ held es) (hj : j ∈ held es) (s3 s5 : Sl) : lb_law_2 g_Net___eq__ (lR ns s3 (.fz (.int (i : Nat))) s5 (.fz (.int (j : Nat)))) ω = some (.nx (lR ns s3 (.fz (.int (i : Nat))) s5 (.fz (.int (j : Nat)))) ω) := by
  obtain ⟨b, ls, h1⟩ := held_net hi
  obtain ⟨c, ms, h2⟩ := held_net hj
  have hb := I.net (List.mem_of_getElem? h1)
  have hc := I.net (List.mem_of_getElem? h2)
  unfold lb_law_2
  have kd : kdS ω (.oid b) (.oid c) = true := by unfold kdS; rw [view_net hb, view_net hc]; rfl
  have t : (tst (bo neD (cmpO "__eq__" [("Net", g_Net___eq__)] (bo ixD (bo ixD (vW 1) (vW 4)) (M.pure (.int 0))) (bo ixD (bo ixD (vW 1) (vW 6)) (M.pure (.int 0)))) (bo eqD (bo ixD (vW 2) (vW 4)) (bo ixD (vW 2) (vW 6))))) (lR ns s3 (.fz (.int (i : Nat))) s5 (.fz (.int (j : Nat)))) ω = some (.val false ω) :=
    tst_ev (bo_ev (x := .bl (decide (ls = ms))) (y := .bl (decide (ls = ms))) (ω1 := ω) (cmpO_ev (x := .oid b) (y := .oid c) (ω1 := ω) (ω2 := ω) (nthing_ev I.nets rfl rfl h1) (nthing_ev I.nets rfl rfl h2) kd (view_net hb) rfl (c_neq hb hc))
      (bo_ev (x := labD (some b, ls)) (y := labD (some c, ms)) (ω1 := ω) (nlab_ev I.labs rfl rfl h1) (nlab_ev I.labs rfl rfl h2) rfl rfl (eq_ints ls ms)) rfl rfl (neD_sameR rfl rfl))
  exact ifS_f t
theorem held_get {j : Nat} {d : D} (h : (heldD es)[j]? = some d) : ∃ i, i ∈ held es ∧ d = .int (i : Nat) := by
  rw [List.getElem?_map] at h
  cases q : (held es)[j]? with
  | none => rw [q] at h; cases h
  | some i => rw [q] at h; cases h; exact ⟨i, List.mem_of_getElem? q, rfl⟩
theorem one_ev (I : Nv ω es) {i : Nat} (hi : i ∈ held es) (s3 s6 : Sl) : ∃ p6, lb_law_3 g_Net___eq__ g__law_is (lR ns s3 (.fz (.int (i : Nat))) (.fz (.lst (heldD es))) s6) ω = some (.nx (lR ns s3 (.fz (.int (i : Nat))) (.fz (.lst (heldD es))) p6) ω) := by
  obtain ⟨b, ls, h1⟩ := held_net hi
  have hm := List.mem_of_getElem? h1
  have hb := I.net hm
  have hl : ls.length ≤ 6 := (I.ok _ hm).2.1
  obtain ⟨ρ', ω', e, p6, rfl, rfl⟩ := forGo_thru (T := nmT 6) (F := lb_law_2 g_Net___eq__)
    (fun k ρ w => ∃ (p6 : Sl), ρ = lR ns s3 (.fz (.int (i : Nat))) (.fz (.lst (heldD es))) p6 ∧ ω = w)
    (items := heldD es) (ρ := lR ns s3 (.fz (.int (i : Nat))) (.fz (.lst (heldD es))) s6) (ω := ω) ⟨s6, rfl, rfl⟩ (by
      rintro k d ρ w hd ⟨p6, rfl, rfl⟩
      obtain ⟨j, hj, rfl⟩ := held_get hd
      exact ⟨_, _, ω, rfl, pair_ev I hi hj s3 (.fz (.lst (heldD es))), _, rfl, rfl⟩)
  refine ⟨p6, ?_⟩
  unfold lb_law_3
  refine Eq.trans (seqS_nx (ω' := ω) (ifS_f (notM_ev (b := true) (truM_ev (calM_ev (ds := [.oid b, .lst (ls.map D.int)]) (ω1 := ω) (cons_ev (nthing_ev I.nets rfl rfl h1) (cons_ev (nlab_ev I.labs rfl rfl h1) (ds := []) (ω2 := ω) rfl)) (c_is hb (by omega))))))) ?_
  exact forS_nx (y_bind (a := .lst (heldD es)) (ω1 := ω) rfl rfl) e
end
theorem law_true : ∀ ns : List Int, ns.length ≤ 63 → ∃ ω, g_law [.scr ns] [] = some (.val (.bl true) ω) := by
  intro ns _
  have okz : ∀ z : Int, z = 1 ∨ z = 2 ∨ z = 3 ∨ z = 4 → okL z := by
    intro z h
    rcases h with rfl | rfl | rfl | rfl <;> exact ⟨by decide, by decide⟩
  have pc : ∀ (z : Int) (ρ : Rho) (w : List Cell), okL z → (calM g__law_process (consM (M.pure (.int z)) (M.pure []))) ρ w = some (.val (prP z) w) := fun z ρ w h => calM_ev (ds := [.int z]) (ω1 := w) rfl (c_process w h)
  have n0 : ∀ ρ : Rho, ((consM (((M.pure []).bind lenOk).bind fun ds => M.pure (.lst ds)) (M.pure [])).bind (mkN "Net" g_mk_Net)) ρ [] = some (.val (.oid 0) [netC []]) := fun ρ =>
    mkN_at (ω1 := []) (cons_ev (d := .lst []) (ω1 := []) rfl (ds := []) (ω2 := []) rfl) (c_mkNet (ls := []) [] rfl (by decide))
  have n1 : ∀ ρ : Rho, ((consM (((consM (calM g__law_process (consM (M.pure (.int 1)) (M.pure []))) (consM (calM g__law_process (consM (M.pure (.int 2)) (M.pure []))) (M.pure []))).bind lenOk).bind fun ds => M.pure (.lst ds)) (M.pure [])).bind (mkN "Net" g_mk_Net)) ρ [netC []] = some (.val (.oid 1) [netC [], netC [1, 2]]) := fun ρ =>
    mkN_at (ω1 := [netC []]) (cons_ev (d := .lst (prs [1, 2])) (ω1 := [netC []]) (y_bind (y_bind (cons_ev (pc 1 ρ _ (okz 1 (by simp))) (cons_ev (pc 2 ρ _ (okz 2 (by simp))) (ds := []) (ω2 := [netC []]) rfl)) rfl) rfl) (ds := []) (ω2 := [netC []]) rfl) (c_mkNet (ls := [1, 2]) [netC []] rfl (by decide))
  have e1 : (setN 1 ((consM ((consM ((consM (((M.pure []).bind lenOk).bind fun ds => M.pure (.lst ds)) (M.pure [])).bind (mkN "Net" g_mk_Net)) (consM (M.pure (.bl true)) (M.pure []))).bind mkTup) (consM ((consM ((consM (((consM (calM g__law_process (consM (M.pure (.int 1)) (M.pure []))) (consM (calM g__law_process (consM (M.pure (.int 2)) (M.pure []))) (M.pure []))).bind lenOk).bind fun ds => M.pure (.lst ds)) (M.pure [])).bind (mkN "Net" g_mk_Net)) (consM (M.pure (.bl true)) (M.pure []))).bind mkTup) (consM ((consM (calM g__law_process (consM (M.pure (.int 3)) (M.pure []))) (consM (M.pure (.bl false)) (M.pure []))).bind mkTup) (M.pure [])))).bind lenOk)) (startE N_law [.scr ns]) [] = some (.nx [.fz (.scr ns), .fz (.oid 2), .no, .no, .no, .no, .no] w00) :=
    setN_at (ds := [encD (some 0, []), encD (some 1, [1, 2]), encD (none, [3])]) (ω' := [netC [], netC [1, 2]]) (y_bind (cons_ev (d := encD (some 0, [])) (ω1 := [netC []]) (tup_ev (cons_ev (n0 _) (cons_ev (d := .bl true) (ω1 := [netC []]) rfl (ds := []) (ω2 := [netC []]) rfl)) (by simp)) (cons_ev (d := encD (some 1, [1, 2])) (ω1 := [netC [], netC [1, 2]]) (tup_ev (cons_ev (n1 _) (cons_ev (d := .bl true) (ω1 := [netC [], netC [1, 2]]) rfl (ds := []) (ω2 := [netC [], netC [1, 2]]) rfl)) (by simp)) (cons_ev (d := encD (none, [3])) (ω1 := [netC [], netC [1, 2]]) (tup_ev (cons_ev (pc 3 _ _ (okz 3 (by simp))) (cons_ev (d := .bl false) (ω1 := [netC [], netC [1, 2]]) rfl (ds := []) (ω2 := [netC [], netC [1, 2]]) rfl)) (by simp)) (ds := []) (ω2 := [netC [], netC [1, 2]]) rfl))) rfl)
  have h4 := c_cell (ns := ns) (k := 0) w0 (by decide)
  have h5 : g__law_row [.int (cellI ns 0), .int 60] w0 = some (.val (dInts (rowI (cellI ns 0) 60)) w0) := c_row (n := 60) w0 (by decide)
  have lx := rowI_len (cellI ns 0) 60
  have bx := rowI_bd (cellI ns 0) 60
  generalize rowI (cellI ns 0) 60 = xs at h5 lx bx
  obtain ⟨ρ', ω', e, s4, es, I, hl, rfl⟩ := forGo_thru (T := nmT 4) (F := lb_law_1 g__law_step)
    (fun k ρ w => ∃ (s4 : Sl) (es : List Ent), Nv w es ∧ es.length ≤ 4 + k ∧ ρ = lR ns (.fz (dInts xs)) s4 .no .no)
    (items := rangeD 0 20) (ρ := lR ns (.fz (dInts xs)) .no .no .no) (ω := w0) ⟨.no, es0, nv0, by decide, rfl⟩ (by
      rintro k d ρ w hd ⟨s4, es, I, hl, rfl⟩
      obtain ⟨hk, rfl⟩ := rangeD_get hd
      have e0 : (0 + (k : Nat) : Int) = (k : Int) := by omega
      rw [e0]
      obtain ⟨es', w', J, hl', g⟩ := c_step I (by omega) lx bx hk
      refine ⟨_, lR ns (.fz (dInts xs)) (.fz (.int (k : Nat))) .no .no, w', rfl, ?_, _, es', J, by omega, rfl⟩
      unfold lb_law_1
      exact ifS_f (notM_ev (b := true) (truM_ev (calM_ev (ds := [dInts xs, .int (3 * (k : Nat)), .oid 2, .oid 3, .int (k : Nat)]) (ω1 := w) (cons_ev (d := dInts xs) (ω1 := w) rfl (cons_ev (d := .int (3 * (k : Nat))) (ω1 := w) (bo_ev (x := .int 3) (y := .int (k : Nat)) (ω1 := w) rfl rfl rfl rfl (mulD_l (by decide) (by decide))) (ds := [.oid 2, .oid 3, .int (k : Nat)]) (ω2 := w) rfl)) g))))
  have hlen : (rangeD 0 20).length = 20 := rfl
  rw [hlen] at hl
  obtain ⟨ρ2, ω2, e2, q4, q6, rfl, rfl⟩ := forGo_thru (T := nmT 4) (F := lb_law_3 g_Net___eq__ g__law_is)
    (fun k ρ w => ∃ (q4 q6 : Sl), ρ = lR ns (.fz (dInts xs)) q4 (.fz (.lst (heldD es))) q6 ∧ ω' = w)
    (items := heldD es) (ρ := lR ns (.fz (dInts xs)) s4 (.fz (.lst (heldD es))) .no) (ω := ω') ⟨s4, .no, rfl, rfl⟩ (by
      rintro k d ρ w hd ⟨q4, q6, rfl, rfl⟩
      obtain ⟨i, hi, rfl⟩ := held_get hd
      obtain ⟨p6, g⟩ := one_ev (ns := ns) I hi (.fz (dInts xs)) q6
      exact ⟨_, _, ω', rfl, g, _, p6, rfl, rfl⟩)
  refine ⟨ω', fnV_rt rfl ?_⟩
  unfold b_law
  refine Eq.trans (seqS_nx e1) ?_
  refine Eq.trans (seqS_nx (ρ' := [.fz (.scr ns), .fz (.oid 2), .no, .no, .no, .no, .no]) (ω' := [netC [], netC [1, 2], .lst (es0.map encD)]) (appO_at (d := encD (none, [4])) (k := 2) (xs := [encD (some 0, []), encD (some 1, [1, 2]), encD (none, [3])]) (ys := [encD (some 0, []), encD (some 1, [1, 2]), encD (none, [3])]) (ω' := w00) rfl rfl (tup_ev (cons_ev (pc 4 _ _ (okz 4 (by simp))) (cons_ev (d := .bl false) (ω1 := w00) rfl (ds := []) (ω2 := w00) rfl)) (by simp)) rfl (by decide))) ?_
  refine Eq.trans (seqS_nx (ρ' := lR ns .no .no .no .no) (ω' := w0) rfl) ?_
  refine Eq.trans (seqS_nx (ρ' := lR ns (.fz (dInts xs)) .no .no .no) (ω' := w0) (setS_ev (calM_ev (cons_ev (calM_ev (ds := [.scr ns, .int 0]) (ω1 := w0) rfl h4) (cons_ev (d := .int 60) (ω1 := w0) rfl (ds := []) (ω2 := w0) rfl)) h5))) ?_
  refine Eq.trans (seqS_nx (forS_nx (y_bind (a := .int 20) (ω1 := w0) rfl (rng1_nat (n := 20) (by omega))) e)) ?_
  refine Eq.trans (seqS_nx (ρ' := lR ns (.fz (dInts xs)) s4 (.fz (.lst (heldD es))) .no) (ω' := ω') (setS_ev (y_bind (held_ev I (by omega) _ _ _) rfl))) ?_
  refine Eq.trans (seqS_nx (forS_nx (y_bind (a := .lst (heldD es)) (ω1 := ω') rfl rfl) e2)) ?_
  exact retS_ev rfl
end L06
open PySem PySem.W PyProof.Rows
set_option maxRecDepth 100000 in
set_option maxHeartbeats 0 in
theorem PySem.Challenge.cw_fullseats_k06_nets_holds : PySem.Challenge.rw_fullseats_k06_nets.Holds := by
  w_on; o_law; k_head; (case hw => w_witness2)
  k_fill
  refine L06.walk (l := PySem.Challenge.rw_fullseats_k06_nets) rfl rfl (fun w h Y => PySem.W.kIn_of Y) ?F L06.law_true
  case F =>
    intro w mg h KX G
    refine' L06.txt_mk KX G ?h_a_Process ?h_pg_Process ?h_hd_Process ?h_po_Process ?h_sa_Process ?h_mk_Process ?h_kc_Process ?h_a_Net ?h_pg_Net ?h_hd_Net ?h_po_Net ?h_sa_Net ?h_mk_Net ?h_kc_Net ?h_qr_Process ?h_qg_Process ?h_n_Process_depth ?h_n_Process_kind ?h_n_Process_parts ?h_n_Net_rows ?h_n_Process_size ?h_b_abs ?h_b_all ?h_b_bool ?h_b_int ?h_b_isinstance ?h_b_len ?h_b_list ?h_b_range ?h_b_str ?h_b_tuple ?h_of_Net_BitOr ?h_or_Net_BitOr ?h_o1_Net_BitOr ?h_o2_Net_BitOr ?h_os_Net_BitOr ?h_xf1_Process_Net_BitOr ?h_xf2_Process_Net_BitOr ?h_xn1_Process_Net_BitOr ?h_xn2_Process_Net_BitOr ?h_xr1_Process_Net_BitOr ?h_xr2_Process_Net_BitOr ?h_xe_Process_Net_BitOr ?h_xs1_Process_Net_BitOr ?h_xs2_Process_Net_BitOr ?h_gf_Net_Mult ?h_gr_Net_Mult ?h_g1_Net_Mult ?h_g2_Net_Mult ?h_gs_Net_Mult ?h_rf_Net ?h_rm_Net ?h_ri_Net ?h_rf_Process ?h_rm_Process ?h_ri_Process ?h_ia_Net ?h_in_Net ?h_it_Net ?h_im_Net ?h_ia_Process ?h_in_Process ?h_it_Process ?h_im_Process ?h_ie_Net_Process ?h_if_Net_Process ?h_iy_Net_Process ?h_ib_Net_Process ?h_ga_RESERVED ?h_gl_RESERVED ?h_c_DIGITS ?h_c_LETTERS ?h_c_MOST_MACHINES ?h_c_MOST_OPERANDS ?h_c_MOST_SIGNS ?h_c_VALUE_LIMIT ?h_at_is_name ?h_lk_is_name ?h_cd_is_name ?h_kp_is_name ?h_at_is_number ?h_lk_is_number ?h_cd_is_number ?h_kp_is_number ?h_at_is_operand ?h_lk_is_operand ?h_cd_is_operand ?h_kp_is_operand ?h_at_Process___init__ ?h_fn_Process___init__ ?h_lk_Process___init__ ?h_cd_Process___init__ ?h_kp_Process___init__ ?h_sc_Process_stop ?h_sx_Process_stop ?h_lk_Process_stop ?h_cd_Process_stop ?h_kp_Process_stop ?h_sc_Process_call ?h_sx_Process_call ?h_lk_Process_call ?h_cd_Process_call ?h_kp_Process_call ?h_at_Process___eq__ ?h_fn_Process___eq__ ?h_lk_Process___eq__ ?h_cd_Process___eq__ ?h_kp_Process___eq__ ?h_at_Net___init__ ?h_fn_Net___init__ ?h_lk_Net___init__ ?h_cd_Net___init__ ?h_kp_Net___init__ ?h_at_rows_of ?h_lk_rows_of ?h_cd_rows_of ?h_kp_rows_of ?h_at_Process___or__ ?h_fn_Process___or__ ?h_lk_Process___or__ ?h_cd_Process___or__ ?h_kp_Process___or__ ?h_at_Net___mul__ ?h_fn_Net___mul__ ?h_lk_Net___mul__ ?h_cd_Net___mul__ ?h_kp_Net___mul__ ?h_at_Process___rmul__ ?h_fn_Process___rmul__ ?h_lk_Process___rmul__ ?h_cd_Process___rmul__ ?h_kp_Process___rmul__ ?h_at_Net___len__ ?h_fn_Net___len__ ?h_lk_Net___len__ ?h_cd_Net___len__ ?h_kp_Net___len__ ?h_at_Net___getitem__ ?h_fn_Net___getitem__ ?h_lk_Net___getitem__ ?h_cd_Net___getitem__ ?h_kp_Net___getitem__ ?h_at_Net___eq__ ?h_fn_Net___eq__ ?h_lk_Net___eq__ ?h_cd_Net___eq__ ?h_kp_Net___eq__ ?h_at_Net___or__ ?h_fn_Net___or__ ?h_lk_Net___or__ ?h_cd_Net___or__ ?h_kp_Net___or__ ?h_at_Net___ior__ ?h_fn_Net___ior__ ?h_lk_Net___ior__ ?h_cd_Net___ior__ ?h_kp_Net___ior__ ?h_at_Net___rmul__ ?h_fn_Net___rmul__ ?h_lk_Net___rmul__ ?h_cd_Net___rmul__ ?h_kp_Net___rmul__ ?h_at__law_cell_at ?h_lk__law_cell_at ?h_cd__law_cell_at ?h_kp__law_cell_at ?h_at__law_mixed ?h_lk__law_mixed ?h_cd__law_mixed ?h_kp__law_mixed ?h_at__law_row ?h_lk__law_row ?h_cd__law_row ?h_kp__law_row ?h_at__law_process ?h_lk__law_process ?h_cd__law_process ?h_kp__law_process ?h_at__law_is ?h_lk__law_is ?h_cd__law_is ?h_kp__law_is ?h_at__law_joined ?h_lk__law_joined ?h_cd__law_joined ?h_kp__law_joined ?h_at__law_times ?h_lk__law_times ?h_cd__law_times ?h_kp__law_times ?h_at__law_listed ?h_lk__law_listed ?h_cd__law_listed ?h_kp__law_listed ?h_at__law_extended ?h_lk__law_extended ?h_cd__law_extended ?h_kp__law_extended ?h_at__law_step ?h_lk__law_step ?h_cd__law_step ?h_kp__law_step ?h_at_law ?h_lk_law ?h_cd_law ?h_kp_law ?h_a_BadTerm ?h_a_SeatsError ?h_sr_SeatsError ?h_sg_SeatsError ?h_sf_SeatsError ?h_cbe_BadTerm ?h_chd_BadTerm ?h_cty_BadTerm ?h_ce_BadTerm_BadTerm ?h_xga_BadTerm ?h_xgg_BadTerm ?h_xbe_BadTerm ?h_xhd_BadTerm ?h_xno_BadTerm ?h_xo_BadTerm ?h_xsa_BadTerm ?h_xex_BadTerm ?h_xty_BadTerm ?h_xkc_BadTerm ?h_xnf_BadTerm ?h_at_x_BadTerm ?h_ft_x_BadTerm ?h_lk_x_BadTerm ?h_cd_x_BadTerm ?h_kp_x_BadTerm
    (case h_a_Process => k_is)
    (case h_pg_Process => k_is)
    (case h_hd_Process => k_is)
    (case h_po_Process => k_is)
    (case h_sa_Process => k_is)
    (case h_mk_Process => k_is)
    (case h_kc_Process => k_is)
    (case h_a_Net => k_is)
    (case h_pg_Net => k_is)
    (case h_hd_Net => k_is)
    (case h_po_Net => k_is)
    (case h_sa_Net => k_is)
    (case h_mk_Net => k_is)
    (case h_kc_Net => k_is)
    (case h_qr_Process => k_is)
    (case h_qg_Process => k_is)
    (case h_n_Process_depth => k_is)
    (case h_n_Process_kind => k_is)
    (case h_n_Process_parts => k_is)
    (case h_n_Net_rows => k_is)
    (case h_n_Process_size => k_is)
    (case h_b_abs => k_is)
    (case h_b_all => k_is)
    (case h_b_bool => k_is)
    (case h_b_int => k_is)
    (case h_b_isinstance => k_is)
    (case h_b_len => k_is)
    (case h_b_list => k_is)
    (case h_b_range => k_is)
    (case h_b_str => k_is)
    (case h_b_tuple => k_is)
    (case h_of_Net_BitOr => k_is)
    (case h_or_Net_BitOr => k_is)
    (case h_o1_Net_BitOr => k_is)
    (case h_o2_Net_BitOr => k_is)
    (case h_os_Net_BitOr => k_is)
    (case h_xf1_Process_Net_BitOr => k_is)
    (case h_xf2_Process_Net_BitOr => k_is)
    (case h_xn1_Process_Net_BitOr => k_is)
    (case h_xn2_Process_Net_BitOr => k_is)
    (case h_xr1_Process_Net_BitOr => k_is)
    (case h_xr2_Process_Net_BitOr => k_is)
    (case h_xe_Process_Net_BitOr => first | decide | rfl)
    (case h_xs1_Process_Net_BitOr => k_is)
    (case h_xs2_Process_Net_BitOr => k_is)
    (case h_gf_Net_Mult => k_is)
    (case h_gr_Net_Mult => k_is)
    (case h_g1_Net_Mult => k_is)
    (case h_g2_Net_Mult => k_is)
    (case h_gs_Net_Mult => k_is)
    (case h_rf_Net => k_is)
    (case h_rm_Net => k_is)
    (case h_ri_Net => k_is)
    (case h_rf_Process => k_is)
    (case h_rm_Process => k_is)
    (case h_ri_Process => k_is)
    (case h_ia_Net => k_is)
    (case h_in_Net => k_is)
    (case h_it_Net => k_is)
    (case h_im_Net => k_is)
    (case h_ia_Process => k_is)
    (case h_in_Process => k_is)
    (case h_it_Process => k_is)
    (case h_im_Process => k_is)
    (case h_ie_Net_Process => first | decide | rfl)
    (case h_if_Net_Process => k_is)
    (case h_iy_Net_Process => k_is)
    (case h_ib_Net_Process => k_is)
    (case h_ga_RESERVED => k_is)
    (case h_gl_RESERVED => k_is)
    (case h_c_DIGITS => k_is)
    (case h_c_LETTERS => k_is)
    (case h_c_MOST_MACHINES => k_is)
    (case h_c_MOST_OPERANDS => k_is)
    (case h_c_MOST_SIGNS => k_is)
    (case h_c_VALUE_LIMIT => k_is)
    (case h_at_is_name => k_is)
    (case h_lk_is_name => k_is)
    (case h_cd_is_name => k_is)
    (case h_kp_is_name => k_is)
    (case h_at_is_number => k_is)
    (case h_lk_is_number => k_is)
    (case h_cd_is_number => k_is)
    (case h_kp_is_number => k_is)
    (case h_at_is_operand => k_is)
    (case h_lk_is_operand => k_is)
    (case h_cd_is_operand => k_is)
    (case h_kp_is_operand => k_is)
    (case h_at_Process___init__ => k_is)
    (case h_fn_Process___init__ => k_is)
    (case h_lk_Process___init__ => k_is)
    (case h_cd_Process___init__ => k_is)
    (case h_kp_Process___init__ => k_is)
    (case h_sc_Process_stop => k_is)
    (case h_sx_Process_stop => k_is)
    (case h_lk_Process_stop => k_is)
    (case h_cd_Process_stop => k_is)
    (case h_kp_Process_stop => k_is)
    (case h_sc_Process_call => k_is)
    (case h_sx_Process_call => k_is)
    (case h_lk_Process_call => k_is)
    (case h_cd_Process_call => k_is)
    (case h_kp_Process_call => k_is)
    (case h_at_Process___eq__ => k_is)
    (case h_fn_Process___eq__ => k_is)
    (case h_lk_Process___eq__ => k_is)
    (case h_cd_Process___eq__ => k_is)
    (case h_kp_Process___eq__ => k_is)
    (case h_at_Net___init__ => k_is)
    (case h_fn_Net___init__ => k_is)
    (case h_lk_Net___init__ => k_is)
    (case h_cd_Net___init__ => k_is)
    (case h_kp_Net___init__ => k_is)
    (case h_at_rows_of => k_is)
    (case h_lk_rows_of => k_is)
    (case h_cd_rows_of => k_is)
    (case h_kp_rows_of => k_is)
    (case h_at_Process___or__ => k_is)
    (case h_fn_Process___or__ => k_is)
    (case h_lk_Process___or__ => k_is)
    (case h_cd_Process___or__ => k_is)
    (case h_kp_Process___or__ => k_is)
    (case h_at_Net___mul__ => k_is)
    (case h_fn_Net___mul__ => k_is)
    (case h_lk_Net___mul__ => k_is)
    (case h_cd_Net___mul__ => k_is)
    (case h_kp_Net___mul__ => k_is)
    (case h_at_Process___rmul__ => k_is)
    (case h_fn_Process___rmul__ => k_is)
    (case h_lk_Process___rmul__ => k_is)
    (case h_cd_Process___rmul__ => k_is)
    (case h_kp_Process___rmul__ => k_is)
    (case h_at_Net___len__ => k_is)
    (case h_fn_Net___len__ => k_is)
    (case h_lk_Net___len__ => k_is)
    (case h_cd_Net___len__ => k_is)
    (case h_kp_Net___len__ => k_is)
    (case h_at_Net___getitem__ => k_is)
    (case h_fn_Net___getitem__ => k_is)
    (case h_lk_Net___getitem__ => k_is)
    (case h_cd_Net___getitem__ => k_is)
    (case h_kp_Net___getitem__ => k_is)
    (case h_at_Net___eq__ => k_is)
    (case h_fn_Net___eq__ => k_is)
    (case h_lk_Net___eq__ => k_is)
    (case h_cd_Net___eq__ => k_is)
    (case h_kp_Net___eq__ => k_is)
    (case h_at_Net___or__ => k_is)
    (case h_fn_Net___or__ => k_is)
    (case h_lk_Net___or__ => k_is)
    (case h_cd_Net___or__ => k_is)
    (case h_kp_Net___or__ => k_is)
    (case h_at_Net___ior__ => k_is)
    (case h_fn_Net___ior__ => k_is)
    (case h_lk_Net___ior__ => k_is)
    (case h_cd_Net___ior__ => k_is)
    (case h_kp_Net___ior__ => k_is)
    (case h_at_Net___rmul__ => k_is)
    (case h_fn_Net___rmul__ => k_is)
    (case h_lk_Net___rmul__ => k_is)
    (case h_cd_Net___rmul__ => k_is)
    (case h_kp_Net___rmul__ => k_is)
    (case h_at__law_cell_at => k_is)
    (case h_lk__law_cell_at => k_is)
    (case h_cd__law_cell_at => k_is)
    (case h_kp__law_cell_at => k_is)
    (case h_at__law_mixed => k_is)
    (case h_lk__law_mixed => k_is)
    (case h_cd__law_mixed => k_is)
    (case h_kp__law_mixed => k_is)
    (case h_at__law_row => k_is)
    (case h_lk__law_row => k_is)
    (case h_cd__law_row => k_is)
    (case h_kp__law_row => k_is)
    (case h_at__law_process => k_is)
    (case h_lk__law_process => k_is)
    (case h_cd__law_process => k_is)
    (case h_kp__law_process => k_is)
    (case h_at__law_is => k_is)
    (case h_lk__law_is => k_is)
    (case h_cd__law_is => k_is)
    (case h_kp__law_is => k_is)
    (case h_at__law_joined => k_is)
    (case h_lk__law_joined => k_is)
    (case h_cd__law_joined => k_is)
    (case h_kp__law_joined => k_is)
    (case h_at__law_times => k_is)
    (case h_lk__law_times => k_is)
    (case h_cd__law_times => k_is)
    (case h_kp__law_times => k_is)
    (case h_at__law_listed => k_is)
    (case h_lk__law_listed => k_is)
    (case h_cd__law_listed => k_is)
    (case h_kp__law_listed => k_is)
    (case h_at__law_extended => k_is)
    (case h_lk__law_extended => k_is)
    (case h_cd__law_extended => k_is)
    (case h_kp__law_extended => k_is)
    (case h_at__law_step => k_is)
    (case h_lk__law_step => k_is)
    (case h_cd__law_step => k_is)
    (case h_kp__law_step => k_is)
    (case h_at_law => k_is)
    (case h_lk_law => k_is)
    (case h_cd_law => k_is)
    (case h_kp_law => k_is)
    (case h_a_BadTerm => k_is)
    (case h_a_SeatsError => k_is)
    (case h_sr_SeatsError => k_is)
    (case h_sg_SeatsError => k_is)
    (case h_sf_SeatsError => k_is)
    (case h_cbe_BadTerm => k_is)
    (case h_chd_BadTerm => k_is)
    (case h_cty_BadTerm => k_is)
    (case h_ce_BadTerm_BadTerm => first | rfl | k_is)
    (case h_xga_BadTerm => k_is)
    (case h_xgg_BadTerm => k_is)
    (case h_xbe_BadTerm => k_is)
    (case h_xhd_BadTerm => k_is)
    (case h_xno_BadTerm => k_is)
    (case h_xo_BadTerm => k_is)
    (case h_xsa_BadTerm => k_is)
    (case h_xex_BadTerm => k_is)
    (case h_xty_BadTerm => k_is)
    (case h_xkc_BadTerm => k_is)
    (case h_xnf_BadTerm => k_is)
    (case h_at_x_BadTerm => k_is)
    (case h_ft_x_BadTerm => k_is)
    (case h_lk_x_BadTerm => k_is)
    (case h_cd_x_BadTerm => k_is)
    (case h_kp_x_BadTerm => k_is)
