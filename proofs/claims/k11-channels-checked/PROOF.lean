import PyProof.Rows.All
import Wide.All
import OpenK.AllK
import Wide.FinOn
import HandS.ForMost
import HandS.ForExc
import HandS.TupAny
import HandS.Style
import HandS.Deep
import HandS.Flow
import HandS.SortInts
import HandS.CallSlots
import HandS.ExcOwn
import HandS.ExcInit
import HandS.ExcField
import HandS.TryMany
import HandS.IsInst
import KE.KOpsOwn
import HandS.ExcIs
import HandS.Conv
import HandS.Strs
import HandS.NoneIn
import HandS.OwnEq
import HandS.RaiseMore
import PyProof.StrOps2
import PyProof.InstNe
import HandS.More
import HandS.Defaults
import KE.KDictPairs
import PyProof.Rows.StrMeet
import HandS.IterVal
import HandS.DictComp
import PyProof.FactsAll.dict_keyiterator_1
import PySem.Challenge.RW_fullseats_k11_channels_checked
set_option Elab.async false
set_option linter.all false
set_option maxRecDepth 100000
set_option maxHeartbeats 4000000
/-! DL0: plain data over the hand layer's abstract heap; readings as functions. -/
namespace DL
open PySem L2

/-- plain data; oid k: the k-th thing of the store (a thing that may change) -/
inductive D where
  | non | bl (b : Bool) | int (i : Int) | str (x : Str)
  | tup (xs : List D) | lst (xs : List D)
  | dic (kvs : List (Key × D))
  | obj (c : Str) (fs : List (Str × D))
  | oid (k : Nat)
  | scr (ns : List Int)
/-- a thing of the store -/
inductive Cell where
  | dead
  | lst (xs : List D) | dic (kvs : List (Key × D)) | obj (c : Str) (fs : List (Str × D))
  | ldc (kvs : List (Key × D))
/-- an exception: class, fields -/
structure Exc where
  c : Str
  fs : List (Str × D)

structure G where
  K : PySem.W.Frag
  mg : Str → Option Value

abbrev Ad := List (Option Addr)
def Liv (A : Ad) (a : Addr) : Prop := some a ∈ A
theorem Liv.ix {A : Ad} {a : Addr} (h : Liv A a) : ∃ k : Nat, A[k]? = some (some a) := by
  obtain ⟨k, hk, e⟩ := List.getElem_of_mem h
  exact ⟨k, by rw [List.getElem?_eq_getElem hk, e]⟩
theorem Liv.of {A : Ad} {a : Addr} {k : Nat} (h : A[k]? = some (some a)) : Liv A a := List.mem_of_getElem? h

/-- a tuple of the written part -/
def KT (K : PySem.W.Frag) (a : Addr) (xs : List V) : Prop :=
  ∃ (o : Obj) (its : Array Value) (n : Nat), K.lookup a = some o ∧ o.cls = .type "tuple" ∧ o.data = .seq its n ∧ its.size ≤ sizeLine ∧ Vals xs its.toList

/-- a list of the written part -/
def KL (K : PySem.W.Frag) (a : Addr) (xs : List V) : Prop :=
  ∃ (o : Obj) (its : Array Value) (n : Nat), K.lookup a = some o ∧ o.cls = .type "list" ∧ o.dict = none ∧ o.data = .seq its n ∧ its.size ≤ sizeLine ∧ Vals xs its.toList

mutual
/-- v is the datum d; what stands is none of B -/
inductive Dp (g : G) (A : Ad) (B : Addr → Prop) (H : Hp) : V → D → Prop
  | non : Dp g A B H .non .non
  | bl (b : Bool) : Dp g A B H (.bl b) (.bl b)
  | int (i : Int) : Dp g A B H (.int i) (.int i)
  | str (x : Str) : Dp g A B H (.str x) (.str x)
  | tup {a : Addr} {vs : List V} {ds : List D} : ¬ B a → H a = some (.tup vs) → DpL g A B H vs ds → Dp g A B H (.ref a) (.tup ds)
  | tupK {a : Addr} {vs : List V} {ds : List D} : KT g.K a vs → DpL g A B H vs ds → Dp g A B H (.ref a) (.tup ds)
  | lst {a : Addr} {vs : List V} {ds : List D} : ¬ B a → H a = some (.lst vs) → DpL g A B H vs ds → Dp g A B H (.ref a) (.lst ds)
  | dic {a : Addr} {vs : List (Key × V)} {ds : List (Key × D)} : ¬ B a → Rd H a (.dK vs) → DpK g A B H vs ds → Dp g A B H (.ref a) (.dic ds)
  | obj {a C dx : Addr} {c : Str} {vs : List (Str × V)} {fs : List (Str × D)} : ¬ B a → H a = some (.ins C dx vs) → g.mg c = some (.ref C) → DpF g A B H vs fs → Dp g A B H (.ref a) (.obj c fs)
  | oid {a : Addr} {k : Nat} : A[k]? = some (some a) → Dp g A B H (.ref a) (.oid k)
  | ded {v : V} {k : Nat} : A[k]? = some none → Dp g A B H v (.oid k)
  | scr {a : Addr} {ns : List Int} : ¬ B a → Rd H a (.lst (ns.map V.int)) → Dp g A B H (.ref a) (.scr ns)
  | scrK {a : Addr} {ns : List Int} : KL g.K a (ns.map V.int) → Dp g A B H (.ref a) (.scr ns)
inductive DpL (g : G) (A : Ad) (B : Addr → Prop) (H : Hp) : List V → List D → Prop
  | nil : DpL g A B H [] []
  | cons {v : V} {vs : List V} {d : D} {ds : List D} : Dp g A B H v d → DpL g A B H vs ds → DpL g A B H (v :: vs) (d :: ds)
inductive DpK (g : G) (A : Ad) (B : Addr → Prop) (H : Hp) : List (Key × V) → List (Key × D) → Prop
  | nil : DpK g A B H [] []
  | cons {k : Key} {v : V} {vs : List (Key × V)} {d : D} {ds : List (Key × D)} : Dp g A B H v d → DpK g A B H vs ds → DpK g A B H ((k, v) :: vs) ((k, d) :: ds)
inductive DpF (g : G) (A : Ad) (B : Addr → Prop) (H : Hp) : List (Str × V) → List (Str × D) → Prop
  | nil : DpF g A B H [] []
  | cons {k : Str} {v : V} {vs : List (Str × V)} {d : D} {ds : List (Str × D)} : Dp g A B H v d → DpF g A B H vs ds → DpF g A B H ((k, v) :: vs) ((k, d) :: ds)
end

/-- from one state to a later one: what is not in the store stands; nothing that stood comes into B or leaves it -/
structure Stp (A : Ad) (B : Addr → Prop) (H : Hp) (A' : Ad) (B' : Addr → Prop) (H' : Hp) : Prop where
  keep : ∀ a o, H a = some o → ¬ Liv A a → H' a = some o
  old : ∀ a o, H a = some o → ¬ Liv A a → (B' a ↔ B a)
  new : ∀ a, Liv A' a → Liv A a ∨ H a = none
  ids : ∀ (k : Nat) (x : Option Addr), A[k]? = some x → A'[k]? = some x ∨ A'[k]? = some none
  trk : ∀ a o, H a = some o → ∃ o', H' a = some o'
  frz : ∀ a o u, H a = some (.frz o u) → H' a = some (.frz o u)

theorem Stp.refl (A : Ad) (B : Addr → Prop) (H : Hp) : Stp A B H A B H := ⟨fun _ _ h _ => h, fun _ _ _ _ => Iff.rfl, fun _ h => .inl h, fun _ _ h => .inl h, fun _ o h => ⟨o, h⟩, fun _ _ _ h => h⟩
theorem frz_upd {H : Hp} {p : Addr} {x : HO} (hp : ∀ o u, H p ≠ some (.frz o u)) (a : Addr) (o : Obj) (u : HO) (h : H a = some (.frz o u)) : upd H p x a = some (.frz o u) := by
  rw [upd_ne (fun z => hp o u (by rw [← z]; exact h))]; exact h
theorem frz_none {H : Hp} {p : Addr} (hp : H p = none) : ∀ o u, H p ≠ some (.frz o u) := fun o u e => by rw [hp] at e; cases e
theorem frz_not {H : Hp} {a : Addr} {w : HO} (h : H a = some w) (nf : ∀ o u, w ≠ .frz o u := by intro _ _ z; cases z) : ∀ o u, H a ≠ some (.frz o u) := fun o u e => nf o u (by rw [h] at e; exact Option.some.inj e)
theorem Stp.trans {A A1 A2 : Ad} {B B1 B2 : Addr → Prop} {H H1 H2 : Hp} (s : Stp A B H A1 B1 H1) (t : Stp A1 B1 H1 A2 B2 H2) : Stp A B H A2 B2 H2 := by
  have nl : ∀ a o, H a = some o → ¬ Liv A a → ¬ Liv A1 a := fun a o h n z => by
    rcases s.new a z with z | z
    · exact n z
    · rw [z] at h; cases h
  refine ⟨fun a o h n => t.keep a o (s.keep a o h n) (nl a o h n), fun a o h n => (t.old a o (s.keep a o h n) (nl a o h n)).trans (s.old a o h n), fun a z => ?_, fun k x h => ?_, fun a o h => ?_, fun a o u h => t.frz a o u (s.frz a o u h)⟩
  · rcases t.new a z with z | z
    · exact s.new a z
    · cases q : H a with
      | none => exact .inr rfl
      | some o =>
        by_cases n : Liv A a
        · exact .inl n
        · have := s.keep a o q n
          rw [z] at this; cases this
  · rcases s.ids k x h with e | e
    · exact t.ids k x e
    · rcases t.ids k none e with e | e
      · exact .inr e
      · exact .inr e
  · obtain ⟨o', e⟩ := s.trk a o h
    exact t.trk a o' e

theorem Rd.up {H H' : Hp} {a : Addr} {u : HO} (h : Rd H a u) (k : ∀ o, H a = some o → H' a = some o) : Rd H' a u := by
  rcases h with h | ⟨o, h⟩
  · exact .inl (k _ h)
  · exact .inr ⟨o, k _ h⟩
theorem Rd.some {H : Hp} {a : Addr} {u : HO} (h : Rd H a u) : ∃ o, H a = some o := by
  rcases h with h | ⟨o, h⟩
  · exact ⟨_, h⟩
  · exact ⟨_, h⟩

section
variable {g : G} {A A' : Ad} {B B' : Addr → Prop} {H H' : Hp}
/-- moving data along: what is asked -/
structure Mv (A : Ad) (B : Addr → Prop) (H : Hp) (A' : Ad) (B' : Addr → Prop) (H' : Hp) : Prop where
  cell : ∀ a o, ¬ B a → H a = some o → H' a = some o ∧ ¬ B' a
  ids : ∀ (k : Nat) (x : Option Addr), A[k]? = some x → A'[k]? = some x ∨ A'[k]? = some none
  frz : ∀ a o u, H a = some (.frz o u) → H' a = some (.frz o u)
/-- the same without locks -/
structure Mv0 (A : Ad) (B : Addr → Prop) (H : Hp) (A' : Ad) (B' : Addr → Prop) (H' : Hp) : Prop where
  cell : ∀ a o, ¬ B a → H a = some o → H' a = some o ∧ ¬ B' a
  ids : ∀ (k : Nat) (x : Option Addr), A[k]? = some x → A'[k]? = some x ∨ A'[k]? = some none
mutual
theorem Dp.mv0 (m : Mv0 A B H A' B' H') : ∀ (d : D) (v : V), Dp g A B H v d → Dp g A' B' H' v d
  | .non, _, h => by cases h; exact .non
  | .bl b, _, h => by cases h; exact .bl b
  | .int i, _, h => by cases h; exact .int i
  | .str x, _, h => by cases h; exact .str x
  | .tup ds, _, h => by
    cases h with
    | tup n r l => exact .tup (m.cell _ _ n r).2 (m.cell _ _ n r).1 (DpL.mv0 m ds _ l)
    | tupK k l => exact .tupK k (DpL.mv0 m ds _ l)
  | .lst ds, _, h => by
    cases h with
    | lst n r l => exact .lst (m.cell _ _ n r).2 (m.cell _ _ n r).1 (DpL.mv0 m ds _ l)
  | .scr ns, _, h => by
    cases h with
    | scr n r =>
      obtain ⟨o, e⟩ := Rd.some r
      exact .scr (m.cell _ o n e).2 (Rd.up r fun o e => (m.cell _ o n e).1)
    | scrK k => exact .scrK k
  | .dic ds, _, h => by
    cases h with
    | dic n r l =>
      obtain ⟨o, e⟩ := Rd.some r
      exact .dic (m.cell _ o n e).2 (Rd.up r fun o e => (m.cell _ o n e).1) (DpK.mv0 m ds _ l)
  | .obj c fs, _, h => by
    cases h with
    | obj n r q l => exact .obj (m.cell _ _ n r).2 (m.cell _ _ n r).1 q (DpF.mv0 m fs _ l)
  | .oid k, _, h => by
    cases h with
    | oid e =>
      rcases m.ids k _ e with e | e
      · exact .oid e
      · exact .ded e
    | ded e =>
      rcases m.ids k _ e with e | e
      · exact .ded e
      · exact .ded e
theorem DpL.mv0 (m : Mv0 A B H A' B' H') : ∀ (ds : List D) (vs : List V), DpL g A B H vs ds → DpL g A' B' H' vs ds
  | [], _, h => by cases h; exact .nil
  | d :: ds, _, h => by
    cases h with
    | cons h1 h2 => exact .cons (Dp.mv0 m d _ h1) (DpL.mv0 m ds _ h2)
theorem DpK.mv0 (m : Mv0 A B H A' B' H') : ∀ (ds : List (Key × D)) (vs : List (Key × V)), DpK g A B H vs ds → DpK g A' B' H' vs ds
  | [], _, h => by cases h; exact .nil
  | (k, d) :: ds, _, h => by
    cases h with
    | cons h1 h2 => exact .cons (Dp.mv0 m d _ h1) (DpK.mv0 m ds _ h2)
theorem DpF.mv0 (m : Mv0 A B H A' B' H') : ∀ (ds : List (Str × D)) (vs : List (Str × V)), DpF g A B H vs ds → DpF g A' B' H' vs ds
  | [], _, h => by cases h; exact .nil
  | (k, d) :: ds, _, h => by
    cases h with
    | cons h1 h2 => exact .cons (Dp.mv0 m d _ h1) (DpF.mv0 m ds _ h2)
end
theorem Mv.m0 (m : Mv A B H A' B' H') : Mv0 A B H A' B' H' := ⟨m.cell, m.ids⟩
theorem Dp.mv (m : Mv A B H A' B' H') (d : D) (v : V) (h : Dp g A B H v d) : Dp g A' B' H' v d := Dp.mv0 m.m0 d v h
theorem DpL.mv (m : Mv A B H A' B' H') (d : List D) (v : List V) (h : DpL g A B H v d) : DpL g A' B' H' v d := DpL.mv0 m.m0 d v h
theorem DpK.mv (m : Mv A B H A' B' H') (d : List (Key × D)) (v : List (Key × V)) (h : DpK g A B H v d) : DpK g A' B' H' v d := DpK.mv0 m.m0 d v h
theorem DpF.mv (m : Mv A B H A' B' H') (d : List (Str × D)) (v : List (Str × V)) (h : DpF g A B H v d) : DpF g A' B' H' v d := DpF.mv0 m.m0 d v h
end

/-- the thing at a is the store's c -/
def CellOk (g : G) (A : Ad) (B : Addr → Prop) (H : Hp) (a : Addr) : Cell → Prop
  | .dead => False
  | .lst ds => ∃ vs, H a = some (.lst vs) ∧ DpL g A B H vs ds
  | .dic ds => ∃ vs, H a = some (.dK vs) ∧ DpK g A B H vs ds
  | .obj c fs => ∃ C dx vs, H a = some (.ins C dx vs) ∧ g.mg c = some (.ref C) ∧ DpF g A B H vs fs
  | .ldc ds => ∃ o vs, H a = some (.frz o (.dK vs)) ∧ DpK g A B H vs ds

/-- the store stands -/
structure Wo (g : G) (A : Ad) (B : Addr → Prop) (H : Hp) (ω : List Cell) : Prop where
  len : A.length = ω.length
  inj : ∀ (i j : Nat) (a : Addr), A[i]? = some (some a) → A[j]? = some (some a) → i = j
  liv : ∀ a, Liv A a → B a
  bnd : ∀ a, B a → ∃ o, H a = some o
  cell : ∀ (k : Nat) (c : Cell), ω[k]? = some c → (c = .dead ∧ A[k]? = some none) ∨ ∃ a, A[k]? = some (some a) ∧ CellOk g A B H a c

/-- an exception as it lies: its class, its own dict -/
abbrev XP := Addr × Value × Option Addr
def XOk (g : G) (A : Ad) (B : Addr → Prop) (H : Hp) (cls : Value) (dd : Option Addr) (x : Exc) : Prop :=
  g.mg x.c = some cls ∧ ((∃ d vs, dd = some d ∧ ¬ B d ∧ H d = some (.xd vs) ∧ DpF g A B H vs x.fs) ∨ (dd = none ∧ x.fs = []))
theorem XOk.mv0 {g : G} {A A' : Ad} {B B' : Addr → Prop} {H H' : Hp} {cls : Value} {dd : Option Addr} {x : Exc} (m : Mv0 A B H A' B' H') (h : XOk g A B H cls dd x) : XOk g A' B' H' cls dd x := by
  obtain ⟨h1, ⟨d, vs, h2, h3, h4, h5⟩ | h⟩ := h
  · exact ⟨h1, .inl ⟨d, vs, h2, (m.cell d _ h3 h4).2, (m.cell d _ h3 h4).1, DpF.mv0 m _ _ h5⟩⟩
  · exact ⟨h1, .inr h⟩
theorem XOk.mv {g : G} {A A' : Ad} {B B' : Addr → Prop} {H H' : Hp} {cls : Value} {dd : Option Addr} {x : Exc} (m : Mv A B H A' B' H') (h : XOk g A B H cls dd x) : XOk g A' B' H' cls dd x := h.mv0 m.m0

/-- a slot: nothing known, a datum, a list of this frame's own that may change -/
inductive Sl where
  | no | fz (d : D) | ow (ds : List D) | ex (p : XP) (x : Exc)
abbrev Rho := List Sl

section
variable {g : G} {A A' : Ad} {B B' : Addr → Prop} {H H' H0 : Hp} {ω : List Cell} {σ : St} {ρ : Rho}
theorem Wo.nb (w : Wo g A B H ω) {p : Addr} (h : H p = none) : ¬ B p := fun z => by
  obtain ⟨o, e⟩ := w.bnd p z
  rw [h] at e; cases e
theorem Wo.nl (w : Wo g A B H ω) {p : Addr} (h : ¬ B p) : ¬ Liv A p := fun z => h (w.liv p z)
theorem Stp.mv (s : Stp A B H A' B' H') (hl : ∀ a, Liv A a → B a) : Mv A B H A' B' H' :=
  ⟨fun a o n e => ⟨s.keep a o e fun z => n (hl a z), fun z => n ((s.old a o e fun z => n (hl a z)).mp z)⟩, s.ids, s.frz⟩
theorem Wo.mv (w : Wo g A B H ω) (s : Stp A B H A' B' H') : Mv A B H A' B' H' := s.mv w.liv

def SlOk (g : G) (H0 : Hp) (A : Ad) (B : Addr → Prop) (H : Hp) (x : Option (Option V)) : Sl → Prop
  | .no => True
  | .fz d => ∃ v, x = some (some v) ∧ Dp g A B H v d
  | .ex p y => x = some (some (.ref p.1)) ∧ XOk g A B H p.2.1 p.2.2 y
  | .ow ds => ∃ p vs, x = some (some (.ref p)) ∧ H p = some (.lst vs) ∧ DpL g A B H vs ds ∧ B p ∧ ¬ Liv A p ∧ H0 p = none
structure Slots (g : G) (H0 : Hp) (A : Ad) (B : Addr → Prop) (H : Hp) (σ : St) (ρ : Rho) : Prop where
  len : ρ.length = σ.length
  val : ∀ (i : Nat) (s : Sl), ρ[i]? = some s → SlOk g H0 A B H σ[i]? s
  own : ∀ (i j : Nat) (ds es : List D) (p : Addr), ρ[i]? = some (.ow ds) → ρ[j]? = some (.ow es) → σ[i]? = some (some (.ref p)) → σ[j]? = some (some (.ref p)) → i = j
theorem SlOk.up {x : Option (Option V)} {s : Sl} (w : Wo g A B H ω) (t : Stp A B H A' B' H') (h : SlOk g H0 A B H x s) : SlOk g H0 A' B' H' x s := by
  cases s with
  | no => trivial
  | ex p y => exact ⟨h.1, h.2.mv (w.mv t)⟩
  | fz d =>
    obtain ⟨v, e, h⟩ := h
    exact ⟨v, e, Dp.mv (w.mv t) d v h⟩
  | ow ds =>
    obtain ⟨p, vs, e, hp, l, b, nl, h0⟩ := h
    refine ⟨p, vs, e, t.keep p _ hp nl, DpL.mv (w.mv t) ds vs l, (t.old p _ hp nl).mpr b, fun z => ?_, h0⟩
    rcases t.new p z with z | z
    · exact nl z
    · rw [z] at hp; cases hp
theorem Slots.up (h : Slots g H0 A B H σ ρ) (w : Wo g A B H ω) (t : Stp A B H A' B' H') : Slots g H0 A' B' H' σ ρ :=
  ⟨h.len, fun i s e => (h.val i s e).up w t, h.own⟩
end

/-! ### readings -/
inductive R (α : Type) where
  | val (a : α) (ω : List Cell)
  | exc (x : Exc) (ω : List Cell)
abbrev M (α : Type) := Rho → List Cell → Option (R α)
def M.pure {α : Type} (a : α) : M α := fun _ ω => some (.val a ω)
def M.bind {α β : Type} (f : M α) (k : α → M β) : M β := fun ρ ω =>
  match f ρ ω with
  | none => none
  | some (.exc x ω') => some (.exc x ω')
  | some (.val a ω') => k a ρ ω'
def M.opt {α : Type} (o : Option α) : M α := fun _ ω => match o with | none => none | some a => some (.val a ω)

/-- how a value of the layer bears a datum -/
abbrev Rl (β α : Type) := G → Ad → (Addr → Prop) → Hp → β → α → Prop
abbrev rD : Rl V D := Dp
abbrev rL : Rl (List V) (List D) := DpL
abbrev rB : Rl Bool Bool := fun _ _ _ _ b c => b = c
def ResOk {β α : Type} (g : G) (rel : Rl β α) (W : WX) (σ : St) (A : Ad) (B : Addr → Prop) (H : Hp) (Q : β → Hp → Prop) : R α → Prop
  | .val a ω' => ∀ v A' B' H', Stp A B H A' B' H' → Wo g A' B' H' ω' → rel g A' B' H' v a → Q v H'
  | .exc x ω' => ∀ cls dd A' B' H', Stp A B H A' B' H' → Wo g A' B' H' ω' → XOk g A' B' H' cls dd x → W cls dd σ H'
theorem ResOk.up {β α : Type} {g : G} {rel : Rl β α} {W : WX} {σ : St} {A A1 : Ad} {B B1 : Addr → Prop} {H H1 : Hp} {Q : β → Hp → Prop} {r : R α} (h : ResOk g rel W σ A B H Q r) (s : Stp A B H A1 B1 H1) : ResOk g rel W σ A1 B1 H1 Q r := by
  cases r with
  | val a ω' => exact fun v A' B' H' t => h v A' B' H' (s.trans t)
  | exc x ω' => exact fun cls dd A' B' H' t => h cls dd A' B' H' (s.trans t)

/-- the state of a frame: its store and slots -/
structure Fm (g : G) (H0 : Hp) (A : Ad) (B : Addr → Prop) (H : Hp) (ω : List Cell) (σ : St) (ρ : Rho) : Prop where
  wo : Wo g A B H ω
  sl : Slots g H0 A B H σ ρ

def tM {β α : Type} (g : G) (rel : Rl β α) (W : WX) (f : M α) : St → Hp → (β → Hp → Prop) → Prop := fun σ H Q =>
  ∃ H0 A B ρ ω r, Fm g H0 A B H ω σ ρ ∧ f ρ ω = some r ∧ ResOk g rel W σ A B H Q r

section
variable {α β γ δ : Type} {g : G} {W : WX} {A A' : Ad} {B B' : Addr → Prop} {H H' H0 : Hp} {ω ω' : List Cell} {σ : St} {ρ : Rho}
theorem Fm.up (h : Fm g H0 A B H ω σ ρ) (t : Stp A B H A' B' H') (w : Wo g A' B' H' ω') : Fm g H0 A' B' H' ω' σ ρ := ⟨w, h.sl.up h.wo t⟩
/-- the first part of a sequence -/
theorem tM_bind {rel : Rl β α} {rel2 : Rl δ γ} {f : M α} {k : α → M γ} {Q : δ → Hp → Prop} {r : R γ} (h : Fm g H0 A B H ω σ ρ) (e : (f.bind k) ρ ω = some r) (res : ResOk g rel2 W σ A B H Q r) :
    tM g rel W f σ H (fun v H1 => ∃ A1 B1 ω1 a, Stp A B H A1 B1 H1 ∧ Fm g H0 A1 B1 H1 ω1 σ ρ ∧ rel g A1 B1 H1 v a ∧ k a ρ ω1 = some r ∧ ResOk g rel2 W σ A1 B1 H1 Q r) := by
  unfold M.bind at e
  cases q : f ρ ω with
  | none => rw [q] at e; cases e
  | some z =>
    rw [q] at e
    cases z with
    | exc x ω' =>
      have e' : some (R.exc x ω') = some r := e
      cases e'
      exact ⟨H0, A, B, ρ, ω, _, h, q, res⟩
    | val a ω' =>
      have e' : k a ρ ω' = some r := e
      refine ⟨H0, A, B, ρ, ω, _, h, q, fun v A1 B1 H1 t w rl => ⟨A1, B1, ω', a, t, h.up t w, rl, e', res.up t⟩⟩
theorem tM_mono {rel : Rl β α} {f : M α} {Q Q' : β → Hp → Prop} (h : tM g rel W f σ H Q) (i : ∀ v H', Q v H' → Q' v H') : tM g rel W f σ H Q' := by
  obtain ⟨H0, A, B, ρ, ω, r, fm, e, res⟩ := h
  refine ⟨H0, A, B, ρ, ω, r, fm, e, ?_⟩
  cases r with
  | val a ω' => exact fun v A' B' H' t w rl => i v H' (res v A' B' H' t w rl)
  | exc x ω' => exact res
end

theorem _root_.L2.PE.dl {X : Cx} {e : Expr} {t t' : TE} (h : PE X e t) (i : ∀ σ H Q, t' σ H Q → t σ H Q) : PE X e t' := ⟨fun pins s σ H Q I q => h.run pins s σ H Q I (i σ H Q q)⟩
theorem _root_.L2.PT.dl {X : Cx} {e : Expr} {t t' : TT} (h : PT X e t) (i : ∀ σ H Q, t' σ H Q → t σ H Q) : PT X e t' := ⟨fun pins s σ H Q I q => h.run pins s σ H Q I (i σ H Q q)⟩
theorem _root_.L2.PW.dl {X : Cx} {e : Expr} {t t' : TT} (h : PW X e t) (i : ∀ σ H Q, t' σ H Q → t σ H Q) : PW X e t' := ⟨fun wh pins s σ H Q I q => h.run wh pins s σ H Q I (i σ H Q q)⟩
theorem _root_.L2.PA.dl {X : Cx} {es : List Expr} {t t' : TA} (h : PA X es t) (i : ∀ σ H Q, t' σ H Q → t σ H Q) : PA X es t' := ⟨fun pos pins s σ H Q I q => h.run pos pins s σ H Q I (i σ H Q q)⟩
theorem _root_.L2.PS.dl {X : Cx} {st : Stmt} {t t' : TS} (h : PS X st t) (i : ∀ D σ H, t' D σ H → t D σ H) : PS X st t' := ⟨fun pins s σ H D I q => h.run pins s σ H D I (i D σ H q)⟩
theorem _root_.L2.PSs.dl {X : Cx} {st : List Stmt} {t t' : TS} (h : PSs X st t) (i : ∀ D σ H, t' D σ H → t D σ H) : PSs X st t' := ⟨fun pins s σ H D I q => h.run pins s σ H D I (i D σ H q)⟩

end DL
/-! DL1: expressions as functions of plain data. -/
namespace DL
open PySem L2

/-- a borrowed value: data, or a list of a frame's own -/
def rW : Rl V D := fun g A B H v d => Dp g A B H v d ∨ ∃ p vs ds, v = .ref p ∧ d = .lst ds ∧ H p = some (.lst vs) ∧ DpL g A B H vs ds ∧ ¬ Liv A p

/-- what is seen of a value -/
def Vw (g : G) (A : Ad) (B : Addr → Prop) (H : Hp) (v : V) : D → Prop
  | .non => v = .non
  | .bl b => v = .bl b
  | .int i => v = .int i
  | .str x => v = .str x
  | .tup ds => Dp g A B H v (.tup ds)
  | .lst ds => ∃ a vs, v = .ref a ∧ H a = some (.lst vs) ∧ DpL g A B H vs ds
  | .dic ds => ∃ a vs, v = .ref a ∧ Rd H a (.dK vs) ∧ DpK g A B H vs ds
  | .obj c fs => ∃ a C dx vs, v = .ref a ∧ H a = some (.ins C dx vs) ∧ g.mg c = some (.ref C) ∧ DpF g A B H vs fs
  | .oid _ => False
  | .scr ns => ∃ a, v = .ref a ∧ SqL g.K H a (ns.map V.int)

theorem Dp.seq {g : G} {A : Ad} {B : Addr → Prop} {H : Hp} {v : V} {ds : List D} (h : Dp g A B H v (.tup ds)) : ∃ a vs, v = .ref a ∧ SqT g.K H a vs ∧ DpL g A B H vs ds := by
  cases h with
  | tup n r l => exact ⟨_, _, rfl, SqT.of r, l⟩
  | tupK k l => exact ⟨_, _, rfl, .inr k, l⟩
def view (ω : List Cell) : D → Option D
  | .oid k => match ω[k]? with
    | some (.lst ds) => some (.lst ds)
    | some (.dic ds) => some (.dic ds)
    | some (.obj c fs) => some (.obj c fs)
    | some (.ldc ds) => some (.dic ds)
    | _ => none
  | d => some d

section
variable {g : G} {A A' : Ad} {B B' : Addr → Prop} {H H' : Hp} {ω : List Cell} {v : V} {d d' : D}
theorem rW.up (w : Wo g A B H ω) (t : Stp A B H A' B' H') (h : rW g A B H v d) : rW g A' B' H' v d := by
  rcases h with h | ⟨p, vs, ds, e1, e2, hp, l, nl⟩
  · exact .inl (Dp.mv (w.mv t) d v h)
  · refine .inr ⟨p, vs, ds, e1, e2, t.keep p _ hp nl, DpL.mv (w.mv t) ds vs l, fun z => ?_⟩
    rcases t.new p z with z | z
    · exact nl z
    · rw [z] at hp; cases hp
theorem Vw.of (h : Dp g A B H v d) (w : Wo g A B H ω) (e : view ω d = some d') : Vw g A B H v d' := by
  cases h with
  | non => cases e; rfl
  | bl b => cases e; rfl
  | int b => cases e; rfl
  | str b => cases e; rfl
  | tup n r l => cases e; exact .tup n r l
  | tupK k l => cases e; exact .tupK k l
  | lst n r l => cases e; exact ⟨_, _, rfl, r, l⟩
  | dic n r l => cases e; exact ⟨_, _, rfl, r, l⟩
  | obj n r q l => cases e; exact ⟨_, _, _, _, rfl, r, q, l⟩
  | scr n r => cases e; exact ⟨_, rfl, .inl r⟩
  | scrK k => cases e; exact ⟨_, rfl, .inr k⟩
  | @oid a k ha =>
    unfold view at e
    cases q : ω[k]? with
    | none => simp only [q] at e; cases e
    | some c =>
      simp only [q] at e
      rcases w.cell k c q with ⟨rfl, z⟩ | ⟨b, hb, ok⟩
      · cases e
      · rw [ha] at hb; cases hb
        cases c with
        | dead => cases e
        | lst ds =>
          cases e
          obtain ⟨vs, h1, h2⟩ := ok
          exact ⟨_, vs, rfl, h1, h2⟩
        | dic ds =>
          cases e
          obtain ⟨vs, h1, h2⟩ := ok
          exact ⟨_, vs, rfl, .inl h1, h2⟩
        | obj c fs =>
          cases e
          obtain ⟨C, dx, vs, h1, h2, h3⟩ := ok
          exact ⟨_, C, dx, vs, rfl, h1, h2, h3⟩
        | ldc ds =>
          cases e
          obtain ⟨o, vs, h1, h2⟩ := ok
          exact ⟨_, vs, rfl, .inr ⟨o, h1⟩, h2⟩
  | @ded v k ha =>
    unfold view at e
    cases q : ω[k]? with
    | none => simp only [q] at e; cases e
    | some c =>
      simp only [q] at e
      rcases w.cell k c q with ⟨rfl, z⟩ | ⟨b, hb, ok⟩
      · cases e
      · rw [ha] at hb; cases hb
theorem view_ok (w : Wo g A B H ω) (h : rW g A B H v d) (e : view ω d = some d') : Vw g A B H v d' := by
  rcases h with h | ⟨p, vs, ds, rfl, rfl, hp, l, nl⟩
  · exact Vw.of h w e
  · cases e
    exact ⟨_, vs, rfl, hp, l⟩

/-! ### the heap grows -/
theorem Stp.grow {p : Addr} {o : HO} (hp : H p = none) : Stp A B H A B (upd H p o) :=
  ⟨fun a u h _ => by rw [upd_ne (ne_of_none h hp)]; exact h, fun _ _ _ _ => Iff.rfl, fun _ h => .inl h, fun _ _ h => .inl h, fun a u h => ⟨u, by rw [upd_ne (ne_of_none h hp)]; exact h⟩, frz_upd (frz_none hp)⟩
theorem CellOk.mv0 {a : Addr} {c : Cell} (m : Mv0 A B H A' B' H') (k : ∀ o, H a = some o → H' a = some o) (h : CellOk g A B H a c) : CellOk g A' B' H' a c := by
  cases c with
  | dead => exact h
  | lst ds =>
    obtain ⟨vs, h1, h2⟩ := h
    exact ⟨vs, k _ h1, DpL.mv0 m _ _ h2⟩
  | dic ds =>
    obtain ⟨vs, h1, h2⟩ := h
    exact ⟨vs, k _ h1, DpK.mv0 m _ _ h2⟩
  | obj c fs =>
    obtain ⟨C, dx, vs, h1, h2, h3⟩ := h
    exact ⟨C, dx, vs, k _ h1, h2, DpF.mv0 m _ _ h3⟩
  | ldc ds =>
    obtain ⟨o, vs, h1, h2⟩ := h
    exact ⟨o, vs, k _ h1, DpK.mv0 m _ _ h2⟩
theorem CellOk.mv {a : Addr} {c : Cell} (m : Mv A B H A' B' H') (k : ∀ o, H a = some o → H' a = some o) (h : CellOk g A B H a c) : CellOk g A' B' H' a c := h.mv0 m.m0 k
theorem Mv.grow {p : Addr} {o : HO} (hp : H p = none) : Mv A B H A B (upd H p o) :=
  ⟨fun a u n e => ⟨by rw [upd_ne (ne_of_none e hp)]; exact e, n⟩, fun _ _ h => .inl h, frz_upd (frz_none hp)⟩
theorem Wo.grow {p : Addr} {o : HO} (w : Wo g A B H ω) (hp : H p = none) : Wo g A B (upd H p o) ω :=
  ⟨w.len, w.inj, w.liv, fun a h => by
    obtain ⟨u, e⟩ := w.bnd a h
    exact ⟨u, by rw [upd_ne (ne_of_none e hp)]; exact e⟩, fun k c e => by
    rcases w.cell k c e with z | ⟨a, h1, h2⟩
    · exact .inl z
    · exact .inr ⟨a, h1, h2.mv (Mv.grow hp) fun u q => by rw [upd_ne (ne_of_none q hp)]; exact q⟩⟩
end

/-- what comes behind a value -/
abbrev Aft (g : G) (A : Ad) (B : Addr → Prop) (H : Hp) (ω : List Cell) (d : D) (Q : VK) : Prop :=
  ∀ v A' B' H', Stp A B H A' B' H' → Wo g A' B' H' ω → Dp g A' B' H' v d → Q v H'
section
variable {g : G} {A : Ad} {B : Addr → Prop} {H : Hp} {ω : List Cell} {Q : VK}
theorem Aft.now {d : D} {v : V} (h : Aft g A B H ω d Q) (w : Wo g A B H ω) (r : Dp g A B H v d) : Q v H := h v A B H (.refl _ _ _) w r
theorem Aft.tup {vs : List V} {ds : List D} (h : Aft g A B H ω (.tup ds) Q) (w : Wo g A B H ω) (l : DpL g A B H vs ds) : ∀ p, H p = none → Q (.ref p) (upd H p (.tup vs)) := fun p hp =>
  h _ A B _ (Stp.grow hp) (w.grow hp) (.tup (w.nb hp) upd_same (DpL.mv (Mv.grow hp) _ _ l))
theorem Aft.lst {vs : List V} {ds : List D} (h : Aft g A B H ω (.lst ds) Q) (w : Wo g A B H ω) (l : DpL g A B H vs ds) : ∀ p, H p = none → Q (.ref p) (upd H p (.lst vs)) := fun p hp =>
  h _ A B _ (Stp.grow hp) (w.grow hp) (.lst (w.nb hp) upd_same (DpL.mv (Mv.grow hp) _ _ l))
end

/-! ### lists of data -/
section
variable {g : G} {A : Ad} {B : Addr → Prop} {H : Hp}
theorem DpL.length : ∀ {ds : List D} {vs : List V}, DpL g A B H vs ds → vs.length = ds.length
  | [], _, h => by cases h; rfl
  | d :: ds, _, h => by cases h with | cons h1 h2 => simp [DpL.length h2]
theorem DpL.append : ∀ {ds es : List D} {vs ws : List V}, DpL g A B H vs ds → DpL g A B H ws es → DpL g A B H (vs ++ ws) (ds ++ es)
  | [], es, _, ws, h, k => by cases h; exact k
  | d :: ds, es, _, ws, h, k => by cases h with | cons h1 h2 => exact .cons h1 (DpL.append h2 k)
theorem DpL.get : ∀ {ds : List D} {vs : List V} {i : Nat} {d : D}, DpL g A B H vs ds → ds[i]? = some d → ∃ v, vs[i]? = some v ∧ Dp g A B H v d
  | [], _, _, _, _, e => by simp at e
  | d :: ds, _, 0, _, h, e => by
    cases h with
    | cons h1 h2 =>
      simp at e; subst e
      exact ⟨_, rfl, h1⟩
  | d :: ds, _, i + 1, e', h, e => by
    cases h with
    | cons h1 h2 =>
      obtain ⟨v, q1, q2⟩ := DpL.get (i := i) (d := e') h2 (by simpa using e)
      exact ⟨v, by simpa using q1, q2⟩
theorem DpL.getV : ∀ {ds : List D} {vs : List V} {i : Nat} {v : V}, DpL g A B H vs ds → vs[i]? = some v → ∃ d, ds[i]? = some d ∧ Dp g A B H v d
  | [], _, _, _, h, e => by cases h; simp at e
  | d :: ds, _, 0, _, h, e => by
    cases h with
    | cons h1 h2 =>
      simp at e; subst e
      exact ⟨_, rfl, h1⟩
  | d :: ds, _, i + 1, e', h, e => by
    cases h with
    | cons h1 h2 =>
      obtain ⟨v, q1, q2⟩ := DpL.getV (i := i) (v := e') h2 (by simpa using e)
      exact ⟨v, by simpa using q1, q2⟩
theorem DpL.take : ∀ {ds : List D} {vs : List V} (n : Nat), DpL g A B H vs ds → DpL g A B H (vs.take n) (ds.take n)
  | _, _, 0, _ => .nil
  | [], _, n + 1, h => by cases h; exact .nil
  | d :: ds, _, n + 1, h => by cases h with | cons h1 h2 => exact .cons h1 (DpL.take n h2)
theorem DpL.drop : ∀ {ds : List D} {vs : List V} (n : Nat), DpL g A B H vs ds → DpL g A B H (vs.drop n) (ds.drop n)
  | _, _, 0, h => h
  | [], _, n + 1, h => by cases h; exact .nil
  | d :: ds, _, n + 1, h => by cases h with | cons h1 h2 => exact DpL.drop n h2
theorem DpL.reverse : ∀ {ds : List D} {vs : List V}, DpL g A B H vs ds → DpL g A B H vs.reverse ds.reverse
  | [], _, h => by cases h; exact .nil
  | d :: ds, _, h => by
    cases h with
    | cons h1 h2 =>
      rw [List.reverse_cons, List.reverse_cons]
      exact (DpL.reverse h2).append (.cons h1 .nil)
theorem DpL.set : ∀ {ds : List D} {vs : List V} (i : Nat) {v : V} {d : D}, DpL g A B H vs ds → Dp g A B H v d → DpL g A B H (vs.set i v) (ds.set i d)
  | [], _, _, _, _, h, _ => by cases h; exact .nil
  | d :: ds, _, 0, _, _, h, k => by cases h with | cons h1 h2 => exact .cons k h2
  | d :: ds, _, i + 1, _, _, h, k => by cases h with | cons h1 h2 => exact .cons h1 (DpL.set i h2 k)
theorem DpL.dropLast {ds : List D} {vs : List V} (h : DpL g A B H vs ds) : DpL g A B H vs.dropLast ds.dropLast := by
  rw [List.dropLast_eq_take, List.dropLast_eq_take, h.length]
  exact h.take _
theorem DpL.eraseIdx : ∀ {ds : List D} {vs : List V} (i : Nat), DpL g A B H vs ds → DpL g A B H (vs.eraseIdx i) (ds.eraseIdx i)
  | [], _, _, h => by cases h; exact .nil
  | d :: ds, _, 0, h => by cases h with | cons h1 h2 => exact h2
  | d :: ds, _, i + 1, h => by cases h with | cons h1 h2 => exact .cons h1 (DpL.eraseIdx i h2)
end

/-! ### names and constants -/
/-- a datum's name -/
def vF (i : Nat) : M D := fun ρ ω => match ρ[i]? with
  | some (.fz d) => some (.val d ω)
  | _ => none
/-- a name that is looked at only -/
def vW (i : Nat) : M D := fun ρ ω => match ρ[i]? with
  | some (.fz d) => some (.val d ω)
  | some (.ow ds) => some (.val (.lst ds) ω)
  | _ => none
section
variable {X : Cx} {g : G} {W : WX}
theorem tM_var {i : Nat} : ∀ σ H Q, tM g rD W (vF i) σ H Q → tVar i σ H Q := by
  rintro σ H Q ⟨H0, A, B, ρ, ω, r, fm, e, res⟩
  unfold vF at e
  cases q : ρ[i]? with
  | none => simp only [q] at e; cases e
  | some s =>
    simp only [q] at e
    cases s with
    | no => cases e
    | ex p x => cases e
    | ow ds => cases e
    | fz d =>
      cases e
      obtain ⟨v, hv, h⟩ := fm.sl.val i _ q
      exact ⟨v, hv, res v A B H (.refl _ _ _) fm.wo h⟩
theorem tM_varW {i : Nat} : ∀ σ H Q, tM g rW W (vW i) σ H Q → tVar i σ H Q := by
  rintro σ H Q ⟨H0, A, B, ρ, ω, r, fm, e, res⟩
  unfold vW at e
  cases q : ρ[i]? with
  | none => simp only [q] at e; cases e
  | some s =>
    simp only [q] at e
    cases s with
    | no => cases e
    | ex p x => cases e
    | ow ds =>
      cases e
      obtain ⟨p, vs, hv, hp, l, b, nl, h0⟩ := fm.sl.val i _ q
      exact ⟨_, hv, res _ A B H (.refl _ _ _) fm.wo (.inr ⟨p, vs, ds, rfl, rfl, hp, l, nl⟩)⟩
    | fz d =>
      cases e
      obtain ⟨v, hv, h⟩ := fm.sl.val i _ q
      exact ⟨v, hv, res v A B H (.refl _ _ _) fm.wo (.inl h)⟩
theorem de_v (i : Nat) {x : Str} {pos : Pos} (hN : X.N[i]? = some x := by rfl) (hv : Vis X.env.scope x := by first | exact Or.inl rfl | exact Or.inr (Or.inl rfl) | exact Or.inr (Or.inr rfl)) (hd : (x == ("__debug__" : Str)) = false := by decide)
    (hcd : (x == ("__classdict__" : Str)) = false := by decide) : PE X (.Name x pos) (tM g rD W (vF i)) := (pe_var hN hv hd hcd).dl tM_var
theorem dw_v (i : Nat) {x : Str} {pos : Pos} (hN : X.N[i]? = some x := by rfl) (hv : Vis X.env.scope x := by first | exact Or.inl rfl | exact Or.inr (Or.inl rfl) | exact Or.inr (Or.inr rfl)) (hd : (x == ("__debug__" : Str)) = false := by decide)
    (hcd : (x == ("__classdict__" : Str)) = false := by decide) : PE X (.Name x pos) (tM g rW W (vW i)) := (pe_var hN hv hd hcd).dl tM_varW
/-- data are looked at -/
theorem dw {e : Expr} {f : M D} (h : PE X e (tM g rD W f)) : PE X e (tM g rW W f) := h.dl fun σ H Q ⟨H0, A, B, ρ, ω, r, fm, e, res⟩ => ⟨H0, A, B, ρ, ω, r, fm, e, by
  cases r with
  | val a ω' => exact fun v A' B' H' t w rl => res v A' B' H' t w (.inl rl)
  | exc x ω' => exact res⟩
/-- a constant -/
theorem tM_c {v : V} {d : D} (hd : ∀ g A B H, Dp g A B H v d) : ∀ σ H Q, tM g rD W (M.pure d) σ H Q → Q v H := by
  rintro σ H Q ⟨H0, A, B, ρ, ω, r, fm, e, res⟩
  cases e
  exact res v A B H (.refl _ _ _) fm.wo (hd _ _ _ _)
theorem de_int {i : Int} {j pos} : PE X (.Constant (.int i) j pos) (tM g rD W (M.pure (.int i))) := pe_int.dl (tM_c fun _ _ _ _ => .int i)
theorem de_bl {b : Bool} {j pos} : PE X (.Constant (.bool b) j pos) (tM g rD W (M.pure (.bl b))) := pe_bl.dl (tM_c fun _ _ _ _ => .bl b)
theorem de_non {j pos} : PE X (.Constant .none j pos) (tM g rD W (M.pure .non)) := pe_non.dl (tM_c fun _ _ _ _ => .non)
theorem de_str {x : Str} {j pos} : PE X (.Constant (.str x) j pos) (tM g rD W (M.pure (.str x))) := pe_str.dl (tM_c fun _ _ _ _ => .str x)
/-- a module's int or text -/
theorem de_glob {x : Str} {d : D} {v : V} {u : Value} {pos : Pos} (hg : Gl X x) (hm : X.mg x = some u) (r : RelV v u) (hd : ∀ g A B H, Dp g A B H v d) (hdb : (x == ("__debug__" : Str)) = false := by decide) : PE X (.Name x pos) (tM g rD W (M.pure d)) :=
  (pe_glob hg hm r hdb).dl (tM_c hd)
end

/-! ### operators by values -/
/-- an operator of two, over what is seen -/
def op2 (f : D → D → Option D) (x y : D) : M D := fun _ ω => match view ω x, view ω y with
  | some x', some y' => match f x' y' with
    | some z => some (.val z ω)
    | none => none
  | _, _ => none
/-- two values, an operator -/
def bo (f : D → D → Option D) (fa fb : M D) : M D := fa.bind fun x => fb.bind fun y => op2 f x y
theorem op2_some {f : D → D → Option D} {x y : D} {ρ : Rho} {ω : List Cell} {r : R D} (h : op2 f x y ρ ω = some r) : ∃ x' y' z, view ω x = some x' ∧ view ω y = some y' ∧ f x' y' = some z ∧ r = .val z ω := by
  unfold op2 at h
  cases q1 : view ω x with
  | none => simp only [q1] at h; cases h
  | some x' =>
    cases q2 : view ω y with
    | none => simp only [q1, q2] at h; cases h
    | some y' =>
      simp only [q1, q2] at h
      cases q3 : f x' y' with
      | none => simp only [q3] at h; cases h
      | some z =>
        simp only [q3] at h
        cases h
        exact ⟨x', y', z, rfl, rfl, q3, rfl⟩
def V2 (g : G) (r : R2) (f : D → D → Option D) : Prop := ∀ (A : Ad) (B : Addr → Prop) (H : Hp) (ω : List Cell) (x y : V) (a b c : D) (Q : VK), Wo g A B H ω → Vw g A B H x a → Vw g A B H y b → f a b = some c → Aft g A B H ω c Q → r x y H Q
def op1 (f : D → Option D) (x : D) : M D := fun _ ω => match view ω x with
  | some x' => match f x' with
    | some z => some (.val z ω)
    | none => none
  | _ => none
def uo (f : D → Option D) (fa : M D) : M D := fa.bind fun x => op1 f x
theorem op1_some {f : D → Option D} {x : D} {ρ : Rho} {ω : List Cell} {r : R D} (h : op1 f x ρ ω = some r) : ∃ x' z, view ω x = some x' ∧ f x' = some z ∧ r = .val z ω := by
  unfold op1 at h
  cases q1 : view ω x with
  | none => simp only [q1] at h; cases h
  | some x' =>
    simp only [q1] at h
    cases q3 : f x' with
    | none => simp only [q3] at h; cases h
    | some z =>
      simp only [q3] at h
      cases h
      exact ⟨x', z, rfl, q3, rfl⟩
def V1 (g : G) (r : V → Hp → VK → Prop) (f : D → Option D) : Prop := ∀ (A : Ad) (B : Addr → Prop) (H : Hp) (ω : List Cell) (x : V) (a c : D) (Q : VK), Wo g A B H ω → Vw g A B H x a → f a = some c → Aft g A B H ω c Q → r x H Q
section
variable {X : Cx} {g : G} {W : WX} {a b c : Expr} {fa fb fc : M D} {f : D → D → Option D} {pos : Pos}
theorem tM_op2 {r : R2} (hv : V2 g r f) : ∀ σ H Q, tM g rD W (bo f fa fb) σ H Q → tOp r (tM g rW W fa) (tM g rW W fb) σ H Q := by
  rintro σ H Q ⟨H0, A, B, ρ, ω, r, fm, e, res⟩
  refine tM_mono (tM_bind fm e res) fun x H1 ⟨A1, B1, ω1, d1, t1, fm1, r1, e1, res1⟩ => ?_
  refine tM_mono (tM_bind fm1 e1 res1) fun y H2 ⟨A2, B2, ω2, d2, t2, fm2, r2, e2, res2⟩ => ?_
  obtain ⟨x', y', z, h1, h2, h3, rfl⟩ := op2_some e2
  exact hv A2 B2 H2 ω2 x y x' y' z Q fm2.wo (view_ok fm2.wo (r1.up fm1.wo t2) h1) (view_ok fm2.wo r2 h2) h3 res2
theorem de_op {op : Operator} {r : R2} (ho : OpR X (binaryOp op) r) (hv : V2 g r f) (ha : PE X a (tM g rW W fa)) (hb : PE X b (tM g rW W fb)) : PE X (.BinOp a op b pos) (tM g rD W (bo f fa fb)) :=
  (pe_op ho ha hb).dl (tM_op2 hv)
theorem de_cmp {op : CmpOp} {r : R2} (ho : OpR X (compareOp op) r) (hv : V2 g r f) (ha : PE X a (tM g rW W fa)) (hb : PE X b (tM g rW W fb)) (hm : behindInMarks op b = false) : PE X (.Compare a [op] [b] pos) (tM g rD W (bo f fa fb)) :=
  (pe_cmpR ho ha hb hm).dl (tM_op2 hv)
theorem de_ix {r : R2} (ho : IxR X r) (hv : V2 g r f) (ha : PE X a (tM g rW W fa)) (hb : PE X b (tM g rW W fb)) (hs : PlainIx b) : PE X (.Subscript a b pos) (tM g rD W (bo f fa fb)) :=
  (pe_ix ho ha hb hs).dl (tM_op2 hv)
theorem tM_op1 {f : D → Option D} {r : V → Hp → VK → Prop} (hv : V1 g r f) : ∀ σ H Q, tM g rD W (uo f fa) σ H Q → tM g rW W fa σ H fun x H1 => r x H1 Q := by
  rintro σ H Q ⟨H0, A, B, ρ, ω, r, fm, e, res⟩
  refine tM_mono (tM_bind fm e res) fun x H1 ⟨A1, B1, ω1, d1, t1, fm1, r1, e1, res1⟩ => ?_
  obtain ⟨x', z, h1, h3, rfl⟩ := op1_some e1
  exact hv A1 B1 H1 ω1 x x' z Q fm1.wo (view_ok fm1.wo r1 h1) h3 res1
theorem de_un {op : UnaryOp} {f : D → Option D} {r : V → Hp → VK → Prop} (ho : UnR X (unaryOp op) r) (hv : V1 g r f) (ha : PE X a (tM g rW W fa)) : PE X (.UnaryOp op a pos) (tM g rD W (uo f fa)) :=
  (pe_un ho ha).dl (tM_op1 hv)

/-! ### tests -/
/-- a test of a comparison -/
def asB : D → M Bool := fun d _ ω => match d with
  | .bl b => some (.val b ω)
  | _ => none
theorem dt_cmp {op : CmpOp} {r : R2} (ho : OpR X (compareOp op) r) (hv : V2 g r f) (ha : PE X a (tM g rW W fa)) (hb : PE X b (tM g rW W fb)) (hm : behindInMarks op b = false) :
    PT X (.Compare a [op] [b] pos) (tM g rB W ((bo f fa fb).bind asB)) :=
  (pt_cmpR ho ha hb hm).dl fun σ H Q ⟨H0, A, B, ρ, ω, r, fm, e, res⟩ => by
    refine tM_op2 hv σ H _ (tM_mono (tM_bind fm e res) fun x H1 ⟨A1, B1, ω1, d1, t1, fm1, r1, e1, res1⟩ => ?_)
    unfold asB at e1
    cases d1 with
    | bl k =>
      cases e1
      cases r1
      exact ⟨k, rfl, res1 k A1 B1 H1 (.refl _ _ _) fm1.wo rfl⟩
    | _ => cases e1
/-- truth -/
def truD : D → Option Bool
  | .non => some false
  | .bl b => some b
  | .int i => some (i != 0)
  | .str x => if x.length ≤ sizeLine then some ((x.length : Int) != 0) else none
  | .tup ds => some !ds.isEmpty
  | .lst ds => some !ds.isEmpty
  | _ => none
def tru (d : D) : M Bool := fun _ ω => match view ω d with
  | some d' => match truD d' with
    | some b => some (.val b ω)
    | none => none
  | none => none
theorem isEmpty_len {α β : Type} {xs : List α} {ys : List β} (h : xs.length = ys.length) : xs.isEmpty = ys.isEmpty := by
  cases xs <;> cases ys <;> first | rfl | simp at h
theorem truV_of {A : Ad} {B : Addr → Prop} {H : Hp} {x : V} {d : D} {k : Bool} (h : Vw g A B H x d) (e : truD d = some k) : TruV g.K x H k := by
  cases d with
  | non => cases h; cases e; rfl
  | bl b => cases h; cases e; rfl
  | int b => cases h; cases e; rfl
  | str b =>
    cases h
    simp only [truD] at e
    split at e
    · cases e; exact ⟨by assumption, rfl⟩
    · cases e
  | tup ds =>
    obtain ⟨a, vs, rfl, hs, l⟩ := Dp.seq h
    cases e
    exact .inr (.inl ⟨vs, hs, by rw [isEmpty_len l.length]⟩)
  | lst ds =>
    obtain ⟨a, vs, rfl, hs, l⟩ := h
    cases e
    exact .inl ⟨vs, SqL.of hs, by rw [isEmpty_len l.length]⟩
  | _ => cases e
theorem dt_tru (hK : X.K = g.K) (ha : PE X a (tM g rW W fa)) (he : ∀ whole, isTrue a X.env whole = (do let v ← whole; standAt a.pos; holding [v] (truthy v)) := by intro _; rfl) : PT X a (tM g rB W (fa.bind tru)) :=
  (pt_truth ha he).dl fun σ H Q ⟨H0, A, B, ρ, ω, r, fm, e, res⟩ => by
    refine tM_mono (tM_bind fm e res) fun x H1 ⟨A1, B1, ω1, d1, t1, fm1, r1, e1, res1⟩ => ?_
    unfold tru at e1
    cases q : view ω1 d1 with
    | none => simp only [q] at e1; cases e1
    | some d' =>
      simp only [q] at e1
      cases q2 : truD d' with
      | none => simp only [q2] at e1; cases e1
      | some k =>
        simp only [q2] at e1
        cases e1
        exact ⟨k, by rw [hK]; exact truV_of (view_ok fm1.wo r1 q) q2, res1 k A1 B1 H1 (.refl _ _ _) fm1.wo rfl⟩
variable {ta tb : M Bool} {rest : List Expr}
def andM (ta tb : M Bool) : M Bool := ta.bind fun b => if b = true then tb else M.pure false
def orM (ta tb : M Bool) : M Bool := ta.bind fun b => if b = true then M.pure true else tb
def notM (ta : M Bool) : M Bool := ta.bind fun b => M.pure (!b)
theorem tM_step {α β : Type} {rel : Rl β α} {f : M α} {A : Ad} {B : Addr → Prop} {H H0 : Hp} {ω : List Cell} {σ : St} {ρ : Rho} {r : R α} {Q : β → Hp → Prop} (fm : Fm g H0 A B H ω σ ρ) (e : f ρ ω = some r) (res : ResOk g rel W σ A B H Q r) : tM g rel W f σ H Q := ⟨H0, A, B, ρ, ω, r, fm, e, res⟩
theorem tM_pureB {A : Ad} {B : Addr → Prop} {H : Hp} {ω : List Cell} {σ : St} {ρ : Rho} {H0 : Hp} {b : Bool} {r : R Bool} {Q : Bool → Hp → Prop} (fm : Fm g H0 A B H ω σ ρ) (e : M.pure b ρ ω = some r) (res : ResOk g rB W σ A B H Q r) : Q b H := by
  cases e
  exact res b A B H (.refl _ _ _) fm.wo rfl
theorem dt_not (ha : PT X a (tM g rB W ta)) : PT X (.UnaryOp .Not a pos) (tM g rB W (notM ta)) :=
  (pt_not ha).dl fun σ H Q ⟨H0, A, B, ρ, ω, r, fm, e, res⟩ =>
    tM_mono (tM_bind fm e res) fun x H1 ⟨A1, B1, ω1, d1, t1, fm1, r1, e1, res1⟩ => by
      cases r1
      exact tM_pureB fm1 e1 res1
theorem dw_and1 (ha : PT X a (tM g rB W ta)) : PW X (.BoolOp .And [a] pos) (tM g rB W ta) := pw_and1 ha
theorem dw_or1 (ha : PT X a (tM g rB W ta)) : PW X (.BoolOp .Or [a] pos) (tM g rB W ta) := pw_or1 ha
theorem dw_and (ha : PT X a (tM g rB W ta)) (hb : PW X (.BoolOp .And (b :: rest) pos) (tM g rB W tb)) : PW X (.BoolOp .And (a :: b :: rest) pos) (tM g rB W (andM ta tb)) :=
  (pw_and ha hb).dl fun σ H Q ⟨H0, A, B, ρ, ω, r, fm, e, res⟩ =>
    tM_mono (tM_bind fm e res) fun x H1 ⟨A1, B1, ω1, d1, t1, fm1, r1, e1, res1⟩ => by
      cases r1
      cases x with
      | true =>
        rw [if_pos rfl] at e1 ⊢
        exact tM_step fm1 e1 res1
      | false =>
        rw [if_neg Bool.false_ne_true] at e1 ⊢
        exact tM_pureB fm1 e1 res1
theorem dw_or (ha : PT X a (tM g rB W ta)) (hb : PW X (.BoolOp .Or (b :: rest) pos) (tM g rB W tb)) : PW X (.BoolOp .Or (a :: b :: rest) pos) (tM g rB W (orM ta tb)) :=
  (pw_or ha hb).dl fun σ H Q ⟨H0, A, B, ρ, ω, r, fm, e, res⟩ =>
    tM_mono (tM_bind fm e res) fun x H1 ⟨A1, B1, ω1, d1, t1, fm1, r1, e1, res1⟩ => by
      cases r1
      cases x with
      | true =>
        rw [if_pos rfl] at e1 ⊢
        exact tM_pureB fm1 e1 res1
      | false =>
        rw [if_neg Bool.false_ne_true] at e1 ⊢
        exact tM_step fm1 e1 res1
theorem dt_w (h : PW X a (tM g rB W ta)) : PT X a (tM g rB W ta) := h.pt
/-- a if t else b -/
def ifM {α : Type} (t : M Bool) (x y : M α) : M α := t.bind fun b => if b = true then x else y
theorem de_ifExp (hc : PT X c (tM g rB W ta)) (ha : PE X a (tM g rD W fa)) (hb : PE X b (tM g rD W fb)) : PE X (.IfExp c a b pos) (tM g rD W (ifM ta fa fb)) :=
  (pe_ifExp hc ha hb).dl fun σ H Q ⟨H0, A, B, ρ, ω, r, fm, e, res⟩ =>
    tM_mono (tM_bind fm e res) fun x H1 ⟨A1, B1, ω1, d1, t1, fm1, r1, e1, res1⟩ => by
      cases r1
      cases x with
      | true =>
        rw [if_pos rfl] at e1 ⊢
        exact tM_step fm1 e1 res1
      | false =>
        rw [if_neg Bool.false_ne_true] at e1 ⊢
        exact tM_step fm1 e1 res1
end

/-! ### and, or, not as values (bools) -/
section
variable {X : Cx} {g : G} {W : WX} {a b : Expr} {fa fb : M D} {rest : List Expr} {pos : Pos}
def andV (fa fb : M D) : M D := (fa.bind asB).bind fun b => if b = true then fb else M.pure (.bl false)
def orV (fa fb : M D) : M D := (fa.bind asB).bind fun b => if b = true then M.pure (.bl true) else fb
def notV (fa : M D) : M D := (fa.bind asB).bind fun b => M.pure (.bl !b)
theorem bind_assoc {α β γ : Type} (f : M α) (k : α → M β) (h : β → M γ) : (f.bind k).bind h = f.bind fun a => (k a).bind h := by
  funext ρ ω
  unfold M.bind
  cases f ρ ω with
  | none => rfl
  | some r => cases r <;> rfl
theorem asB_some {d : D} {ρ : Rho} {ω : List Cell} {β : Type} {k : Bool → M β} {r : R β} (e : ((asB d).bind k) ρ ω = some r) : ∃ b, d = .bl b ∧ k b ρ ω = some r := by
  unfold M.bind asB at e
  cases d with
  | bl b => exact ⟨b, rfl, e⟩
  | _ => cases e
theorem de_one {op} (h : PE X a (tM g rD W fa)) : PE X (.BoolOp op [a] pos) (tM g rD W fa) := pe_one h
theorem de_and (ha : PE X a (tM g rD W fa)) (hb : PE X (.BoolOp .And (b :: rest) pos) (tM g rD W fb)) : PE X (.BoolOp .And (a :: b :: rest) pos) (tM g rD W (andV fa fb)) :=
  (pe_and ha hb).dl fun σ H Q ⟨H0, A, B, ρ, ω, r, fm, e, res⟩ => by
    unfold andV at e
    rw [bind_assoc] at e
    refine tM_mono (tM_bind fm e res) fun x H1 ⟨A1, B1, ω1, d1, t1, fm1, r1, e1, res1⟩ => ?_
    obtain ⟨k, rfl, e2⟩ := asB_some e1
    cases r1
    refine ⟨k, rfl, ?_⟩
    cases k with
    | true =>
      rw [if_pos rfl] at e2 ⊢
      exact tM_step fm1 e2 res1
    | false =>
      rw [if_neg Bool.false_ne_true] at e2 ⊢
      exact tM_c (fun _ _ _ _ => .bl false) σ H1 Q (tM_step fm1 e2 res1)
theorem de_or (ha : PE X a (tM g rD W fa)) (hb : PE X (.BoolOp .Or (b :: rest) pos) (tM g rD W fb)) : PE X (.BoolOp .Or (a :: b :: rest) pos) (tM g rD W (orV fa fb)) :=
  (pe_or ha hb).dl fun σ H Q ⟨H0, A, B, ρ, ω, r, fm, e, res⟩ => by
    unfold orV at e
    rw [bind_assoc] at e
    refine tM_mono (tM_bind fm e res) fun x H1 ⟨A1, B1, ω1, d1, t1, fm1, r1, e1, res1⟩ => ?_
    obtain ⟨k, rfl, e2⟩ := asB_some e1
    cases r1
    refine ⟨k, rfl, ?_⟩
    cases k with
    | true =>
      rw [if_pos rfl] at e2 ⊢
      exact tM_c (fun _ _ _ _ => .bl true) σ H1 Q (tM_step fm1 e2 res1)
    | false =>
      rw [if_neg Bool.false_ne_true] at e2 ⊢
      exact tM_step fm1 e2 res1
theorem de_not (ha : PE X a (tM g rD W fa)) : PE X (.UnaryOp .Not a pos) (tM g rD W (notV fa)) :=
  (pe_not ha).dl fun σ H Q ⟨H0, A, B, ρ, ω, r, fm, e, res⟩ => by
    unfold notV at e
    rw [bind_assoc] at e
    refine tM_mono (tM_bind fm e res) fun x H1 ⟨A1, B1, ω1, d1, t1, fm1, r1, e1, res1⟩ => ?_
    obtain ⟨k, rfl, e2⟩ := asB_some e1
    cases r1
    exact ⟨k, rfl, tM_c (fun _ _ _ _ => .bl _) σ H1 Q (tM_step fm1 e2 res1)⟩
end

/-! ### arguments, displays -/
def consM (f : M D) (fs : M (List D)) : M (List D) := f.bind fun d => fs.bind fun ds => M.pure (d :: ds)
section
variable {X : Cx} {g : G} {W : WX} {e : Expr} {es : List Expr} {f : M D} {fs : M (List D)} {pos : Pos}
theorem da_nil : PA X [] (tM g rL W (M.pure [])) := pa_nil.dl fun σ H Q ⟨H0, A, B, ρ, ω, r, fm, e, res⟩ => by
  cases e
  exact res [] A B H (.refl _ _ _) fm.wo .nil
theorem da_cons (h : PE X e (tM g rD W f)) (hs : PA X es (tM g rL W fs)) (hst : starEach (e :: es) X.env = (false, eval e X.env) :: starEach es X.env := by rfl) : PA X (e :: es) (tM g rL W (consM f fs)) :=
  (pa_cons h hs hst).dl fun σ H Q ⟨H0, A, B, ρ, ω, r, fm, e, res⟩ => by
    refine tM_mono (tM_bind fm e res) fun x H1 ⟨A1, B1, ω1, d1, t1, fm1, r1, e1, res1⟩ => ?_
    refine tM_mono (tM_bind fm1 e1 res1) fun y H2 ⟨A2, B2, ω2, d2, t2, fm2, r2, e2, res2⟩ => ?_
    cases e2
    exact res2 _ A2 B2 H2 (.refl _ _ _) fm2.wo (.cons (Dp.mv (fm1.wo.mv t2) _ _ r1) r2)
def mkTup (ds : List D) : M D := fun _ ω => if ds.length ≤ sizeLine then some (.val (.tup ds) ω) else none
def mkLst (ds : List D) : M D := fun _ ω => if ds.length ≤ sizeLine then some (.val (.lst ds) ω) else none
theorem de_tup {x1} (h : PA X es (tM g rL W fs)) : PE X (.Tuple es x1 pos) (tM g rD W (fs.bind mkTup)) :=
  (pe_tup h).dl fun σ H Q ⟨H0, A, B, ρ, ω, r, fm, e, res⟩ => by
    refine tM_mono (tM_bind fm e res) fun x H1 ⟨A1, B1, ω1, d1, t1, fm1, r1, e1, res1⟩ => ?_
    unfold mkTup at e1
    split at e1
    · cases e1
      refine ⟨by rw [DpL.length r1]; assumption, Aft.tup (fun v A' B' H' t w r => res1 v A' B' H' t w r) fm1.wo r1⟩
    · cases e1
theorem de_lst (h : PA X es (tM g rL W fs)) : PE X (.List es pos) (tM g rD W (fs.bind mkLst)) :=
  (pe_lst h).dl fun σ H Q ⟨H0, A, B, ρ, ω, r, fm, e, res⟩ => by
    refine tM_mono (tM_bind fm e res) fun x H1 ⟨A1, B1, ω1, d1, t1, fm1, r1, e1, res1⟩ => ?_
    unfold mkLst at e1
    split at e1
    · cases e1
      refine ⟨by rw [DpL.length r1]; assumption, Aft.lst (fun v A' B' H' t w r => res1 v A' B' H' t w r) fm1.wo r1⟩
    · cases e1
end
end DL
/-! DL2: operators and built-ins over plain data. -/
namespace DL
open PySem L2

/-! ### arithmetic -/
def rAddA (K : PySem.W.Frag) : R2 := fun x y H Q => (∃ i j, x = .int i ∧ y = .int j ∧ Q (.int (i + j)) H) ∨ (∃ i j, x = .str i ∧ y = .str j ∧ i.length + j.length ≤ sizeLine ∧ Q (.str (i ++ j)) H) ∨ rCat x y H Q ∨ rCatA K x y H Q
theorem op_addA {X : Cx} : OpR X (binaryOp .Add) (rAddA X.K) := op_add.or (op_add_str.or (op_cat.or op_catA))
def addD : D → D → Option D
  | .int i, .int j => some (.int (i + j))
  | .str x, .str y => if x.length + y.length ≤ sizeLine then some (.str (x ++ y)) else none
  | .lst xs, .lst ys => if xs.length + ys.length ≤ sizeLine then some (.lst (xs ++ ys)) else none
  | .tup xs, .tup ys => if xs.length + ys.length ≤ sizeLine then some (.tup (xs ++ ys)) else none
  | _, _ => none
theorem DpL.nil_iff {g : G} {A : Ad} {B : Addr → Prop} {H : Hp} {vs : List V} {ds : List D} (h : DpL g A B H vs ds) : vs = [] ↔ ds = [] := by
  cases h <;> simp
theorem v_add (g : G) : V2 g (rAddA g.K) addD := by
  intro A B H ω x y a b c Q w ha hb e q
  cases a with
  | int i =>
    cases b with
    | int j =>
      cases ha; cases hb; cases e
      exact .inl ⟨i, j, rfl, rfl, q.now w (.int _)⟩
    | _ => cases e
  | str i =>
    cases b with
    | str j =>
      cases ha; cases hb
      simp only [addD] at e
      split at e
      · cases e
        exact .inr (.inl ⟨i, j, rfl, rfl, by assumption, q.now w (.str _)⟩)
      · cases e
    | _ => cases e
  | lst i =>
    cases b with
    | lst j =>
      obtain ⟨p, vs, rfl, hp, l⟩ := ha
      obtain ⟨p', ws, rfl, hp', l'⟩ := hb
      simp only [addD] at e
      split at e
      · cases e
        exact .inr (.inr (.inl ⟨p, p', vs, ws, rfl, rfl, hp, hp', by rw [l.length, l'.length]; assumption, q.lst w (l.append l')⟩))
      · cases e
    | _ => cases e
  | tup i =>
    cases b with
    | tup j =>
      obtain ⟨p, vs, rfl, hp, l⟩ := Dp.seq ha
      obtain ⟨p', ws, rfl, hp', l'⟩ := Dp.seq hb
      simp only [addD] at e
      split at e
      · cases e
        refine .inr (.inr (.inr ⟨p, p', vs, ws, rfl, rfl, hp, hp', by rw [l.length, l'.length]; assumption, fun z => ?_, fun _ z => ?_, fun _ _ => q.tup w (l.append l')⟩))
        · rw [l.nil_iff] at z; subst z
          exact q.now w hb
        · rw [l'.nil_iff] at z; subst z
          rw [List.append_nil] at q
          exact q.now w ha
      · cases e
    | _ => cases e
  | _ => cases e

/-- an operator of two ints -/
def intsD (C : Int → Int → Bool) (f : Int → Int → Int) : D → D → Option D
  | .int i, .int j => if C i j = true then some (.int (f i j)) else none
  | _, _ => none
theorem v_ints {g : G} {C : Int → Int → Prop} {Cb : Int → Int → Bool} {f : Int → Int → Int} (hC : ∀ i j, Cb i j = true → C i j) : V2 g (rI C fun i j => .int (f i j)) (intsD Cb f) := by
  intro A B H ω x y a b c Q w ha hb e q
  cases a with
  | int i =>
    cases b with
    | int j =>
      cases ha; cases hb
      simp only [intsD] at e
      split at e
      · cases e
        exact ⟨i, j, rfl, rfl, hC _ _ (by assumption), q.now w (.int _)⟩
      · cases e
    | _ => cases e
  | _ => cases e
def ints0D (f : Int → Int → Int) : D → D → Option D
  | .int i, .int j => some (.int (f i j))
  | _, _ => none
theorem v_ints0 {g : G} {f : Int → Int → Int} : V2 g (rI0 fun i j => .int (f i j)) (ints0D f) := by
  intro A B H ω x y a b c Q w ha hb e q
  cases a with
  | int i =>
    cases b with
    | int j =>
      cases ha; cases hb; cases e
      exact ⟨i, j, rfl, rfl, q.now w (.int _)⟩
    | _ => cases e
  | _ => cases e
instance (i j : Int) : Decidable (CMul i j) := by unfold CMul; infer_instance
instance (i j : Int) : Decidable (CDiv i j) := by unfold CDiv; infer_instance
instance (i j : Int) : Decidable (CPow i j) := by unfold CPow; infer_instance
def subD : D → D → Option D := ints0D fun i j => i - j
def mulD : D → D → Option D := intsD (fun i j => decide (CMul i j)) fun i j => i * j
def modD : D → D → Option D := intsD (fun _ j => decide (0 < j)) fun i j => i % j
def fdivD : D → D → Option D := intsD (fun i j => decide (CDiv i j)) fun i j => i / j
def powD : D → D → Option D := intsD (fun i j => decide (CPow i j)) fun i j => i ^ j.toNat
theorem subD_int (i j : Int) : subD (.int i) (.int j) = some (.int (i - j)) := rfl
theorem mulD_int {i j : Int} (h : CMul i j) : mulD (.int i) (.int j) = some (.int (i * j)) := if_pos (decide_eq_true h)
theorem modD_int {i j : Int} (h : 0 < j) : modD (.int i) (.int j) = some (.int (i % j)) := if_pos (decide_eq_true h)
theorem fdivD_int {i j : Int} (h : CDiv i j) : fdivD (.int i) (.int j) = some (.int (i / j)) := if_pos (decide_eq_true h)
theorem powD_int {i j : Int} (h : CPow i j) : powD (.int i) (.int j) = some (.int (i ^ j.toNat)) := if_pos (decide_eq_true h)
section
variable {X : Cx} {g : G} {W : WX} {a b c : Expr} {fa fb : M D} {pos : Pos}
theorem de_add (hK : X.K = g.K) (ha : PE X a (tM g rW W fa)) (hb : PE X b (tM g rW W fb)) : PE X (.BinOp a .Add b pos) (tM g rD W (bo addD fa fb)) :=
  de_op op_addA (by rw [hK]; exact v_add g) ha hb
theorem de_sub (ha : PE X a (tM g rW W fa)) (hb : PE X b (tM g rW W fb)) : PE X (.BinOp a .Sub b pos) (tM g rD W (bo subD fa fb)) := de_op op_sub v_ints0 ha hb
theorem de_mul (ha : PE X a (tM g rW W fa)) (hb : PE X b (tM g rW W fb)) : PE X (.BinOp a .Mult b pos) (tM g rD W (bo mulD fa fb)) := de_op op_mul (v_ints fun _ _ h => of_decide_eq_true h) ha hb
theorem de_mod (ha : PE X a (tM g rW W fa)) (hb : PE X b (tM g rW W fb)) : PE X (.BinOp a .Mod b pos) (tM g rD W (bo modD fa fb)) := de_op op_mod (v_ints fun _ _ h => of_decide_eq_true h) ha hb
theorem de_fdiv (ha : PE X a (tM g rW W fa)) (hb : PE X b (tM g rW W fb)) : PE X (.BinOp a .FloorDiv b pos) (tM g rD W (bo fdivD fa fb)) := de_op op_fdiv (v_ints fun _ _ h => of_decide_eq_true h) ha hb
theorem de_pow (ha : PE X a (tM g rW W fa)) (hb : PE X b (tM g rW W fb)) : PE X (.BinOp a .Pow b pos) (tM g rD W (bo powD fa fb)) := de_op op_pow (v_ints fun _ _ h => of_decide_eq_true h) ha hb
def negD : D → Option D
  | .int i => some (.int (-i))
  | _ => none
theorem v_neg : V1 g (rU fun i => .int (-i)) negD := by
  intro A B H ω x a c Q w ha e q
  cases a with
  | int i =>
    cases ha; cases e
    exact ⟨i, rfl, q.now w (.int _)⟩
  | _ => cases e
theorem de_neg (ha : PE X a (tM g rW W fa)) : PE X (.UnaryOp .USub a pos) (tM g rD W (uo negD fa)) := de_un un_neg v_neg ha
end

/-! ### comparisons of ints -/
def cmpI (p : Int → Int → Bool) : D → D → Option D
  | .int i, .int j => some (.bl (p i j))
  | _, _ => none
theorem v_cmpI {g : G} {p : Int → Int → Bool} : V2 g (rI0 fun i j => .bl (p i j)) (cmpI p) := by
  intro A B H ω x y a b c Q w ha hb e q
  cases a with
  | int i =>
    cases b with
    | int j =>
      cases ha; cases hb; cases e
      exact ⟨i, j, rfl, rfl, q.now w (.bl _)⟩
    | _ => cases e
  | _ => cases e
def ltD : D → D → Option D := cmpI fun i j => decide (i < j)
def leD : D → D → Option D := cmpI fun i j => decide (i ≤ j)
def gtD : D → D → Option D := cmpI fun i j => decide (j < i)
def geD : D → D → Option D := cmpI fun i j => decide (j ≤ i)
theorem v_lt {g : G} : V2 g (rI0 fun i j => .bl (decide (i < j))) ltD := v_cmpI
theorem v_le {g : G} : V2 g (rI0 fun i j => .bl (decide (i ≤ j))) leD := v_cmpI
theorem v_gt {g : G} : V2 g (rI0 fun i j => .bl (decide (j < i))) gtD := v_cmpI
theorem v_ge {g : G} : V2 g (rI0 fun i j => .bl (decide (j ≤ i))) geD := v_cmpI

/-! ### is None -/
def isN : D → D → Option D
  | .oid _, _ => none
  | x, .non => some (.bl (match x with | .non => true | _ => false))
  | _, _ => none
def notN : D → D → Option D
  | .oid _, _ => none
  | x, .non => some (.bl (match x with | .non => false | _ => true))
  | _, _ => none
theorem Vw.none_iff {g : G} {A : Ad} {B : Addr → Prop} {H : Hp} {x : V} {a : D} (h : Vw g A B H x a) : decide (x = .non) = (match a with | .non => true | _ => false) := by
  cases a with
  | non => cases h; rfl
  | bl _ => cases h; rfl
  | int _ => cases h; rfl
  | str _ => cases h; rfl
  | tup ds => obtain ⟨a, vs, rfl, _⟩ := Dp.seq h; rfl
  | lst ds => obtain ⟨a, vs, rfl, _⟩ := h; rfl
  | dic ds => obtain ⟨a, vs, rfl, _⟩ := h; rfl
  | obj c fs => obtain ⟨a, C, dx, vs, rfl, _⟩ := h; rfl
  | oid k => exact h.elim
  | scr ns => obtain ⟨a, rfl, _⟩ := h; rfl
theorem v_isN {g : G} : V2 g (fun x y H Q => y = .non ∧ Q (.bl (decide (x = .non))) H) isN := by
  intro A B H ω x y a b c Q w ha hb e q
  cases b with
  | non =>
    cases hb
    refine ⟨rfl, ?_⟩
    rw [ha.none_iff]
    cases a with
    | oid k => exact (show False from ha).elim
    | _ => cases e; exact q.now w (.bl _)
  | _ => cases a <;> cases e
theorem v_notN {g : G} : V2 g (fun x y H Q => y = .non ∧ Q (.bl (!decide (x = .non))) H) notN := by
  intro A B H ω x y a b c Q w ha hb e q
  cases b with
  | non =>
    cases hb
    refine ⟨rfl, ?_⟩
    rw [ha.none_iff]
    cases a with
    | oid k => exact (show False from ha).elim
    | _ => cases e; exact q.now w (.bl _)
  | _ => cases a <;> cases e

/-! ### equality of plain data -/
mutual
def toPy : D → PyData
  | .non => .none
  | .bl b => .bool b
  | .int i => .int i
  | .str x => .str x
  | .tup ds => .tuple (toPyL ds)
  | .lst ds => .list (toPyL ds)
  | .dic _ => .none
  | .obj _ _ => .none
  | .oid _ => .none
  | .scr _ => .none
def toPyL : List D → List PyData
  | [] => []
  | d :: ds => toPy d :: toPyL ds
end
mutual
/-- no objects; texts of signs -/
def plain : D → Bool
  | .non => true
  | .bl _ => true
  | .int _ => true
  | .str x => PySem.PyData.strOk x
  | .tup ds => plainL ds
  | .lst ds => plainL ds
  | .dic _ => false
  | .obj _ _ => false
  | .oid _ => false
  | .scr _ => false
def plainL : List D → Bool
  | [] => true
  | d :: ds => plain d && plainL ds
end
mutual
def dep : D → Nat
  | .tup ds => depL ds + 1
  | .lst ds => depL ds + 1
  | .non => 0
  | .bl _ => 0
  | .int _ => 0
  | .str _ => 0
  | .dic _ => 0
  | .obj _ _ => 0
  | .oid _ => 0
  | .scr _ => 0
def depL : List D → Nat
  | [] => 0
  | d :: ds => max (dep d) (depL ds)
end
mutual
/-- Python's == of plain data -/
def eqb : D → D → Bool
  | .non, .non => true
  | .bl a, .bl b => a == b
  | .bl a, .int j => (if a then 1 else 0) == j
  | .int i, .bl b => i == (if b then 1 else 0)
  | .int i, .int j => i == j
  | .str x, .str y => x == y
  | .lst xs, .lst ys => eqbL xs ys
  | .tup xs, .tup ys => eqbL xs ys
  | _, _ => false
def eqbL : List D → List D → Bool
  | [], [] => true
  | x :: xs, y :: ys => eqb x y && eqbL xs ys
  | _, _ => false
end
mutual
theorem eqv_toPy : ∀ (a b : D), plain a = true → plain b = true → PyData.eqv (toPy a) (toPy b) = eqb a b
  | .non, b, _, hb => by cases b <;> first | rfl | (simp [plain] at hb)
  | .bl x, b, _, hb => by cases b <;> first | rfl | (simp [plain] at hb)
  | .int x, b, _, hb => by cases b <;> first | rfl | (simp [plain] at hb)
  | .str x, b, _, hb => by cases b <;> first | rfl | (simp [plain] at hb)
  | .tup xs, b, ha, hb => by
    cases b with
    | tup ys => exact eqvL_toPy xs ys (by simpa [plain] using ha) (by simpa [plain] using hb)
    | _ => first | rfl | (simp [plain] at hb)
  | .lst xs, b, ha, hb => by
    cases b with
    | lst ys => exact eqvL_toPy xs ys (by simpa [plain] using ha) (by simpa [plain] using hb)
    | _ => first | rfl | (simp [plain] at hb)
  | .dic _, _, ha, _ => by simp [plain] at ha
  | .obj _ _, _, ha, _ => by simp [plain] at ha
  | .oid _, _, ha, _ => by simp [plain] at ha
  | .scr _, _, ha, _ => by simp [plain] at ha
theorem eqvL_toPy : ∀ (a b : List D), plainL a = true → plainL b = true → PyData.eqvAll (toPyL a) (toPyL b) = eqbL a b
  | [], [], _, _ => rfl
  | [], _ :: _, _, _ => rfl
  | _ :: _, [], _, _ => rfl
  | x :: xs, y :: ys, ha, hb => by
    simp only [plainL, Bool.and_eq_true] at ha hb
    simp only [toPyL, PyData.eqvAll, eqbL, eqv_toPy x y ha.1 hb.1, eqvL_toPy xs ys ha.2 hb.2]
end
mutual
theorem lay_toPy : ∀ (a : D), plain a = true → PyData.canLay0 (toPy a) = true ∧ PyData.depth (toPy a) = dep a
  | .non, _ => ⟨rfl, rfl⟩
  | .bl _, _ => ⟨rfl, rfl⟩
  | .int _, _ => ⟨rfl, rfl⟩
  | .str x, h => ⟨by simpa [plain, toPy, PyData.canLay0] using h, rfl⟩
  | .tup xs, h => by
    have := layL_toPy xs (by simpa [plain] using h)
    exact ⟨by simpa [toPy, PyData.canLay0] using this.1, by simp [toPy, PyData.depth, dep, this.2]⟩
  | .lst xs, h => by
    have := layL_toPy xs (by simpa [plain] using h)
    exact ⟨by simpa [toPy, PyData.canLay0] using this.1, by simp [toPy, PyData.depth, dep, this.2]⟩
  | .dic _, h => by simp [plain] at h
  | .obj _ _, h => by simp [plain] at h
  | .oid _, h => by simp [plain] at h
  | .scr _, h => by simp [plain] at h
theorem layL_toPy : ∀ (a : List D), plainL a = true → PyData.canLayAll0 (toPyL a) = true ∧ PyData.depthAll (toPyL a) = depL a
  | [], _ => ⟨rfl, rfl⟩
  | x :: xs, h => by
    simp only [plainL, Bool.and_eq_true] at h
    have h1 := lay_toPy x h.1
    have h2 := layL_toPy xs h.2
    exact ⟨by simp [toPyL, PyData.canLayAll0, h1.1, h2.1], by simp [toPyL, PyData.depthAll, depL, h1.2, h2.2]⟩
end
theorem shaped_toPy {a : D} (h : plain a = true) (hd : dep a ≤ 64) : SeqAt.shaped (toPy a) = true := by
  have := lay_toPy a h
  unfold SeqAt.shaped
  rw [this.1, this.2]
  simpa using hd
mutual
theorem dp_toPy {g : G} {A : Ad} {B : Addr → Prop} {H : Hp} : ∀ (d : D) (v : V), plain d = true → Dp g A B H v d → L2.Dp g.K H v (toPy d)
  | .non, _, _, h => by cases h; exact .non
  | .bl b, _, _, h => by cases h; exact .bl b
  | .int b, _, _, h => by cases h; exact .int b
  | .str b, _, _, h => by cases h; exact .str b
  | .tup ds, _, p, h => by
    obtain ⟨a, vs, rfl, hs, l⟩ := Dp.seq h
    exact .tup hs (dpL_toPy ds vs (by simpa [plain] using p) l)
  | .lst ds, _, p, h => by
    cases h with
    | lst n r l => exact .lst (SqL.of r) (dpL_toPy ds _ (by simpa [plain] using p) l)
  | .dic _, _, h, _ => by simp [plain] at h
  | .obj _ _, _, h, _ => by simp [plain] at h
  | .oid _, _, h, _ => by simp [plain] at h
  | .scr _, _, h, _ => by simp [plain] at h
theorem dpL_toPy {g : G} {A : Ad} {B : Addr → Prop} {H : Hp} : ∀ (ds : List D) (vs : List V), plainL ds = true → DpL g A B H vs ds → L2.DpAll g.K H vs (toPyL ds)
  | [], _, _, h => by cases h; exact .nil
  | d :: ds, _, p, h => by
    simp only [plainL, Bool.and_eq_true] at p
    cases h with
    | cons h1 h2 => exact .cons (dp_toPy d _ p.1 h1) (dpL_toPy ds _ p.2 h2)
end
theorem vw_toPy {g : G} {A : Ad} {B : Addr → Prop} {H : Hp} {d : D} {v : V} (p : plain d = true) (h : Vw g A B H v d) : L2.Dp g.K H v (toPy d) := by
  cases d with
  | non => cases h; exact .non
  | bl b => cases h; exact .bl b
  | int b => cases h; exact .int b
  | str b => cases h; exact .str b
  | tup ds => exact dp_toPy _ _ p h
  | lst ds =>
    obtain ⟨a, vs, rfl, hp, l⟩ := h
    exact .lst (SqL.of hp) (dpL_toPy ds vs (by simpa [plain] using p) l)
  | _ => simp [plain] at p
/-- plain and not too deep -/
def fine (d : D) : Bool := plain d && decide (dep d ≤ 64)
theorem fine_iff {d : D} : fine d = true ↔ plain d = true ∧ dep d ≤ 64 := by simp [fine]
def eqD (x y : D) : Option D := if (fine x && fine y) = true then some (.bl (eqb x y)) else none
def neD (x y : D) : Option D := if (fine x && fine y) = true then some (.bl !(eqb x y)) else none
theorem eqD_fine {x y : D} (hx : fine x = true) (hy : fine y = true) : eqD x y = some (.bl (eqb x y)) := if_pos (by rw [hx, hy]; rfl)
theorem neD_fine {x y : D} (hx : fine x = true) (hy : fine y = true) : neD x y = some (.bl !(eqb x y)) := if_pos (by rw [hx, hy]; rfl)
theorem v_eq (g : G) : V2 g (rEqD g.K) eqD := by
  intro A B H ω x y a b c Q w ha hb e q
  unfold eqD at e
  split at e
  · rename_i hf
    simp only [Bool.and_eq_true, fine_iff] at hf
    cases e
    refine ⟨toPy a, toPy b, vw_toPy hf.1.1 ha, vw_toPy hf.2.1 hb, shaped_toPy hf.1.1 hf.1.2, shaped_toPy hf.2.1 hf.2.2, ?_⟩
    rw [eqv_toPy a b hf.1.1 hf.2.1]
    exact q.now w (.bl _)
  · cases e
theorem v_ne (g : G) : V2 g (rNeD g.K) neD := by
  intro A B H ω x y a b c Q w ha hb e q
  unfold neD at e
  split at e
  · rename_i hf
    simp only [Bool.and_eq_true, fine_iff] at hf
    cases e
    refine ⟨toPy a, toPy b, vw_toPy hf.1.1 ha, vw_toPy hf.2.1 hb, shaped_toPy hf.1.1 hf.1.2, shaped_toPy hf.2.1 hf.2.2, ?_⟩
    rw [eqv_toPy a b hf.1.1 hf.2.1]
    exact q.now w (.bl _)
  · cases e
end DL
/-! DL3: in, items, slices, built-in calls over plain data. -/
namespace DL
open PySem L2

/-! ### in -/
def flat : D → Bool
  | .non => true
  | .bl _ => true
  | .int _ => true
  | .str _ => true
  | _ => false
theorem flat_dp {g : G} {A : Ad} {B : Addr → Prop} {H : Hp} {d : D} {v : V} (f : flat d = true) (h : Vw g A B H v d) : flatV v = true := by
  cases d with
  | non => cases h; rfl
  | bl b => cases h; rfl
  | int b => cases h; rfl
  | str b => cases h; rfl
  | _ => cases f
theorem Dp.flatw {g : G} {A : Ad} {B : Addr → Prop} {H : Hp} {d : D} {v : V} (f : flat d = true) (h : Dp g A B H v d) : Vw g A B H v d := by
  cases h with
  | non => rfl
  | bl b => rfl
  | int b => rfl
  | str b => rfl
  | _ => cases f
theorem eqV_flat {g : G} {A : Ad} {B : Addr → Prop} {H : Hp} {d e : D} {v u : V} (f : flat d = true) (f' : flat e = true) (h : Vw g A B H v d) (h' : Vw g A B H u e) : eqV v u = eqb d e := by
  cases d with
  | non =>
    cases h
    cases e with
    | non => cases h'; rfl
    | bl b => cases h'; rfl
    | int b => cases h'; rfl
    | str b => cases h'; rfl
    | _ => cases f'
  | bl b =>
    cases h
    cases e with
    | non => cases h'; rfl
    | bl b => cases h'; rfl
    | int b => cases h'; rfl
    | str b => cases h'; rfl
    | _ => cases f'
  | int b =>
    cases h
    cases e with
    | non => cases h'; rfl
    | bl b => cases h'; rfl
    | int b => cases h'; rfl
    | str b => cases h'; rfl
    | _ => cases f'
  | str b =>
    cases h
    cases e with
    | non => cases h'; rfl
    | bl b => cases h'; rfl
    | int b => cases h'; rfl
    | str b => cases h'; rfl
    | _ => cases f'
  | _ => cases f
theorem flats_dp {g : G} {A : Ad} {B : Addr → Prop} {H : Hp} {d : D} {v : V} (f : flat d = true) (h : Vw g A B H v d) : ∀ {es : List D} {vs : List V}, es.all flat = true → DpL g A B H vs es → vs.all flatV = true ∧ inV v vs = es.any fun z => eqb z d
  | [], _, _, l => by cases l; exact ⟨rfl, rfl⟩
  | e :: es, _, fl, l => by
    cases l with
    | cons h1 h2 =>
      simp only [List.all_cons, Bool.and_eq_true] at fl
      obtain ⟨q1, q2⟩ := flats_dp f h fl.2 h2
      refine ⟨by simp [flat_dp fl.1 (Dp.flatw fl.1 h1), q1], ?_⟩
      unfold inV at q2 ⊢
      simp only [List.any_cons, q2, eqV_flat fl.1 f (Dp.flatw fl.1 h1) h]
def rInA (K : PySem.W.Frag) : R2 := fun x y H Q => rIn K false x y H Q ∨ rInD K x y H Q ∨ ∃ i j, x = .str i ∧ y = .str j ∧ Q (.bl (!(Builtin.Str.occurrences j i 0 j.length 1).isEmpty)) H
def rNotInA (K : PySem.W.Frag) : R2 := fun x y H Q => rIn K true x y H Q ∨ rNotInD K x y H Q ∨ ∃ i j, x = .str i ∧ y = .str j ∧ Q (.bl (!(!(Builtin.Str.occurrences j i 0 j.length 1).isEmpty))) H
theorem op_inA {X : Cx} (hu : X.A.units + 65 < cLine) : OpR X (compareOp .In) (rInA X.K) := op_in_seq.or ((op_inD hu).or op_in_str)
theorem op_notInA {X : Cx} (hu : X.A.units + 65 < cLine) : OpR X (compareOp .NotIn) (rNotInA X.K) := op_notIn_seq.or ((op_notInD hu).or op_notIn_str)
def inB : D → D → Option Bool
  | x, .lst ds => if (fine x && fine (.lst ds)) = true then some (ds.any fun z => eqb z x) else none
  | x, .tup ds => if (flat x && ds.all flat) = true then some (ds.any fun z => eqb z x) else none
  | .str i, .str j => some (!(Builtin.Str.occurrences j i 0 j.length 1).isEmpty)
  | _, _ => none
def inD (x y : D) : Option D := (inB x y).map D.bl
def notInD (x y : D) : Option D := (inB x y).map fun b => D.bl !b
theorem toPyL_map : ∀ ds : List D, toPyL ds = ds.map toPy
  | [] => rfl
  | d :: ds => by simp [toPyL, toPyL_map ds]
theorem any_toPy {x : D} (hx : plain x = true) : ∀ ds : List D, plainL ds = true → ((toPyL ds).any fun z => PyData.eqv z (toPy x)) = ds.any fun z => eqb z x
  | [], _ => rfl
  | d :: ds, h => by
    simp only [plainL, Bool.and_eq_true] at h
    simp only [toPyL, List.any_cons, any_toPy hx ds h.2, eqv_toPy d x h.1 hx]
theorem v_in_aux (g : G) {A : Ad} {B : Addr → Prop} {H : Hp} {x y : V} {a b : D} {k : Bool} (ha : Vw g A B H x a) (hb : Vw g A B H y b) (e : inB a b = some k) :
    (∃ p xs, y = .ref p ∧ (SqL g.K H p xs ∨ SqT g.K H p xs) ∧ flatV x = true ∧ xs.all flatV = true ∧ inV x xs = k) ∨
    (∃ d ds, L2.Dp g.K H x d ∧ L2.Dp g.K H y (.list ds) ∧ SeqAt.shaped d = true ∧ SeqAt.shaped (.list ds) = true ∧ (ds.any fun z => PyData.eqv z d) = k) ∨
    ∃ i j, x = .str i ∧ y = .str j ∧ (!(Builtin.Str.occurrences j i 0 j.length 1).isEmpty) = k := by
  cases b with
  | lst ds =>
    have e : (if (fine a && fine (.lst ds)) = true then some (ds.any fun z => eqb z a) else none) = some k := by cases a <;> exact e
    split at e
    · rename_i hf
      simp only [Bool.and_eq_true, fine_iff] at hf
      cases e
      have pl : plainL ds = true := by simpa [plain] using hf.2.1
      exact .inr (.inl ⟨toPy a, toPyL ds, vw_toPy hf.1.1 ha, vw_toPy hf.2.1 hb, shaped_toPy hf.1.1 hf.1.2, shaped_toPy hf.2.1 hf.2.2, any_toPy hf.1.1 ds pl⟩)
    · cases e
  | tup ds =>
    have e : (if (flat a && ds.all flat) = true then some (ds.any fun z => eqb z a) else none) = some k := by cases a <;> exact e
    split at e
    · rename_i hf
      simp only [Bool.and_eq_true] at hf
      cases e
      obtain ⟨p, vs, rfl, hs, l⟩ := Dp.seq hb
      obtain ⟨q1, q2⟩ := flats_dp hf.1 ha hf.2 l
      exact .inl ⟨p, vs, rfl, .inr hs, flat_dp hf.1 ha, q1, q2⟩
    · cases e
  | str j =>
    cases a with
    | str i =>
      cases ha; cases hb
      cases e
      exact .inr (.inr ⟨i, j, rfl, rfl, rfl⟩)
    | _ => cases e
  | _ => cases a <;> cases e
theorem v_in (g : G) : V2 g (rInA g.K) inD := by
  intro A B H ω x y a b c Q w ha hb e q
  unfold inD at e
  cases k : inB a b with
  | none => rw [k] at e; cases e
  | some k' =>
    rw [k] at e
    cases e
    rcases v_in_aux g ha hb k with ⟨p, xs, h1, h2, h3, h4, h5⟩ | ⟨d, ds, h1, h2, h3, h4, h5⟩ | ⟨i, j, h1, h2, h3⟩
    · exact .inl ⟨p, xs, h1, h2, h3, h4, by rw [if_neg Bool.false_ne_true, h5]; exact q.now w (.bl _)⟩
    · exact .inr (.inl ⟨d, ds, h1, h2, h3, h4, by rw [h5]; exact q.now w (.bl _)⟩)
    · exact .inr (.inr ⟨i, j, h1, h2, by rw [h3]; exact q.now w (.bl _)⟩)
theorem v_notIn (g : G) : V2 g (rNotInA g.K) notInD := by
  intro A B H ω x y a b c Q w ha hb e q
  unfold notInD at e
  cases k : inB a b with
  | none => rw [k] at e; cases e
  | some k' =>
    rw [k] at e
    cases e
    rcases v_in_aux g ha hb k with ⟨p, xs, h1, h2, h3, h4, h5⟩ | ⟨d, ds, h1, h2, h3, h4, h5⟩ | ⟨i, j, h1, h2, h3⟩
    · exact .inl ⟨p, xs, h1, h2, h3, h4, by rw [if_pos rfl, h5]; exact q.now w (.bl _)⟩
    · exact .inr (.inl ⟨d, ds, h1, h2, h3, h4, by rw [h5]; exact q.now w (.bl _)⟩)
    · exact .inr (.inr ⟨i, j, h1, h2, by rw [h3]; exact q.now w (.bl _)⟩)

/-! ### items -/
def ixD : D → D → Option D
  | .lst ds, .int i => atI ds i
  | .tup ds, .int i => atI ds i
  | .scr ns, .int i => (atI ns i).map D.int
  | .str z, .int i => if z.length ≤ sizeLine then (atI z.cps.toList i).map fun c => D.str ⟨#[c]⟩ else none
  | _, _ => none
theorem atI_dp {g : G} {A : Ad} {B : Addr → Prop} {H : Hp} {ds : List D} {vs : List V} {i : Int} {d : D} (l : DpL g A B H vs ds) (e : atI ds i = some d) : ∃ v, atI vs i = some v ∧ Dp g A B H v d := by
  unfold atI at e ⊢
  rw [l.length]
  cases q : ixN ds.length i with
  | none => rw [q] at e; cases e
  | some j =>
    rw [q] at e
    exact l.get e
theorem atI_map {α β : Type} (f : α → β) (xs : List α) (i : Int) : atI (xs.map f) i = (atI xs i).map f := by
  unfold atI
  rw [List.length_map]
  cases ixN xs.length i with
  | none => rfl
  | some j => simp
theorem v_ix (g : G) : V2 g (rIx g.K) ixD := by
  intro A B H ω x y a b c Q w ha hb e q
  cases b with
  | int i =>
    cases hb
    cases a with
    | lst ds =>
      obtain ⟨p, vs, rfl, hp, l⟩ := ha
      obtain ⟨v, h1, h2⟩ := atI_dp l e
      exact .inl ⟨p, vs, i, v, rfl, rfl, SqL.of hp, h1, q.now w h2⟩
    | tup ds =>
      obtain ⟨p, vs, rfl, hp, l⟩ := Dp.seq ha
      obtain ⟨v, h1, h2⟩ := atI_dp l e
      exact .inr (.inl ⟨p, vs, i, v, rfl, rfl, hp, h1, q.now w h2⟩)
    | scr ns =>
      obtain ⟨p, rfl, hp⟩ := ha
      have e : (atI ns i).map D.int = some c := e
      cases k : atI ns i with
      | none => rw [k] at e; cases e
      | some n =>
        rw [k] at e; cases e
        exact .inl ⟨p, _, i, V.int n, rfl, rfl, hp, by rw [atI_map, k]; rfl, q.now w (.int n)⟩
    | str z =>
      cases ha
      simp only [ixD] at e
      split at e
      · cases k : atI z.cps.toList i with
        | none => rw [k] at e; cases e
        | some n =>
          rw [k] at e; cases e
          exact .inr (.inr ⟨z, i, n, rfl, rfl, by assumption, k, q.now w (.str _)⟩)
      · cases e
    | _ => cases e
  | _ => cases a <;> cases e
section
variable {X : Cx} {g : G} {W : WX} {a b : Expr} {fa fb : M D} {pos : Pos}
theorem de_item (hK : X.K = g.K) (ha : PE X a (tM g rW W fa)) (hb : PE X b (tM g rW W fb)) (hs : PlainIx b := by exact fun _ _ => rfl) : PE X (.Subscript a b pos) (tM g rD W (bo ixD fa fb)) :=
  de_ix ix_seq (by rw [hK]; exact v_ix g) ha hb hs
end

/-! ### slices -/
abbrev rO : Rl (Option Int) (Option Int) := fun _ _ _ _ b c => b = c
def asI : D → M (Option Int) := fun d _ ω => match d with
  | .int i => some (.val (some i) ω)
  | _ => none
def cutD (ds : List D) (lo hi : Option Int) : List D := (ds.drop (HT.sIx ds.length 0 lo)).take (HT.sIx ds.length ds.length hi - HT.sIx ds.length 0 lo)
def slD : D → Option Int → Option Int → Option D
  | .lst ds, lo, hi => some (.lst (cutD ds lo hi))
  | .tup ds, lo, hi => some (.tup (cutD ds lo hi))
  | .str z, lo, hi => if z.length ≤ sizeLine then some (.str (cutS z lo hi)) else none
  | _, _, _ => none
def slM (x : D) (lo hi : Option Int) : M D := fun _ ω => match view ω x with
  | some x' => match slD x' lo hi with
    | some z => some (.val z ω)
    | none => none
  | none => none
def rSlAll (K : PySem.W.Frag) : V → Option Int → Option Int → Hp → VK → Prop := fun x lo hi H Q => rSlL K x lo hi H Q ∨ rSlA K x lo hi H Q ∨ rSlS x lo hi H Q
theorem sl_all {X : Cx} : SlR X (rSlAll X.K) := sl_list.or (sl_tupA.or sl_str)
theorem cut_dp {g : G} {A : Ad} {B : Addr → Prop} {H : Hp} {ds : List D} {vs : List V} (l : DpL g A B H vs ds) (lo hi : Option Int) : DpL g A B H (cutV vs lo hi) (cutD ds lo hi) := by
  unfold cutV cutD
  rw [l.length]
  exact (l.drop _).take _
section
variable {X : Cx} {g : G} {W : WX} {e : Expr} {lo hi : Option Expr} {f : M D} {fl fh : M (Option Int)} {pos p2 : Pos}
theorem po_no : PO X none (tM g rO W (M.pure none)) := by
  refine ⟨?_⟩
  intro pins s σ H Q I h
  obtain ⟨H0, A, B, ρ, ω, r, fm, e, res⟩ := h
  cases e
  exact po_none.run pins s σ H Q I (show Q none H from res none A B H (.refl _ _ _) fm.wo rfl)
theorem po_yes {e : Expr} (h : PE X e (tM g rD W f)) : PO X (some e) (tM g rO W (f.bind asI)) := by
  refine ⟨?_⟩
  intro pins s σ H Q I h'
  refine (po_some h).run pins s σ H Q I ?_
  obtain ⟨H0, A, B, ρ, ω, r, fm, e, res⟩ := h'
  refine tM_mono (tM_bind fm e res) fun x H1 ⟨A1, B1, ω1, d1, t1, fm1, r1, e1, res1⟩ => ?_
  cases d1 with
  | int i =>
    cases e1
    cases r1
    exact ⟨i, rfl, res1 _ A1 B1 H1 (.refl _ _ _) fm1.wo rfl⟩
  | _ => cases e1
theorem de_slice (hK : X.K = g.K) (he : PE X e (tM g rW W f)) (hl : PO X lo (tM g rO W fl)) (hh : PO X hi (tM g rO W fh)) :
    PE X (.Subscript e (.Slice lo hi none p2) pos) (tM g rD W (f.bind fun x => fl.bind fun l => fh.bind fun h => slM x l h)) :=
  (pe_slice sl_all he hl hh).dl fun σ H Q ⟨H0, A, B, ρ, ω, r, fm, e, res⟩ => by
    refine tM_mono (tM_bind fm e res) fun x H1 ⟨A1, B1, ω1, d1, t1, fm1, r1, e1, res1⟩ => ?_
    refine tM_mono (tM_bind fm1 e1 res1) fun l H2 ⟨A2, B2, ω2, l2, t2, fm2, r2, e2, res2⟩ => ?_
    refine tM_mono (tM_bind fm2 e2 res2) fun u H3 ⟨A3, B3, ω3, u3, t3, fm3, r3, e3, res3⟩ => ?_
    cases r2
    cases r3
    unfold slM at e3
    cases q : view ω3 d1 with
    | none => simp only [q] at e3; cases e3
    | some x' =>
      simp only [q] at e3
      have vw := view_ok fm3.wo ((r1.up fm1.wo t2).up fm2.wo t3) q
      rw [hK]
      cases x' with
      | lst ds =>
        cases e3
        obtain ⟨p, vs, rfl, hp, ll⟩ := vw
        exact .inl ⟨p, vs, rfl, SqL.of hp, Aft.lst (fun v A' B' H' t w r => res3 v A' B' H' t w r) fm3.wo (cut_dp ll l u)⟩
      | tup ds =>
        cases e3
        obtain ⟨p, vs, rfl, hp, ll⟩ := Dp.seq vw
        refine .inr (.inl ⟨p, vs, rfl, hp, fun hw => ?_, fun _ => Aft.tup (fun v A' B' H' t w r => res3 v A' B' H' t w r) fm3.wo (cut_dp ll l u)⟩)
        have ew : cutD ds l u = ds := by
          unfold cutD
          rw [ll.length] at hw
          rw [hw.1, hw.2]
          simp
        rw [ew] at res3
        exact res3 _ A3 B3 H3 (.refl _ _ _) fm3.wo vw
      | str z =>
        cases vw
        by_cases hz : z.length ≤ sizeLine
        · simp only [slD, if_pos hz] at e3
          cases e3
          exact .inr (.inr ⟨z, rfl, hz, res3 _ A3 B3 H3 (.refl _ _ _) fm3.wo (.str _)⟩)
        · simp only [slD, if_neg hz] at e3
          cases e3
      | _ => cases e3
def revD : D → Option D
  | .lst ds => some (.lst ds.reverse)
  | _ => none
theorem de_rev {k : Nat} {p1 p2 p3 : Pos} (hK : X.K = g.K) (he : PE X e (tM g rW W f)) : PE X (.Subscript e (.Slice none none (some (.UnaryOp .USub (.Constant (.int 1) k p1) p2)) p3) pos) (tM g rD W (uo revD f)) :=
  (pe_revL he).dl fun σ H Q h => by
    rw [hK]
    refine tM_op1 (r := fun x H1 Q => ∃ a xs, x = .ref a ∧ SqL g.K H1 a xs ∧ ∀ p, H1 p = none → Q (.ref p) (upd H1 p (.lst xs.reverse))) ?_ σ H Q h
    intro A B H ω x a c Q w ha e q
    cases a with
    | lst ds =>
      cases e
      obtain ⟨p, vs, rfl, hp, l⟩ := ha
      exact ⟨p, vs, rfl, SqL.of hp, q.lst w l.reverse⟩
    | _ => cases e
end

/-! ### built-in calls of one, two arguments -/
section
variable {X : Cx} {g : G} {W : WX} {e e2 : Expr} {fa fb : M D} {f : D → Option D} {f2 : D → D → Option D} {x : Str} {p pos : Pos} {idn T : String} {r : List V → Hp → VK → Prop}
theorem tM_call1 (hv : V1 g (fun x H Q => r [x] H Q) f) : ∀ σ H Q, tM g rD W (uo f fa) σ H Q → tCB r (tCons (tM g rW W fa) tNil) σ H Q := fun σ H Q h => tM_op1 (r := fun x H Q => r [x] H Q) hv σ H Q h
theorem tM_call2 (hv : V2 g (fun x y H Q => r [x, y] H Q) f2) : ∀ σ H Q, tM g rD W (bo f2 fa fb) σ H Q → tCB r (tCons (tM g rW W fa) (tCons (tM g rW W fb) tNil)) σ H Q := fun σ H Q h => tM_op2 (r := fun x y H Q => r [x, y] H Q) hv σ H Q h
theorem de_callB1 (hc : CallR X (.builtin idn) r) (hv : V1 g (fun x H Q => r [x] H Q) f) (hg : Gl X x) (hm : X.mg x = none) (hb : bootBuiltins x = some (.builtin idn)) (ha : PE X e (tM g rW W fa)) (hn : x ≠ "__name__" := by decide) (hdb : (x == ("__debug__" : Str)) = false := by decide)
    (he : starEach [e] X.env = (false, eval e X.env) :: starEach [] X.env := by rfl) (hpl : (backTo pos (starEach [] X.env)).any (·.1) = false := by rfl) : PE X (.Call (.Name x p) [e] [] pos) (tM g rD W (uo f fa)) :=
  (pe_callB hc hg hm hb (pa_cons ha pa_nil he) hn hdb he hpl).dl (tM_call1 hv)
theorem de_callT1 (hc : CallR X (.type T) r) (hv : V1 g (fun x H Q => r [x] H Q) f) (hg : Gl X x) (hm : X.mg x = none) (hb : bootBuiltins x = some (.type T)) (ha : PE X e (tM g rW W fa)) (hn : x ≠ "__name__" := by decide) (hdb : (x == ("__debug__" : Str)) = false := by decide)
    (he : starEach [e] X.env = (false, eval e X.env) :: starEach [] X.env := by rfl) (hpl : (backTo pos (starEach [] X.env)).any (·.1) = false := by rfl) : PE X (.Call (.Name x p) [e] [] pos) (tM g rD W (uo f fa)) :=
  (pe_callTy hc hg hm hb (pa_cons ha pa_nil he) hn hdb he hpl).dl (tM_call1 hv)
theorem de_callB2 (hc : CallR X (.builtin idn) r) (hv : V2 g (fun x y H Q => r [x, y] H Q) f2) (hg : Gl X x) (hm : X.mg x = none) (hb : bootBuiltins x = some (.builtin idn)) (ha : PE X e (tM g rW W fa)) (ha2 : PE X e2 (tM g rW W fb)) (hn : x ≠ "__name__" := by decide) (hdb : (x == ("__debug__" : Str)) = false := by decide)
    (he : starEach [e, e2] X.env = (false, eval e X.env) :: starEach [e2] X.env := by rfl) (he2 : starEach [e2] X.env = (false, eval e2 X.env) :: starEach [] X.env := by rfl) (hpl : (backTo pos (starEach [e2] X.env)).any (·.1) = false := by rfl) : PE X (.Call (.Name x p) [e, e2] [] pos) (tM g rD W (bo f2 fa fb)) :=
  (pe_callB hc hg hm hb (pa_cons ha (pa_cons ha2 pa_nil he2) he) hn hdb he hpl).dl (tM_call2 hv)

/-! len -/
def lenD : D → Option D
  | .str x => if x.length ≤ sizeLine then some (.int x.length) else none
  | .tup ds => some (.int ds.length)
  | .lst ds => some (.int ds.length)
  | .scr ns => some (.int ns.length)
  | _ => none
theorem v_len (g : G) : V1 g (fun x H Q => ∃ x' n, [x] = [x'] ∧ LenV g.K x' H n ∧ Q (.int n) H) lenD := by
  intro A B H ω x a c Q w ha e q
  cases a with
  | str z =>
    cases ha
    simp only [lenD] at e
    split at e
    · cases e
      exact ⟨_, _, rfl, ⟨by assumption, rfl⟩, q.now w (.int _)⟩
    · cases e
  | tup ds =>
    cases e
    obtain ⟨p, vs, rfl, hp, l⟩ := Dp.seq ha
    exact ⟨_, _, rfl, .inr ⟨vs, hp, rfl⟩, by rw [l.length]; exact q.now w (.int _)⟩
  | lst ds =>
    cases e
    obtain ⟨p, vs, rfl, hp, l⟩ := ha
    exact ⟨_, _, rfl, .inl ⟨vs, SqL.of hp, rfl⟩, by rw [l.length]; exact q.now w (.int _)⟩
  | scr ns =>
    cases e
    obtain ⟨p, rfl, hp⟩ := ha
    exact ⟨_, _, rfl, .inl ⟨_, hp, rfl⟩, by rw [List.length_map]; exact q.now w (.int _)⟩
  | _ => cases e
theorem de_len (hK : X.K = g.K) (hg : Gl X "len") (hm : X.mg "len" = none) (ha : PE X e (tM g rW W fa)) (he : starEach [e] X.env = (false, eval e X.env) :: starEach [] X.env := by rfl) : PE X (.Call (.Name "len" p) [e] [] pos) (tM g rD W (uo lenD fa)) :=
  de_callB1 call_len (by rw [hK]; exact v_len g) hg hm PySem.boot_len ha (he := he)
/-! abs, int -/
def absD : D → Option D
  | .int i => some (.int (if i < 0 then -i else i))
  | _ => none
theorem v_abs : V1 g (fun x H Q => ∃ i, [x] = [.int i] ∧ Q (.int (if i < 0 then -i else i)) H) absD := by
  intro A B H ω x a c Q w ha e q
  cases a with
  | int i => cases ha; cases e; exact ⟨i, rfl, q.now w (.int _)⟩
  | _ => cases e
theorem de_abs (hg : Gl X "abs") (hm : X.mg "abs" = none) (ha : PE X e (tM g rW W fa)) (he : starEach [e] X.env = (false, eval e X.env) :: starEach [] X.env := by rfl) : PE X (.Call (.Name "abs" p) [e] [] pos) (tM g rD W (uo absD fa)) :=
  de_callB1 call_abs v_abs hg hm (by decide +kernel) ha (he := he)
def intD : D → Option D
  | .int i => some (.int i)
  | .bl b => some (.int (if b then 1 else 0))
  | _ => none
theorem v_int : V1 g (fun x H Q => (∃ i, [x] = [.int i] ∧ Q (.int i) H) ∨ ∃ k, [x] = [.bl k] ∧ Q (.int (if k then 1 else 0)) H) intD := by
  intro A B H ω x a c Q w ha e q
  cases a with
  | int i => cases ha; cases e; exact .inl ⟨i, rfl, q.now w (.int _)⟩
  | bl i => cases ha; cases e; exact .inr ⟨i, rfl, q.now w (.int _)⟩
  | _ => cases e
theorem de_toInt (hg : Gl X "int") (hm : X.mg "int" = none) (ha : PE X e (tM g rW W fa)) (he : starEach [e] X.env = (false, eval e X.env) :: starEach [] X.env := by rfl) : PE X (.Call (.Name "int" p) [e] [] pos) (tM g rD W (uo intD fa)) :=
  de_callT1 call_int1 v_int hg hm (by decide +kernel) ha (he := he)
/-! tuple(..), list(..) -/
def tupleD : D → Option D
  | .lst ds => some (.tup ds)
  | .tup ds => some (.tup ds)
  | _ => none
theorem v_tuple (g : G) : V1 g (fun x H Q => ∃ p ys, [x] = [.ref p] ∧ ((SqL g.K H p ys ∧ ∀ l, H l = none → Q (.ref l) (upd H l (.tup ys))) ∨ (SqT g.K H p ys ∧ Q (.ref p) H))) tupleD := by
  intro A B H ω x a c Q w ha e q
  cases a with
  | lst ds =>
    cases e
    obtain ⟨p, vs, rfl, hp, l⟩ := ha
    exact ⟨p, vs, rfl, .inl ⟨SqL.of hp, q.tup w l⟩⟩
  | tup ds =>
    cases e
    obtain ⟨p, vs, rfl, hp, l⟩ := Dp.seq ha
    exact ⟨p, vs, rfl, .inr ⟨hp, q.now w ha⟩⟩
  | _ => cases e
theorem de_tuple (hK : X.K = g.K) (hg : Gl X "tuple") (hm : X.mg "tuple" = none) (ha : PE X e (tM g rW W fa)) (he : starEach [e] X.env = (false, eval e X.env) :: starEach [] X.env := by rfl) : PE X (.Call (.Name "tuple" p) [e] [] pos) (tM g rD W (uo tupleD fa)) :=
  de_callT1 call_tuple_of (by rw [hK]; exact v_tuple g) hg hm (by decide +kernel) ha (he := he)
def listD : D → Option D
  | .lst ds => some (.lst ds)
  | .tup ds => some (.lst ds)
  | .scr ns => some (.lst (ns.map D.int))
  | _ => none
theorem DpL.ints {A : Ad} {B : Addr → Prop} {H : Hp} : ∀ ns : List Int, DpL g A B H (ns.map V.int) (ns.map D.int)
  | [] => .nil
  | n :: ns => .cons (.int n) (DpL.ints ns)
theorem v_list (g : G) : V1 g (fun x H Q => ∃ p ys, [x] = [.ref p] ∧ (SqL g.K H p ys ∨ SqT g.K H p ys) ∧ ∀ l, H l = none → Q (.ref l) (upd H l (.lst ys))) listD := by
  intro A B H ω x a c Q w ha e q
  cases a with
  | lst ds =>
    cases e
    obtain ⟨p, vs, rfl, hp, l⟩ := ha
    exact ⟨p, vs, rfl, .inl (SqL.of hp), q.lst w l⟩
  | tup ds =>
    cases e
    obtain ⟨p, vs, rfl, hp, l⟩ := Dp.seq ha
    exact ⟨p, vs, rfl, .inr hp, q.lst w l⟩
  | scr ns =>
    cases e
    obtain ⟨p, rfl, hp⟩ := ha
    exact ⟨p, _, rfl, .inl hp, q.lst w (DpL.ints ns)⟩
  | _ => cases e
theorem de_list (hK : X.K = g.K) (hg : Gl X "list") (hm : X.mg "list" = none) (ha : PE X e (tM g rW W fa)) (he : starEach [e] X.env = (false, eval e X.env) :: starEach [] X.env := by rfl) : PE X (.Call (.Name "list" p) [e] [] pos) (tM g rD W (uo listD fa)) :=
  de_callT1 call_list_of (by rw [hK]; exact v_list g) hg hm (by decide +kernel) ha (he := he)
/-! any, all -/
def boolsOf : List D → Option (List Bool)
  | [] => some []
  | .bl b :: r => (boolsOf r).map (b :: ·)
  | _ :: _ => none
theorem boolsOf_dp {A : Ad} {B : Addr → Prop} {H : Hp} : ∀ {ds : List D} {vs : List V} {bs : List Bool}, boolsOf ds = some bs → DpL g A B H vs ds → vs = bs.map V.bl
  | [], _, _, e, l => by cases e; cases l; rfl
  | d :: ds, _, bs, e, l => by
    cases l with
    | cons h1 h2 =>
      cases d with
      | bl b =>
        simp only [boolsOf] at e
        cases q : boolsOf ds with
        | none => rw [q] at e; cases e
        | some cs =>
          rw [q] at e
          cases e
          cases h1
          simp [boolsOf_dp q h2]
      | _ => simp [boolsOf] at e
theorem boolsOf_map (bs : List Bool) : boolsOf (bs.map D.bl) = some bs := by
  induction bs with
  | nil => rfl
  | cons b bs ih => simp [boolsOf, ih]
def anyD : D → Option D
  | .lst ds => (boolsOf ds).map fun bs => .bl (bs.any id)
  | _ => none
def allD : D → Option D
  | .lst ds => (boolsOf ds).map fun bs => .bl (bs.all id)
  | _ => none
theorem v_any (g : G) : V1 g (fun x H Q => rAny g.K [x] H Q) anyD := by
  intro A B H ω x a c Q w ha e q
  cases a with
  | lst ds =>
    obtain ⟨p, vs, rfl, hp, l⟩ := ha
    simp only [anyD] at e
    cases k : boolsOf ds with
    | none => rw [k] at e; cases e
    | some bs =>
      rw [k] at e
      cases e
      have := boolsOf_dp k l
      subst this
      exact ⟨p, bs, rfl, SqL.of hp, q.now w (.bl _)⟩
  | _ => cases e
theorem v_all (g : G) : V1 g (fun x H Q => rAll g.K [x] H Q) allD := by
  intro A B H ω x a c Q w ha e q
  cases a with
  | lst ds =>
    obtain ⟨p, vs, rfl, hp, l⟩ := ha
    simp only [allD] at e
    cases k : boolsOf ds with
    | none => rw [k] at e; cases e
    | some bs =>
      rw [k] at e
      cases e
      have := boolsOf_dp k l
      subst this
      exact ⟨p, bs, rfl, SqL.of hp, q.now w (.bl _)⟩
  | _ => cases e
theorem de_any (hK : X.K = g.K) (hc : X.calm = true) (hg : Gl X "any") (hm : X.mg "any" = none) (ha : PE X e (tM g rW W fa)) (he : starEach [e] X.env = (false, eval e X.env) :: starEach [] X.env := by rfl) : PE X (.Call (.Name "any" p) [e] [] pos) (tM g rD W (uo anyD fa)) :=
  de_callB1 (cr_any hc) (by rw [hK]; exact v_any g) hg hm (by decide +kernel) ha (he := he)
theorem de_all (hK : X.K = g.K) (hc : X.calm = true) (hg : Gl X "all") (hm : X.mg "all" = none) (ha : PE X e (tM g rW W fa)) (he : starEach [e] X.env = (false, eval e X.env) :: starEach [] X.env := by rfl) : PE X (.Call (.Name "all" p) [e] [] pos) (tM g rD W (uo allD fa)) :=
  de_callB1 (cr_all hc) (by rw [hK]; exact v_all g) hg hm (by decide +kernel) ha (he := he)
end
end DL
/-! DL4: statements as functions. -/
namespace DL
open PySem L2

inductive RS where
  | nx (ρ : Rho) (ω : List Cell)
  | rt (d : D) (ω : List Cell)
  | bk (ρ : Rho) (ω : List Cell)
  | ct (ρ : Rho) (ω : List Cell)
  | exc (x : Exc) (ρ : Rho) (ω : List Cell)
abbrev MS := Rho → List Cell → Option RS
def bindS {α : Type} (f : M α) (k : α → MS) : MS := fun ρ ω =>
  match f ρ ω with
  | none => none
  | some (.exc x ω') => some (.exc x ρ ω')
  | some (.val a ω') => k a ρ ω'
def seqS (F K : MS) : MS := fun ρ ω =>
  match F ρ ω with
  | some (.nx ρ' ω') => K ρ' ω'
  | r => r

section
variable {A A1 A2 : Ad} {B B1 B2 : Addr → Prop} {H H1 H2 : Hp}
theorem Mv.refl (A : Ad) (B : Addr → Prop) (H : Hp) : Mv A B H A B H := ⟨fun _ _ n e => ⟨e, n⟩, fun _ _ h => .inl h, fun _ _ _ h => h⟩
theorem Mv.trans (s : Mv A B H A1 B1 H1) (t : Mv A1 B1 H1 A2 B2 H2) : Mv A B H A2 B2 H2 :=
  ⟨fun a o n e => t.cell a o (s.cell a o n e).2 (s.cell a o n e).1, fun k x h => by
    rcases s.ids k x h with e | e
    · exact t.ids k x e
    · rcases t.ids k none e with e | e
      · exact .inr e
      · exact .inr e, fun a o u h => t.frz a o u (s.frz a o u h)⟩
end

/-- the entry of a frame -/
structure En where
  A : Ad
  B : Addr → Prop
  H : Hp
def ResS (g : G) (n : En) (W : WX) (A : Ad) (B : Addr → Prop) (H : Hp) (D : Ends) : RS → Prop
  | .nx ρ' ω' => ∀ σ' A' B' H', Mv A B H A' B' H' → Stp n.A n.B n.H A' B' H' → Fm g n.H A' B' H' ω' σ' ρ' → D.nx σ' H'
  | .rt d ω' => ∀ v A' B' H', Stp n.A n.B n.H A' B' H' → Wo g A' B' H' ω' → Dp g A' B' H' v d → D.rt v H'
  | .bk ρ' ω' => ∀ σ' A' B' H', Mv A B H A' B' H' → Stp n.A n.B n.H A' B' H' → Fm g n.H A' B' H' ω' σ' ρ' → D.bk σ' H'
  | .ct ρ' ω' => ∀ σ' A' B' H', Mv A B H A' B' H' → Stp n.A n.B n.H A' B' H' → Fm g n.H A' B' H' ω' σ' ρ' → D.ct σ' H'
  | .exc x ρ' ω' => ∀ cls dd σ' A' B' H', Mv A B H A' B' H' → Stp n.A n.B n.H A' B' H' → Fm g n.H A' B' H' ω' σ' ρ' → XOk g A' B' H' cls dd x → W cls dd σ' H'
def tS (g : G) (n : En) (W : WX) (F : MS) : TS := fun D σ H =>
  ∃ A B ρ ω r, Stp n.A n.B n.H A B H ∧ Fm g n.H A B H ω σ ρ ∧ F ρ ω = some r ∧ ResS g n W A B H D r

section
variable {α β : Type} {g : G} {n : En} {W : WX} {A A' A1 : Ad} {B B' B1 : Addr → Prop} {H H' H1 : Hp} {ω ω' : List Cell} {σ : St} {ρ : Rho} {D : Ends} {r : RS}
theorem ResS.mv (h : ResS g n W A B H D r) (m : Mv A B H A1 B1 H1) : ResS g n W A1 B1 H1 D r := by
  cases r with
  | nx ρ' ω' => exact fun σ' A' B' H' t => h σ' A' B' H' (m.trans t)
  | rt d ω' => exact h
  | bk ρ' ω' => exact fun σ' A' B' H' t => h σ' A' B' H' (m.trans t)
  | ct ρ' ω' => exact fun σ' A' B' H' t => h σ' A' B' H' (m.trans t)
  | exc x ρ' ω' => exact fun cls dd σ' A' B' H' t => h cls dd σ' A' B' H' (m.trans t)
theorem tS_bind {rel : Rl β α} {f : M α} {k : α → MS} (st : Stp n.A n.B n.H A B H) (fm : Fm g n.H A B H ω σ ρ) (e : bindS f k ρ ω = some r) (res : ResS g n W A B H D r) :
    tM g rel W f σ H (fun v H1 => ∃ A1 B1 ω1 a, Stp A B H A1 B1 H1 ∧ Mv A B H A1 B1 H1 ∧ Stp n.A n.B n.H A1 B1 H1 ∧ Fm g n.H A1 B1 H1 ω1 σ ρ ∧ rel g A1 B1 H1 v a ∧ k a ρ ω1 = some r ∧ ResS g n W A1 B1 H1 D r) := by
  unfold bindS at e
  cases q : f ρ ω with
  | none => rw [q] at e; cases e
  | some z =>
    rw [q] at e
    cases z with
    | exc x ω' =>
      have e' : some (RS.exc x ρ ω') = some r := e
      cases e'
      exact ⟨n.H, A, B, ρ, ω, _, fm, q, fun cls dd A' B' H' t w x => res cls dd σ A' B' H' (fm.wo.mv t) (st.trans t) (fm.up t w) x⟩
    | val a ω' =>
      have e' : k a ρ ω' = some r := e
      exact ⟨n.H, A, B, ρ, ω, _, fm, q, fun v A1 B1 H1 t w rl => ⟨A1, B1, ω', a, t, fm.wo.mv t, st.trans t, fm.up t w, rl, e', res.mv (fm.wo.mv t)⟩⟩
/-- the end of a statement that goes on -/
theorem ResS.next {ρ' : Rho} {σ' : St} (res : ResS g n W A B H D (.nx ρ' ω')) (m : Mv A B H A' B' H') (st : Stp n.A n.B n.H A' B' H') (fm : Fm g n.H A' B' H' ω' σ' ρ') : D.nx σ' H' := res σ' A' B' H' m st fm
end

/-! ### blocks -/
section
variable {X : Cx} {g : G} {n : En} {W : WX} {st : Stmt} {rest : List Stmt} {F K : MS} {pos : Pos}
theorem dss_nil : PSs X [] (tS g n W fun ρ ω => some (.nx ρ ω)) := pss_nil.dl fun D σ H ⟨A, B, ρ, ω, r, s, fm, e, res⟩ => by
  cases e
  exact res.next (.refl _ _ _) s fm
theorem dss_cons (h1 : PS X st (tS g n W F)) (h2 : PSs X rest (tS g n W K)) : PSs X (st :: rest) (tS g n W (seqS F K)) := (pss_cons h1 h2).dl fun D σ H ⟨A, B, ρ, ω, r, s, fm, e, res⟩ => by
  unfold seqS at e
  cases q : F ρ ω with
  | none => rw [q] at e; cases e
  | some z =>
    rw [q] at e
    refine ⟨A, B, ρ, ω, z, s, fm, q, ?_⟩
    cases z with
    | nx ρ' ω' => exact fun σ' A' B' H' m s' fm' => ⟨A', B', ρ', ω', r, s', fm', e, res.mv m⟩
    | rt d ω' => cases e; exact res
    | bk ρ' ω' => cases e; exact res
    | ct ρ' ω' => cases e; exact res
    | exc x ρ' ω' => cases e; exact res
theorem dss_one (h1 : PS X st (tS g n W F)) : PSs X [st] (tS g n W F) := pss_one h1
theorem ds_pass : PS X (.Pass pos) (tS g n W fun ρ ω => some (.nx ρ ω)) := ps_pass.dl fun D σ H ⟨A, B, ρ, ω, r, s, fm, e, res⟩ => by
  cases e
  exact res.next (.refl _ _ _) s fm
theorem ds_break : PS X (.Break pos) (tS g n W fun ρ ω => some (.bk ρ ω)) := ps_break.dl fun D σ H ⟨A, B, ρ, ω, r, s, fm, e, res⟩ => by
  cases e
  exact res σ A B H (.refl _ _ _) s fm
theorem ds_continue : PS X (.Continue pos) (tS g n W fun ρ ω => some (.ct ρ ω)) := ps_continue.dl fun D σ H ⟨A, B, ρ, ω, r, s, fm, e, res⟩ => by
  cases e
  exact res σ A B H (.refl _ _ _) s fm
end

/-! ### names stored -/
section
variable {g : G} {A : Ad} {B : Addr → Prop} {H H0 : Hp} {ω : List Cell} {σ : St} {ρ : Rho}
theorem getElem?_set_cases {α : Type} {l : List α} {i j : Nat} {a b : α} (h : (l.set i a)[j]? = some b) : (i = j ∧ j < l.length ∧ a = b) ∨ (i ≠ j ∧ l[j]? = some b) := by
  by_cases e : i = j
  · subst e
    by_cases hi : i < l.length
    · rw [List.getElem?_set_self hi] at h
      exact .inl ⟨rfl, hi, Option.some.inj h⟩
    · rw [List.getElem?_eq_none (by simpa using hi)] at h; cases h
  · rw [List.getElem?_set_ne e] at h
    exact .inr ⟨e, h⟩
theorem Slots.setF {i : Nat} {v : V} {d : D} (h : Slots g H0 A B H σ ρ) (hd : Dp g A B H v d) : Slots g H0 A B H (σ.set i (some v)) (ρ.set i (.fz d)) := by
  refine ⟨by simp [h.len], fun j s e => ?_, fun a b ds es p ea eb sa sb => ?_⟩
  · rcases getElem?_set_cases e with ⟨rfl, hi, rfl⟩ | ⟨ne, e⟩
    · exact ⟨v, by rw [List.getElem?_set_self (by rw [← h.len]; exact hi)], hd⟩
    · rw [List.getElem?_set_ne ne]
      exact h.val j s e
  · rcases getElem?_set_cases ea with ⟨_, _, z⟩ | ⟨na, ea⟩
    · cases z
    · rcases getElem?_set_cases eb with ⟨_, _, z⟩ | ⟨nb, eb⟩
      · cases z
      · rw [List.getElem?_set_ne na] at sa
        rw [List.getElem?_set_ne nb] at sb
        exact h.own a b ds es p ea eb sa sb
theorem Fm.setF {i : Nat} {v : V} {d : D} (h : Fm g H0 A B H ω σ ρ) (hd : Dp g A B H v d) : Fm g H0 A B H ω (σ.set i (some v)) (ρ.set i (.fz d)) := ⟨h.wo, h.sl.setF hd⟩
/-- a slot is forgotten -/
theorem Slots.drop {i : Nat} {x : Option V} (h : Slots g H0 A B H σ ρ) : Slots g H0 A B H (σ.set i x) (ρ.set i .no) := by
  refine ⟨by simp [h.len], fun j s e => ?_, fun a b ds es p ea eb sa sb => ?_⟩
  · rcases getElem?_set_cases e with ⟨rfl, hi, rfl⟩ | ⟨ne, e⟩
    · trivial
    · rw [List.getElem?_set_ne ne]
      exact h.val j s e
  · rcases getElem?_set_cases ea with ⟨_, _, z⟩ | ⟨na, ea⟩
    · cases z
    · rcases getElem?_set_cases eb with ⟨_, _, z⟩ | ⟨nb, eb⟩
      · cases z
      · rw [List.getElem?_set_ne na] at sa
        rw [List.getElem?_set_ne nb] at sb
        exact h.own a b ds es p ea eb sa sb
/-- a list of the frame's own is written -/
theorem Fm.write {i : Nat} {p : Addr} {vs vs' : List V} {ds ds' : List D} (h : Fm g H0 A B H ω σ ρ) (hi : ρ[i]? = some (.ow ds)) (hs : σ[i]? = some (some (.ref p))) (hp : H p = some (.lst vs)) (hb : B p) (nl : ¬ Liv A p) (h0 : H0 p = none) (l : DpL g A B H vs' ds') :
    Fm g H0 A B (upd H p (.lst vs')) ω σ (ρ.set i (.ow ds')) ∧ Mv A B H A B (upd H p (.lst vs')) := by
  have m : Mv A B H A B (upd H p (.lst vs')) := ⟨fun a o na e => ⟨by rw [upd_ne (fun z => na (by rw [z]; exact hb))]; exact e, na⟩, fun _ _ h => .inl h, frz_upd (fun o u e => by rw [hp] at e; cases e)⟩
  refine ⟨⟨⟨h.wo.len, h.wo.inj, h.wo.liv, fun a ha => ?_, fun k c e => ?_⟩, ⟨by simp [h.sl.len], fun j s e => ?_, fun a b xs ys q ea eb sa sb => ?_⟩⟩, m⟩
  · by_cases z : a = p
    · exact ⟨_, by rw [z]; exact upd_same⟩
    · obtain ⟨o, e⟩ := h.wo.bnd a ha
      exact ⟨o, by rw [upd_ne z]; exact e⟩
  · rcases h.wo.cell k c e with z | ⟨a, h1, h2⟩
    · exact .inl z
    · exact .inr ⟨a, h1, h2.mv m fun o q => by rw [upd_ne (fun z => nl (by rw [← z]; exact Liv.of h1))]; exact q⟩
  · rcases getElem?_set_cases e with ⟨rfl, hl, rfl⟩ | ⟨ne, e⟩
    · exact ⟨p, vs', hs, upd_same, DpL.mv m _ _ l, hb, nl, h0⟩
    · have := h.sl.val j s e
      cases s with
      | no => trivial
      | ex p y => exact ⟨this.1, this.2.mv m⟩
      | fz d =>
        obtain ⟨v, e1, e2⟩ := this
        exact ⟨v, e1, Dp.mv m _ _ e2⟩
      | ow es =>
        obtain ⟨q, ws, e1, e2, e3, e4, e5, e6⟩ := this
        have npq : q ≠ p := fun z => ne (h.sl.own i j _ _ p hi e hs (z ▸ e1))
        exact ⟨q, ws, e1, by rw [upd_ne npq]; exact e2, DpL.mv m _ _ e3, e4, e5, e6⟩
  · have fix : ∀ (c : Nat) (zs : List D), (ρ.set i (.ow ds'))[c]? = some (.ow zs) → ∃ ws, ρ[c]? = some (.ow ws) := fun c zs ec => by
      rcases getElem?_set_cases ec with ⟨rfl, _, _⟩ | ⟨_, ec⟩
      · exact ⟨_, hi⟩
      · exact ⟨_, ec⟩
    obtain ⟨u, eu⟩ := fix a xs ea
    obtain ⟨v, ev⟩ := fix b ys eb
    exact h.sl.own a b u v q eu ev sa sb
/-- a new list becomes a slot's own -/
theorem Fm.setO {i : Nat} {p : Addr} {vs : List V} {ds : List D} {A0 : Ad} {B0 : Addr → Prop} (h : Fm g H0 A B H ω σ ρ) (st : Stp A0 B0 H0 A B H) (hp : H p = none) (l : DpL g A B H vs ds) :
    Fm g H0 A (fun a => B a ∨ a = p) (upd H p (.lst vs)) ω (σ.set i (some (.ref p))) (ρ.set i (.ow ds)) ∧ Mv A B H A (fun a => B a ∨ a = p) (upd H p (.lst vs)) ∧ Stp A0 B0 H0 A (fun a => B a ∨ a = p) (upd H p (.lst vs)) := by
  have h0 : H0 p = none := by
    cases q : H0 p with
    | none => rfl
    | some o =>
      obtain ⟨u, e⟩ := st.trk p o q
      rw [hp] at e; cases e
  have m : Mv A B H A (fun a => B a ∨ a = p) (upd H p (.lst vs)) := ⟨fun a o na e => ⟨by rw [upd_ne (ne_of_none e hp)]; exact e, fun z => z.elim na (ne_of_none e hp)⟩, fun _ _ h => .inl h, frz_upd (frz_none hp)⟩
  have nlp : ¬ Liv A p := fun z => by
    obtain ⟨o, e⟩ := h.wo.bnd p (h.wo.liv p z)
    rw [hp] at e; cases e
  refine ⟨⟨⟨h.wo.len, h.wo.inj, fun a z => .inl (h.wo.liv a z), fun a ha => ?_, fun k c e => ?_⟩, ⟨by simp [h.sl.len], fun j s e => ?_, fun a b xs ys q ea eb sa sb => ?_⟩⟩, m, ⟨fun a o e na => ?_, fun a o e na => ?_, st.new, st.ids, fun a o e => ?_, fun a o u e => frz_upd (frz_none hp) a o u (st.frz a o u e)⟩⟩
  · rcases ha with ha | rfl
    · obtain ⟨o, e⟩ := h.wo.bnd a ha
      exact ⟨o, by rw [upd_ne (ne_of_none e hp)]; exact e⟩
    · exact ⟨_, upd_same⟩
  · rcases h.wo.cell k c e with z | ⟨a, h1, h2⟩
    · exact .inl z
    · exact .inr ⟨a, h1, h2.mv m fun o q => by rw [upd_ne (ne_of_none q hp)]; exact q⟩
  · rcases getElem?_set_cases e with ⟨rfl, hl, rfl⟩ | ⟨ne, e⟩
    · exact ⟨p, vs, by rw [List.getElem?_set_self (by rw [← h.sl.len]; exact hl)], upd_same, DpL.mv m _ _ l, .inr rfl, nlp, h0⟩
    · rw [List.getElem?_set_ne ne]
      have := h.sl.val j s e
      cases s with
      | no => trivial
      | ex p y => exact ⟨this.1, this.2.mv m⟩
      | fz d =>
        obtain ⟨v, e1, e2⟩ := this
        exact ⟨v, e1, Dp.mv m _ _ e2⟩
      | ow es =>
        obtain ⟨q, ws, e1, e2, e3, e4, e5, e6⟩ := this
        exact ⟨q, ws, e1, by rw [upd_ne (ne_of_none e2 hp)]; exact e2, DpL.mv m _ _ e3, .inl e4, e5, e6⟩
  · have other : ∀ (c : Nat) (zs : List D), i ≠ c → ρ[c]? = some (.ow zs) → σ[c]? ≠ some (some (.ref p)) := fun c zs nc ec z => by
      obtain ⟨q, ws, e1, e2, _⟩ := h.sl.val c _ ec
      rw [z] at e1
      cases e1
      rw [hp] at e2; cases e2
    have self : ∀ (c : Nat), i = c → c < ρ.length → (σ.set i (some (.ref p)))[c]? = some (some (.ref p)) := fun c e hc => by
      subst e
      rw [List.getElem?_set_self (by rw [← h.sl.len]; exact hc)]
    rcases getElem?_set_cases ea with ⟨na, la, _⟩ | ⟨na, ea⟩
    · rcases getElem?_set_cases eb with ⟨nb, _, _⟩ | ⟨nb, eb⟩
      · exact na.symm.trans nb
      · rw [List.getElem?_set_ne nb] at sb
        rw [self a na la] at sa
        cases sa
        exact (other b _ nb eb sb).elim
    · rcases getElem?_set_cases eb with ⟨nb, lb, _⟩ | ⟨nb, eb⟩
      · rw [List.getElem?_set_ne na] at sa
        rw [self b nb lb] at sb
        cases sb
        exact (other a _ na ea sa).elim
      · rw [List.getElem?_set_ne na] at sa
        rw [List.getElem?_set_ne nb] at sb
        exact h.sl.own a b _ _ q ea eb sa sb
  · have := st.keep a o e na
    rw [upd_ne (ne_of_none this hp)]
    exact this
  · rw [← st.old a o e na]
    have := st.keep a o e na
    exact ⟨fun z => z.elim id fun z => (ne_of_none this hp z).elim, .inl⟩
  · obtain ⟨u, e'⟩ := st.trk a o e
    exact ⟨u, by rw [upd_ne (ne_of_none e' hp)]; exact e'⟩
/-- a slot's own list is given out: it will not change any more -/
theorem Fm.freeze {i : Nat} {p : Addr} {ds : List D} {A0 : Ad} {B0 : Addr → Prop} (h : Fm g H0 A B H ω σ ρ) (st : Stp A0 B0 H0 A B H) (hi : ρ[i]? = some (.ow ds)) (hs : σ[i]? = some (some (.ref p))) :
    Fm g H0 A (fun a => B a ∧ a ≠ p) H ω σ (ρ.set i (.fz (.lst ds))) ∧ Mv A B H A (fun a => B a ∧ a ≠ p) H ∧ Stp A0 B0 H0 A (fun a => B a ∧ a ≠ p) H := by
  obtain ⟨p', vs, e1, hp, l, hb, nl, h0⟩ := h.sl.val i _ hi
  rw [hs] at e1
  cases e1
  have m : Mv A B H A (fun a => B a ∧ a ≠ p) H := ⟨fun a o na e => ⟨e, fun z => na z.1⟩, fun _ _ h => .inl h, fun _ _ _ h => h⟩
  refine ⟨⟨⟨h.wo.len, h.wo.inj, fun a z => ⟨h.wo.liv a z, fun e => nl (e ▸ z)⟩, fun a ha => h.wo.bnd a ha.1, fun k c e => ?_⟩, ⟨by simp [h.sl.len], fun j s e => ?_, fun a b xs ys q ea eb sa sb => ?_⟩⟩, m, ⟨st.keep, fun a o e na => ?_, st.new, st.ids, st.trk, st.frz⟩⟩
  · rcases h.wo.cell k c e with z | ⟨a, h1, h2⟩
    · exact .inl z
    · exact .inr ⟨a, h1, h2.mv m fun _ q => q⟩
  · rcases getElem?_set_cases e with ⟨rfl, hl, rfl⟩ | ⟨ne, e⟩
    · exact ⟨.ref p, hs, .lst (fun z => z.2 rfl) hp (DpL.mv m _ _ l)⟩
    · have := h.sl.val j s e
      cases s with
      | no => trivial
      | ex p y => exact ⟨this.1, this.2.mv m⟩
      | fz d =>
        obtain ⟨v, e1, e2⟩ := this
        exact ⟨v, e1, Dp.mv m _ _ e2⟩
      | ow es =>
        obtain ⟨q, ws, e1, e2, e3, e4, e5, e6⟩ := this
        have npq : q ≠ p := fun z => ne (h.sl.own i j _ _ p hi e hs (z ▸ e1))
        exact ⟨q, ws, e1, e2, DpL.mv m _ _ e3, ⟨e4, npq⟩, e5, e6⟩
  · rcases getElem?_set_cases ea with ⟨_, _, z⟩ | ⟨na, ea⟩
    · cases z
    · rcases getElem?_set_cases eb with ⟨_, _, z⟩ | ⟨nb, eb⟩
      · cases z
      · exact h.sl.own a b _ _ q ea eb sa sb
  · rw [← st.old a o e na]
    refine ⟨fun z => z.1, fun z => ⟨z, fun e' => ?_⟩⟩
    rw [e', h0] at e
    cases e
end

end DL
/-! DL5: statement rules. -/
namespace DL
open PySem L2

/-! ### a new list -/
def ResN (g : G) (W : WX) (σ : St) (A : Ad) (B : Addr → Prop) (H : Hp) (Q : VK) : R (List D) → Prop
  | .val ds ω' => ∀ p vs A' B' H', Stp A B H A' B' H' → Wo g A' B' H' ω' → H' p = some (.lst vs) → DpL g A' B' H' vs ds → B' p → ¬ Liv A' p → H p = none → Q (.ref p) H'
  | .exc x ω' => ∀ cls dd A' B' H', Stp A B H A' B' H' → Wo g A' B' H' ω' → XOk g A' B' H' cls dd x → W cls dd σ H'
def tN (g : G) (W : WX) (f : M (List D)) : TE := fun σ H Q => ∃ H0 A B ρ ω r, Fm g H0 A B H ω σ ρ ∧ f ρ ω = some r ∧ ResN g W σ A B H Q r
section
variable {g : G} {A A' : Ad} {B B' : Addr → Prop} {H H' H0 : Hp} {ω ω' : List Cell} {σ : St} {ρ : Rho} {W : WX}
/-- p leaves B -/
theorem Stp.minus {p : Addr} (s : Stp A B H A' B' H') (hp : H p = none) : Stp A B H A' (fun a => B' a ∧ a ≠ p) H' :=
  ⟨s.keep, fun a o e n => by
    rw [← s.old a o e n]
    exact ⟨fun z => z.1, fun z => ⟨z, ne_of_none e hp⟩⟩, s.new, s.ids, s.trk, s.frz⟩
theorem Stp.plus {p : Addr} (s : Stp A B H A' B' H') (hp : H p = none) : Stp A B H A' (fun a => B' a ∨ a = p) H' :=
  ⟨s.keep, fun a o e n => by
    rw [← s.old a o e n]
    exact ⟨fun z => z.elim id fun z => (ne_of_none e hp z).elim, .inl⟩, s.new, s.ids, s.trk, s.frz⟩
theorem Mv.minus (p : Addr) : Mv A B H A (fun a => B a ∧ a ≠ p) H := ⟨fun a o na e => ⟨e, fun z => na z.1⟩, fun _ _ h => .inl h, fun _ _ _ h => h⟩
theorem Wo.minus {p : Addr} (w : Wo g A B H ω) (nl : ¬ Liv A p) : Wo g A (fun a => B a ∧ a ≠ p) H ω :=
  ⟨w.len, w.inj, fun a z => ⟨w.liv a z, fun e => nl (by rw [← e]; exact z)⟩, fun a ha => w.bnd a ha.1, fun k c e => by
    rcases w.cell k c e with z | ⟨a, h1, h2⟩
    · exact .inl z
    · exact .inr ⟨a, h1, h2.mv (Mv.minus p) fun _ q => q⟩⟩
/-- a new tracked thing at p that data don't know -/
theorem Mv.plus {p : Addr} {o : HO} (hp : H p = none) : Mv A B H A (fun a => B a ∨ a = p) (upd H p o) :=
  ⟨fun a u na e => ⟨by rw [upd_ne (ne_of_none e hp)]; exact e, fun z => z.elim na (ne_of_none e hp)⟩, fun _ _ h => .inl h, frz_upd (frz_none hp)⟩
theorem Wo.plus {p : Addr} {o : HO} (w : Wo g A B H ω) (hp : H p = none) : Wo g A (fun a => B a ∨ a = p) (upd H p o) ω :=
  ⟨w.len, w.inj, fun a z => .inl (w.liv a z), fun a ha => by
    rcases ha with ha | rfl
    · obtain ⟨o, e⟩ := w.bnd a ha
      exact ⟨o, by rw [upd_ne (ne_of_none e hp)]; exact e⟩
    · exact ⟨_, upd_same⟩, fun k c e => by
    rcases w.cell k c e with z | ⟨a, h1, h2⟩
    · exact .inl z
    · exact .inr ⟨a, h1, h2.mv (Mv.plus hp) fun o q => by rw [upd_ne (ne_of_none q hp)]; exact q⟩⟩
theorem Stp.alloc {p : Addr} {o : HO} {B1 : Addr → Prop} {A1 : Ad} {H1 : Hp} (s : Stp A B H A1 B1 H1) (hp : H1 p = none) : Stp A B H A1 (fun a => B1 a ∨ a = p) (upd H1 p o) := by
  have h0 : H p = none := by
    cases q : H p with
    | none => rfl
    | some u =>
      obtain ⟨v, e⟩ := s.trk p u q
      rw [hp] at e; cases e
  exact (s.trans (Stp.grow hp)).plus h0
/-- a list of the frame's own is written: seen from the entry -/
theorem Stp.own {p : Addr} {o : HO} (s : Stp A B H A' B' H') (hp : H p = none) (nl : ¬ Liv A' p) : Stp A B H A' B' (upd H' p o) :=
  ⟨fun a u e n => by rw [upd_ne (ne_of_none e hp)]; exact s.keep a u e n, s.old, s.new, s.ids, fun a u e => by
    obtain ⟨v, q⟩ := s.trk a u e
    exact ⟨v, by rw [upd_ne (ne_of_none e hp)]; exact q⟩, fun a o u e => by
    rw [upd_ne (ne_of_none e hp)]; exact s.frz a o u e⟩
theorem Stp.none {p : Addr} (s : Stp A B H A' B' H') (hp : H' p = none) : H p = none := by
  cases q : H p with
  | none => rfl
  | some u =>
    obtain ⟨v, e⟩ := s.trk p u q
    rw [hp] at e; cases e
/-- a new list becomes a datum -/
theorem tN_D {f : M (List D)} : ∀ σ H Q, tM g rD W (f.bind fun ds => M.pure (.lst ds)) σ H Q → tN g W f σ H Q := by
  rintro σ H Q ⟨H0, A, B, ρ, ω, r, fm, e, res⟩
  unfold M.bind at e
  cases q : f ρ ω with
  | none => rw [q] at e; cases e
  | some z =>
    rw [q] at e
    cases z with
    | exc x ω' =>
      cases e
      exact ⟨H0, A, B, ρ, ω, _, fm, q, res⟩
    | val ds ω' =>
      cases e
      refine ⟨H0, A, B, ρ, ω, _, fm, q, fun p vs A' B' H' t w hp l hb nl h0 => ?_⟩
      exact res (.ref p) A' _ H' (t.minus h0) (w.minus nl) (.lst (fun z => z.2 rfl) hp (DpL.mv (Mv.minus p) _ _ l))
theorem Fm.takeO {i : Nat} {p : Addr} {vs : List V} {ds : List D} (h : Fm g H0 A B H ω σ ρ) (t : Stp A B H A' B' H') (w : Wo g A' B' H' ω') (hp : H' p = some (.lst vs)) (l : DpL g A' B' H' vs ds) (hb : B' p) (nl : ¬ Liv A' p) (h1 : H p = none) (h0 : H0 p = none) :
    Fm g H0 A' B' H' ω' (σ.set i (some (.ref p))) (ρ.set i (.ow ds)) := by
  have s1 := h.sl.up h.wo t
  refine ⟨w, ⟨by simp [s1.len], fun j s e => ?_, fun a b xs ys q ea eb sa sb => ?_⟩⟩
  · rcases getElem?_set_cases e with ⟨rfl, hl, rfl⟩ | ⟨ne, e⟩
    · exact ⟨p, vs, by rw [List.getElem?_set_self (by rw [← s1.len]; exact hl)], hp, l, hb, nl, h0⟩
    · rw [List.getElem?_set_ne ne]
      exact s1.val j s e
  · have other : ∀ (c : Nat) (zs : List D), i ≠ c → ρ[c]? = some (.ow zs) → σ[c]? ≠ some (some (.ref p)) := fun c zs nc ec z => by
      obtain ⟨q, ws, e1, e2, _⟩ := h.sl.val c _ ec
      rw [z] at e1
      cases e1
      rw [h1] at e2; cases e2
    have self : ∀ (c : Nat), i = c → c < ρ.length → (σ.set i (some (.ref p)))[c]? = some (some (.ref p)) := fun c e hc => by
      subst e
      rw [List.getElem?_set_self (by rw [← s1.len]; exact hc)]
    rcases getElem?_set_cases ea with ⟨na, la, _⟩ | ⟨na, ea⟩
    · rcases getElem?_set_cases eb with ⟨nb, _, _⟩ | ⟨nb, eb⟩
      · exact na.symm.trans nb
      · rw [List.getElem?_set_ne nb] at sb
        rw [self a na la] at sa
        cases sa
        exact (other b _ nb eb sb).elim
    · rcases getElem?_set_cases eb with ⟨nb, lb, _⟩ | ⟨nb, eb⟩
      · rw [List.getElem?_set_ne na] at sa
        rw [self b nb lb] at sb
        cases sb
        exact (other a _ na ea sa).elim
      · rw [List.getElem?_set_ne na] at sa
        rw [List.getElem?_set_ne nb] at sb
        exact s1.own a b _ _ q ea eb sa sb
end
def lenOk (ds : List D) : M (List D) := fun _ ω => if ds.length ≤ sizeLine then some (.val ds ω) else none
section
variable {X : Cx} {g : G} {W : WX} {e : Expr} {es : List Expr} {f : M D} {fs : M (List D)} {pos : Pos}
/-- from «at every free place» -/
theorem ResN.of {A A1 : Ad} {B B1 : Addr → Prop} {H H1 : Hp} {ω1 : List Cell} {σ : St} {Q : VK} {vs : List V} {ds : List D} (res : ResN g W σ A B H Q (.val ds ω1)) (t : Stp A B H A1 B1 H1) (w : Wo g A1 B1 H1 ω1) (l : DpL g A1 B1 H1 vs ds) : ∀ p, H1 p = none → Q (.ref p) (upd H1 p (.lst vs)) := fun p hp =>
  res p vs A1 _ _ (t.alloc hp) (w.plus hp) upd_same (DpL.mv (Mv.plus hp) _ _ l) (.inr rfl) (fun z => w.nb hp (w.liv p z)) (t.none hp)
/-- the first part of a sequence that ends in a new list -/
theorem tN_bind {α β : Type} {rel : Rl β α} {f : M α} {k : α → M (List D)} {A : Ad} {B : Addr → Prop} {H H0 : Hp} {ω : List Cell} {σ : St} {ρ : Rho} {Q : VK} {r : R (List D)} (h : Fm g H0 A B H ω σ ρ) (e : (f.bind k) ρ ω = some r) (res : ResN g W σ A B H Q r) :
    tM g rel W f σ H (fun v H1 => ∃ A1 B1 ω1 a, Stp A B H A1 B1 H1 ∧ Fm g H0 A1 B1 H1 ω1 σ ρ ∧ rel g A1 B1 H1 v a ∧ k a ρ ω1 = some r) := by
  unfold M.bind at e
  cases q : f ρ ω with
  | none => rw [q] at e; cases e
  | some z =>
    rw [q] at e
    cases z with
    | exc x ω' =>
      cases e
      exact ⟨H0, A, B, ρ, ω, _, h, q, res⟩
    | val a ω' => exact ⟨H0, A, B, ρ, ω, _, h, q, fun v A1 B1 H1 t w rl => ⟨A1, B1, ω', a, t, h.up t w, rl, e⟩⟩
theorem dn_lst (h : PA X es (tM g rL W fs)) : PE X (.List es pos) (tN g W (fs.bind lenOk)) :=
  (pe_lst h).dl fun σ H Q ⟨H0, A, B, ρ, ω, r, fm, e, res⟩ => by
    refine tM_mono (tN_bind fm e res) fun x H1 ⟨A1, B1, ω1, d1, t1, fm1, r1, e1⟩ => ?_
    unfold lenOk at e1
    split at e1
    · cases e1
      exact ⟨by rw [DpL.length r1]; assumption, res.of t1 fm1.wo r1⟩
    · cases e1
/-- list(e) -/
def listL : D → M (List D) := fun d _ ω => match view ω d with
  | some d' => match listD d' with
    | some (.lst ds) => some (.val ds ω)
    | _ => none
  | none => none
theorem dn_list {p : Pos} (hK : X.K = g.K) (hg : Gl X "list") (hm : X.mg "list" = none) (ha : PE X e (tM g rW W f)) (he : starEach [e] X.env = (false, eval e X.env) :: starEach [] X.env := by rfl) : PE X (.Call (.Name "list" p) [e] [] pos) (tN g W (f.bind listL)) :=
  (pe_callTy call_list_of hg hm (by decide +kernel) (pa_cons ha pa_nil he) (he := he)).dl fun σ H Q ⟨H0, A, B, ρ, ω, r, fm, e, res⟩ => by
    refine tM_mono (tN_bind fm e res) fun x H1 ⟨A1, B1, ω1, d1, t1, fm1, r1, e1⟩ => ?_
    unfold listL at e1
    cases q : view ω1 d1 with
    | none => simp only [q] at e1; cases e1
    | some d' =>
      simp only [q] at e1
      have vw := view_ok fm1.wo r1 q
      rw [hK]
      cases d' with
      | lst ds =>
        cases e1
        obtain ⟨p, vs, rfl, hp, l⟩ := vw
        exact ⟨p, vs, rfl, .inl (SqL.of hp), res.of t1 fm1.wo l⟩
      | tup ds =>
        cases e1
        obtain ⟨p, vs, rfl, hp, l⟩ := Dp.seq vw
        exact ⟨p, vs, rfl, .inr hp, res.of t1 fm1.wo l⟩
      | scr ns =>
        cases e1
        obtain ⟨p, rfl, hp⟩ := vw
        exact ⟨p, _, rfl, .inl hp, res.of t1 fm1.wo (DpL.ints ns)⟩
      | _ => cases e1
theorem de_new (h : PE X e (tN g W fs)) : PE X e (tM g rD W (fs.bind fun ds => M.pure (.lst ds))) := h.dl tN_D
end

/-! ### simple statements -/
section
variable {X : Cx} {g : G} {n : En} {W : WX} {e c : Expr} {f : M D} {fs : M (List D)} {t : M Bool} {F K : MS} {a b : List Stmt} {pos : Pos}
def setS (i : Nat) (f : M D) : MS := bindS f fun d ρ ω => some (.nx (ρ.set i (.fz d)) ω)
theorem ds_set {i : Nat} {x : Str} {pos' : Pos} (hN : X.N.Nodup) (he : PE X e (tM g rD W f)) (hi : X.N[i]? = some x := by rfl) (hx : Loc X.env.scope x := by first | exact Or.inl rfl | exact Or.inr rfl) (hs : swapsWith e (some (.Name x pos')) pos.line X.env = pure false := by rfl)
    (hf : X.fn x = true ∨ X.env.scope.names.lookup x = some .local := by first | exact .inl rfl | exact .inr rfl | assumption) : PS X (.Assign [.Name x pos'] e pos) (tS g n W (setS i f)) :=
  (ps_set hN hi hx he hs hf).dl fun D σ H ⟨A, B, ρ, ω, r, s, fm, e, res⟩ => by
    refine tM_mono (tS_bind s fm e res) fun v H1 ⟨A1, B1, ω1, d, t1, m1, s1, fm1, r1, e1, res1⟩ => ?_
    cases e1
    exact res1.next (.refl _ _ _) s1 (fm1.setF r1)
def setO (i : Nat) (f : M (List D)) : MS := bindS f fun ds ρ ω => some (.nx (ρ.set i (.ow ds)) ω)
theorem tN_setO {i : Nat} {D : Ends} {σ : St} {H : Hp} (h : tS g n W (setO i fs) D σ H) : tN g W fs σ H fun x H1 => gName i x σ H1 D.nx := by
  obtain ⟨A, B, ρ, ω, r, s, fm, e, res⟩ := h
  unfold setO bindS at e
  cases q : fs ρ ω with
  | none => rw [q] at e; cases e
  | some z =>
    rw [q] at e
    cases z with
    | exc x ω' =>
      cases e
      exact ⟨n.H, A, B, ρ, ω, _, fm, q, fun cls dd A' B' H' t w x => res cls dd σ A' B' H' (fm.wo.mv t) (s.trans t) (fm.up t w) x⟩
    | val ds ω' =>
      cases e
      refine ⟨n.H, A, B, ρ, ω, _, fm, q, fun p vs A' B' H' t w hp l hb nl h1 => ?_⟩
      exact res.next (fm.wo.mv t) (s.trans t) (fm.takeO t w hp l hb nl h1 (s.none h1))
theorem ds_setO {i : Nat} {x : Str} {pos' : Pos} (hN : X.N.Nodup) (he : PE X e (tN g W fs)) (hi : X.N[i]? = some x := by rfl) (hx : Loc X.env.scope x := by first | exact Or.inl rfl | exact Or.inr rfl) (hs : swapsWith e (some (.Name x pos')) pos.line X.env = pure false := by rfl)
    (hf : X.fn x = true ∨ X.env.scope.names.lookup x = some .local := by first | exact .inl rfl | exact .inr rfl | assumption) : PS X (.Assign [.Name x pos'] e pos) (tS g n W (setO i fs)) :=
  (ps_set hN hi hx he hs hf).dl fun D σ H h => tN_setO h
def exprS (f : M D) : MS := bindS f fun _ ρ ω => some (.nx ρ ω)
theorem ds_expr (he : PE X e (tM g rD W f)) (hs : swapsWith e none pos.line X.env = pure false := by rfl) : PS X (.Expr e pos) (tS g n W (exprS f)) :=
  (ps_expr he hs).dl fun D σ H ⟨A, B, ρ, ω, r, s, fm, e, res⟩ => by
    refine tM_mono (tS_bind s fm e res) fun v H1 ⟨A1, B1, ω1, d, t1, m1, s1, fm1, r1, e1, res1⟩ => ?_
    cases e1
    exact res1.next (.refl _ _ _) s1 fm1
def retS (f : M D) : MS := bindS f fun d _ ω => some (.rt d ω)
theorem ds_ret (he : PE X e (tM g rD W f)) : PS X (.Return (some e) pos) (tS g n W (retS f)) :=
  (ps_ret he).dl fun D σ H ⟨A, B, ρ, ω, r, s, fm, e, res⟩ => by
    refine tM_mono (tS_bind s fm e res) fun v H1 ⟨A1, B1, ω1, d, t1, m1, s1, fm1, r1, e1, res1⟩ => ?_
    cases e1
    exact res1 v A1 B1 H1 s1 fm1.wo r1
theorem ds_retN : PS X (.Return none pos) (tS g n W fun _ ω => some (.rt .non ω)) :=
  ps_retN.dl fun D σ H ⟨A, B, ρ, ω, r, s, fm, e, res⟩ => by
    cases e
    exact res .non A B H s fm.wo .non
def ifS (t : M Bool) (F K : MS) : MS := bindS t fun b => if b = true then F else K
theorem ds_if (hc : PT X c (tM g rB W t)) (ha : PSs X a (tS g n W F)) (hb : PSs X b (tS g n W K)) : PS X (.If c a b pos) (tS g n W (ifS t F K)) :=
  (ps_if hc ha hb).dl fun D σ H ⟨A, B, ρ, ω, r, s, fm, e, res⟩ => by
    refine tM_mono (tS_bind s fm e res) fun v H1 ⟨A1, B1, ω1, d, t1, m1, s1, fm1, r1, e1, res1⟩ => ?_
    cases r1
    cases v with
    | true =>
      rw [if_pos rfl] at e1 ⊢
      exact ⟨A1, B1, ρ, ω1, r, s1, fm1, e1, res1⟩
    | false =>
      rw [if_neg Bool.false_ne_true] at e1 ⊢
      exact ⟨A1, B1, ρ, ω1, r, s1, fm1, e1, res1⟩
/-- ahead of a statement a list of the frame's own is given out -/
def frz (i : Nat) (F : MS) : MS := fun ρ ω => match ρ[i]? with
  | some (.ow ds) => F (ρ.set i (.fz (.lst ds))) ω
  | _ => F ρ ω
theorem ds_frz (i : Nat) {st : Stmt} (h : PS X st (tS g n W F)) : PS X st (tS g n W (frz i F)) := h.dl fun D σ H ⟨A, B, ρ, ω, r, s, fm, e, res⟩ => by
  unfold frz at e
  split at e
  · rename_i ds hi
    obtain ⟨p, vs, e1, hp, l, hb, nl, h0⟩ := fm.sl.val i _ hi
    obtain ⟨fm', m, s'⟩ := fm.freeze s hi e1
    exact ⟨A, _, _, ω, r, s', fm', e, res.mv m⟩
  · exact ⟨A, B, ρ, ω, r, s, fm, e, res⟩

/-! ### x.append(e), x.extend(e) of an own list -/
def appS (i : Nat) (f : M D) : MS := fun ρ ω => match ρ[i]? with
  | some (.ow ds) => bindS f (fun d ρ ω => if ds.length < sizeLine then some (.nx (ρ.set i (.ow (ds ++ [d]))) ω) else none) ρ ω
  | _ => none
theorem ds_app {i : Nat} {x : Str} {p1 p2 p3 : Pos} (he : PE X e (tM g rD W f)) (hN : X.N[i]? = some x := by rfl) (hv : Vis X.env.scope x := by first | exact Or.inl rfl | exact Or.inr (Or.inl rfl) | exact Or.inr (Or.inr rfl)) (hd : (x == ("__debug__" : Str)) = false := by decide)
    (hcd : (x == ("__classdict__" : Str)) = false := by decide) (hbase : attributeBase (.Name x p1) "append" X.env (eval (.Name x p1) X.env) = eval (.Name x p1) X.env := by rfl)
    (hfew : ((backTo p3 (starEach [e] X.env)).all (fun x => !x.1) && (backToKw p3 (keywordEach [] X.env)).all (fun x => x.1.isSome)
      && decide ([e].length + ([] : List Keyword).length + (if ([] : List Keyword).isEmpty then 0 else 1) < 30)) = true := by rfl)
    (hline : (p2.endLine == p3.line) = true := by rfl) (hst : starEach [e] X.env = (false, eval e X.env) :: starEach [] X.env := by rfl) (hplain : (backTo p3 (starEach [] X.env)).any (·.1) = false := by rfl)
    (hs : swapsWith (.Call (.Attribute (.Name x p1) "append" p2) [e] [] p3) none pos.line X.env = pure false := by rfl) :
    PS X (.Expr (.Call (.Attribute (.Name x p1) "append" p2) [e] [] p3) pos) (tS g n W (appS i f)) :=
  (ps_expr (pe_bm PySem.F.plainAttrs_list PySem.F.slot_list_append PySem.F.type_list_append mt_append (pe_var hN hv hd hcd) (pa_cons he pa_nil hst) hbase hfew hline hst hplain) hs).dl fun D σ H ⟨A, B, ρ, ω, r, s, fm, e, res⟩ => by
    unfold appS at e
    split at e
    · rename_i ds hi
      obtain ⟨p, vs, e1, hp, l, hb, nl, h0⟩ := fm.sl.val i _ hi
      refine ⟨.ref p, e1, .inl ⟨rfl, vs, SqL.of hp⟩, ?_⟩
      refine tM_mono (tS_bind s fm e res) fun v H1 ⟨A1, B1, ω1, d, t1, m1, s1, fm1, r1, e2, res1⟩ => ?_
      split at e2
      · rename_i hz
        cases e2
        obtain ⟨p', vs1, e1', hp1, l1, hb1, nl1, h01⟩ := fm1.sl.val i _ hi
        rw [e1] at e1'
        cases e1'
        refine ⟨p, vs1, v, rfl, rfl, hp1, by rw [l1.length]; exact hz, ?_⟩
        obtain ⟨fm2, m2⟩ := fm1.write hi e1 hp1 hb1 nl1 h01 (l1.append (.cons r1 .nil))
        exact res1.next m2 (s1.own h01 nl1) fm2
      · cases e2
    · cases e
/-- x.extend(e) -/
def extS (i : Nat) (f : M D) : MS := fun ρ ω => match ρ[i]? with
  | some (.ow ds) => bindS f (fun d ρ ω => match view ω d with
    | some (.lst es) => if ds.length + es.length ≤ sizeLine then some (.nx (ρ.set i (.ow (ds ++ es))) ω) else none
    | _ => none) ρ ω
  | _ => none
theorem ds_ext {i : Nat} {x : Str} {p1 p2 p3 : Pos} (he : PE X e (tM g rW W f)) (hN : X.N[i]? = some x := by rfl) (hv : Vis X.env.scope x := by first | exact Or.inl rfl | exact Or.inr (Or.inl rfl) | exact Or.inr (Or.inr rfl)) (hd : (x == ("__debug__" : Str)) = false := by decide)
    (hcd : (x == ("__classdict__" : Str)) = false := by decide) (hbase : attributeBase (.Name x p1) "extend" X.env (eval (.Name x p1) X.env) = eval (.Name x p1) X.env := by rfl)
    (hfew : ((backTo p3 (starEach [e] X.env)).all (fun x => !x.1) && (backToKw p3 (keywordEach [] X.env)).all (fun x => x.1.isSome)
      && decide ([e].length + ([] : List Keyword).length + (if ([] : List Keyword).isEmpty then 0 else 1) < 30)) = true := by rfl)
    (hline : (p2.endLine == p3.line) = true := by rfl) (hst : starEach [e] X.env = (false, eval e X.env) :: starEach [] X.env := by rfl) (hplain : (backTo p3 (starEach [] X.env)).any (·.1) = false := by rfl)
    (hs : swapsWith (.Call (.Attribute (.Name x p1) "extend" p2) [e] [] p3) none pos.line X.env = pure false := by rfl) :
    PS X (.Expr (.Call (.Attribute (.Name x p1) "extend" p2) [e] [] p3) pos) (tS g n W (extS i f)) :=
  (ps_expr (pe_bm PySem.F.plainAttrs_list PySem.F.slot_list_extend PySem.F.type_list_extend mt_extend (pe_var hN hv hd hcd) (pa_cons he pa_nil hst) hbase hfew hline hst hplain) hs).dl fun D σ H ⟨A, B, ρ, ω, r, s, fm, e, res⟩ => by
    unfold extS at e
    split at e
    · rename_i ds hi
      obtain ⟨p, vs, e1, hp, l, hb, nl, h0⟩ := fm.sl.val i _ hi
      refine ⟨.ref p, e1, .inl ⟨rfl, vs, SqL.of hp⟩, ?_⟩
      refine tM_mono (tS_bind s fm e res) fun v H1 ⟨A1, B1, ω1, d, t1, m1, s1, fm1, r1, e2, res1⟩ => ?_
      cases q : view ω1 d with
      | none => simp only [q] at e2; cases e2
      | some d' =>
        cases d' with
        | lst es =>
          simp only [q] at e2
          split at e2
          · rename_i hz
            cases e2
            obtain ⟨b, ws, rfl, hb', lw⟩ := view_ok fm1.wo r1 q
            obtain ⟨p', vs1, e1', hp1, l1, hb1, nl1, h01⟩ := fm1.sl.val i _ hi
            rw [e1] at e1'
            cases e1'
            refine ⟨p, b, vs1, ws, rfl, rfl, hp1, hb', by rw [l1.length, lw.length]; exact hz, ?_⟩
            obtain ⟨fm2, m2⟩ := fm1.write hi e1 hp1 hb1 nl1 h01 (l1.append lw)
            exact res1.next m2 (s1.own h01 nl1) fm2
          · cases e2
        | _ => simp only [q] at e2; cases e2
    · cases e
/-- x[i] = e of an own list -/
def putS (i : Nat) (fk f : M D) : MS := bindS f fun d ρ ω => match ρ[i]? with
  | some (.ow ds) => bindS fk (fun k ρ ω => match k with
    | .int z => match ixN ds.length z with
      | some j => some (.nx (ρ.set i (.ow (ds.set j d))) ω)
      | none => none
    | _ => none) ρ ω
  | _ => none
end
end DL
/-! DL6: targets, loops, comprehensions. -/
namespace DL
open PySem L2

/-! ### targets -/
/-- the slots outside are are as they were -/
def SOut (is : List Nat) (σ σ' : St) : Prop := σ'.length = σ.length ∧ ∀ j, j ∉ is → σ'[j]? = σ[j]?
theorem SOut.refl (is : List Nat) (σ : St) : SOut is σ σ := ⟨rfl, fun _ _ => rfl⟩
theorem SOut.trans {is js : List Nat} {σ σ1 σ2 : St} (a : SOut is σ σ1) (b : SOut js σ1 σ2) : SOut (is ++ js) σ σ2 :=
  ⟨b.1.trans a.1, fun j hj => (b.2 j fun z => hj (List.mem_append_right _ z)).trans (a.2 j fun z => hj (List.mem_append_left _ z))⟩
theorem wipe_in {σ : St} {i : Nat} : ∀ {vs : List Nat}, i ∈ vs → (wipe σ vs)[i]? = if i < σ.length then some none else none
  | v :: vs, h => by
    unfold wipe
    by_cases e : v = i
    · subst e
      split
      · rw [List.getElem?_set_self (by rw [wipe_length]; assumption)]
      · rw [List.getElem?_eq_none (by simp only [List.length_set, wipe_length]; omega)]
    · rw [List.getElem?_set_ne e]
      exact wipe_in ((List.mem_cons.mp h).resolve_left fun z => e z.symm)
theorem wipe_notin {σ : St} {i : Nat} : ∀ {vs : List Nat}, i ∉ vs → (wipe σ vs)[i]? = σ[i]?
  | [], _ => rfl
  | v :: vs, h => by
    unfold wipe
    rw [List.getElem?_set_ne (fun z => h (by rw [z]; exact List.mem_cons_self))]
    exact wipe_notin fun z => h (List.mem_cons_of_mem _ z)
theorem SOut.wipe {is vs : List Nat} {σ σ' : St} (h : SOut is σ σ') (hs : ∀ i ∈ is, i ∈ vs) : wipe σ' vs = wipe σ vs := by
  apply List.ext_getElem?
  intro i
  by_cases hi : i ∈ vs
  · rw [wipe_in hi, wipe_in hi, h.1]
  · rw [wipe_notin hi, wipe_notin hi]
    exact h.2 i fun z => hi (hs i z)
abbrev TT1 := D → Rho → List Cell → Option Rho
abbrev TTs := List D → Rho → List Cell → Option Rho
def tGM (g : G) (is : List Nat) (T : TT1) : TG := fun v σ H Q => ∃ H0 A B ρ ω d ρ', Fm g H0 A B H ω σ ρ ∧ Dp g A B H v d ∧ T d ρ ω = some ρ' ∧ ∀ σ', Fm g H0 A B H ω σ' ρ' → SOut is σ σ' → Q σ' H
def tGs (g : G) (is : List Nat) (T : TTs) : TGs := fun vs σ H Q => ∃ H0 A B ρ ω ds ρ', Fm g H0 A B H ω σ ρ ∧ DpL g A B H vs ds ∧ T ds ρ ω = some ρ' ∧ ∀ σ', Fm g H0 A B H ω σ' ρ' → SOut is σ σ' → Q σ' H
theorem _root_.L2.PG.dl {X : Cx} {e : Expr} {t t' : TG} (h : PG X e t) (i : ∀ v σ H Q, t' v σ H Q → t v σ H Q) : PG X e t' := ⟨fun pins s σ H v u Q I r q => h.run pins s σ H v u Q I r (i v σ H Q q)⟩
theorem _root_.L2.PGs.dl {X : Cx} {e : List Expr} {t t' : TGs} (h : PGs X e t) (i : ∀ v σ H Q, t' v σ H Q → t v σ H Q) : PGs X e t' := ⟨fun pins s σ H v u Q I r q => h.run pins s σ H v u Q I r (i v σ H Q q)⟩
theorem _root_.L2.PI.dl {X : Cx} {tg e : Expr} {t t' : TI} (h : PI X tg e t) (i : ∀ σ H Q, t' σ H Q → t σ H Q) : PI X tg e t' := ⟨fun pins s σ H R I q => h.run pins s σ H R I (i σ H R q)⟩
theorem _root_.L2.PTs.dl {X : Cx} {e : List Expr} {t t' : TT} (h : PTs X e t) (i : ∀ σ H Q, t' σ H Q → t σ H Q) : PTs X e t' := ⟨fun pins s σ H Q I q => h.run pins s σ H Q I (i σ H Q q)⟩
def nmT (i : Nat) : TT1 := fun d ρ _ => some (ρ.set i (.fz d))
def tupT (k : Nat) (T : TTs) : TT1 := fun d ρ ω => match view ω d with
  | some (.tup ds) => if ds.length = k then T ds ρ ω else none
  | _ => none
def consT (T : TT1) (Ts : TTs) : TTs := fun ds ρ ω => match ds with
  | d :: ds => match T d ρ ω with
    | some ρ' => Ts ds ρ' ω
    | none => none
  | [] => none
def nilT : TTs := fun ds ρ _ => match ds with
  | [] => some ρ
  | _ => none
section
variable {X : Cx} {g : G} {e : Expr} {es : List Expr} {T : TT1} {Ts : TTs} {is js : List Nat} {pos : Pos}
theorem dg_name (i : Nat) {x : Str} (hN : X.N.Nodup) (hi : X.N[i]? = some x := by rfl) (hx : Loc X.env.scope x := by first | exact Or.inl rfl | exact Or.inr rfl) (hf : X.fn x = true ∨ X.env.scope.names.lookup x = some .local := by first | exact .inl rfl | exact .inr rfl | assumption) : PG X (.Name x pos) (tGM g [i] (nmT i)) :=
  (pg_name hN hi hx hf).dl fun v σ H Q ⟨H0, A, B, ρ, ω, d, ρ', fm, hd, e, q⟩ => by
    cases e
    refine q _ (fm.setF hd) ⟨by simp, fun j hj => ?_⟩
    rw [List.getElem?_set_ne (fun z => hj (by simp [z]))]
theorem dgs_nil : PGs X [] (tGs g [] nilT) := pgs_nil.dl fun v σ H Q ⟨H0, A, B, ρ, ω, d, ρ', fm, hd, e, q⟩ => by
  cases hd with
  | nil =>
    cases e
    exact ⟨rfl, q σ fm (.refl _ _)⟩
  | cons h1 h2 => cases e
theorem dgs_cons (h1 : PG X e (tGM g is T)) (h2 : PGs X es (tGs g js Ts)) (hs : (assignEach (e :: es) X.env).map (·.2) = assign e X.env :: (assignEach es X.env).map (·.2) := by rfl) : PGs X (e :: es) (tGs g (is ++ js) (consT T Ts)) :=
  (pgs_cons h1 h2 hs).dl fun v σ H Q ⟨H0, A, B, ρ, ω, d, ρ', fm, hd, e, q⟩ => by
    cases hd with
    | nil => cases e
    | @cons v vs d ds hd1 hd2 =>
      unfold consT at e
      cases q1 : T d ρ ω with
      | none => simp only [q1] at e; cases e
      | some ρ1 =>
        simp only [q1] at e
        exact ⟨v, vs, rfl, H0, A, B, ρ, ω, d, ρ1, fm, hd1, q1, fun σ1 fm1 s1 => ⟨H0, A, B, ρ1, ω, ds, ρ', fm1, hd2, e, fun σ2 fm2 s2 => q σ2 fm2 (s1.trans s2)⟩⟩
theorem dg_tup {k n : Nat} (hK : X.K = g.K) (hc : X.calm = true) (h : PGs X es (tGs g is Ts)) (hn : (assignEach es X.env).length = n := by rfl) (hst : (assignEach es X.env).findIdx? (·.1) = none := by rfl) : PG X (.Tuple es k pos) (tGM g is (tupT n Ts)) :=
  (pg_tup hc h hn hst).dl fun v σ H Q ⟨H0, A, B, ρ, ω, d, ρ', fm, hd, e, q⟩ => by
    unfold tupT at e
    cases q1 : view ω d with
    | none => simp only [q1] at e; cases e
    | some d' =>
      cases d' with
      | tup ds =>
        simp only [q1] at e
        split at e
        · rename_i hl
          have vw : Dp g A B H v (.tup ds) := Vw.of hd fm.wo q1
          obtain ⟨a, vs, rfl, hs, l⟩ := Dp.seq vw
          exact ⟨a, vs, rfl, by rw [hK]; exact hs, by rw [l.length]; exact hl, H0, A, B, ρ, ω, ds, ρ', fm, l, e, q⟩
        · cases e
      | _ => simp only [q1] at e; cases e
end

/-! ### what is walked -/
structure ItB (g : G) (J : It) (items : List D) (C : Ad → (Addr → Prop) → Hp → Prop) : Prop where
  go : ∀ A B H (i : Nat), C A B H → i < items.length → J.go i H
  yld : ∀ A B H ω (i : Nat) x H', Wo g A B H ω → C A B H → i < items.length → J.yld i H x H' → ∃ d, items[i]? = some d ∧ Stp A B H A B H' ∧ Wo g A B H' ω ∧ Dp g A B H' x d
  stop : ∀ A B H (i : Nat), C A B H → items.length ≤ i → J.stop i H
abbrev Cnd := Ad → (Addr → Prop) → Hp → Prop
def stayM (C : Cnd) : Prop := ∀ A B H A' B' H', Mv A B H A' B' H' → C A B H → C A' B' H'
def stayS (C : Cnd) : Prop := ∀ A B H A' B' H', (∀ a, Liv A a → B a) → Stp A B H A' B' H' → C A B H → C A' B' H'
theorem stayS.of {C : Cnd} (h : stayM C) : stayS C := fun A B H A' B' H' l t c => h A B H A' B' H' (t.mv l) c
def ResI (g : G) (W : WX) (σ : St) (A : Ad) (B : Addr → Prop) (H : Hp) (stay : Cnd → Prop) (Q : It → Hp → Prop) : R (List D) → Prop
  | .val items ω' => ∀ J C A' B' H', Stp A B H A' B' H' → Wo g A' B' H' ω' → ItB g J items C → stay C → C A' B' H' → Q J H'
  | .exc x ω' => ∀ cls dd A' B' H', Stp A B H A' B' H' → Wo g A' B' H' ω' → XOk g A' B' H' cls dd x → W cls dd σ H'
def tI (g : G) (W : WX) (stay : Cnd → Prop) (f : M (List D)) : TI := fun σ H Q => ∃ H0 A B ρ ω r, Fm g H0 A B H ω σ ρ ∧ f ρ ω = some r ∧ ResI g W σ A B H stay Q r
section
variable {g : G} {W : WX} {A : Ad} {B : Addr → Prop} {H H0 : Hp} {ω : List Cell} {σ : St} {ρ : Rho}
theorem tI_bind {α β : Type} {rel : Rl β α} {f : M α} {k : α → M (List D)} {stay : Cnd → Prop} {Q : It → Hp → Prop} {r : R (List D)} (h : Fm g H0 A B H ω σ ρ) (e : (f.bind k) ρ ω = some r) (res : ResI g W σ A B H stay Q r) :
    tM g rel W f σ H (fun v H1 => ∃ A1 B1 ω1 a, Stp A B H A1 B1 H1 ∧ Fm g H0 A1 B1 H1 ω1 σ ρ ∧ rel g A1 B1 H1 v a ∧ k a ρ ω1 = some r) := by
  unfold M.bind at e
  cases q : f ρ ω with
  | none => rw [q] at e; cases e
  | some z =>
    rw [q] at e
    cases z with
    | exc x ω' =>
      cases e
      exact ⟨H0, A, B, ρ, ω, _, h, q, res⟩
    | val a ω' => exact ⟨H0, A, B, ρ, ω, _, h, q, fun v A1 B1 H1 t w rl => ⟨A1, B1, ω', a, t, h.up t w, rl, e⟩⟩
theorem itb_list {a : Addr} {vs : List V} {ds : List D} (C : Cnd) (hC : ∀ A B H, C A B H → SqL g.K H a vs ∧ DpL g A B H vs ds) : ItB g (Itl g.K a) ds C where
  go := fun A B H i c hi => by
    obtain ⟨hs, l⟩ := hC A B H c
    have hi' : i < vs.length := by rw [l.length]; exact hi
    exact ⟨vs, vs[i], hs, List.getElem?_eq_getElem hi'⟩
  yld := fun A B H ω i x H' w c _ y => by
    obtain ⟨hs, l⟩ := hC A B H c
    obtain ⟨rfl, y⟩ := y
    obtain ⟨d, e, hd⟩ := l.getV (y vs hs)
    exact ⟨d, e, .refl _ _ _, w, hd⟩
  stop := fun A B H i c hi => by
    obtain ⟨hs, l⟩ := hC A B H c
    exact ⟨vs, hs, by rw [l.length]; exact hi⟩
theorem itb_tup {a : Addr} {vs : List V} {ds : List D} (C : Cnd) (hC : ∀ A B H, C A B H → SqT g.K H a vs ∧ DpL g A B H vs ds) : ItB g (Itt g.K a) ds C where
  go := fun A B H i c hi => by
    obtain ⟨hs, l⟩ := hC A B H c
    have hi' : i < vs.length := by rw [l.length]; exact hi
    exact ⟨vs, vs[i], hs, List.getElem?_eq_getElem hi'⟩
  yld := fun A B H ω i x H' w c _ y => by
    obtain ⟨hs, l⟩ := hC A B H c
    obtain ⟨rfl, y⟩ := y
    obtain ⟨d, e, hd⟩ := l.getV (y vs hs)
    exact ⟨d, e, .refl _ _ _, w, hd⟩
  stop := fun A B H i c hi => by
    obtain ⟨hs, l⟩ := hC A B H c
    exact ⟨vs, hs, by rw [l.length]; exact hi⟩
def signs (x : Str) : List D := x.cps.toList.map fun c => D.str ⟨#[c]⟩
theorem itb_str {x : Str} : ItB g (Its x) (signs x) (fun _ _ _ => True) where
  go := fun A B H i _ hi => by show i < x.cps.size; simpa [signs] using hi
  yld := fun A B H ω i v H' w _ _ y => by
    obtain ⟨rfl, c, hc, rfl⟩ := y
    exact ⟨.str ⟨#[c]⟩, by simp [signs, hc], .refl _ _ _, w, .str _⟩
  stop := fun A B H i _ hi => by show x.cps.size ≤ i; simpa [signs] using hi
def rangeD (lo : Int) (n : Nat) : List D := (List.range n).map fun i => D.int (lo + (i : Nat))
theorem itb_range {lo : Int} {n : Nat} : ItB g (Itr lo n) (rangeD lo n) (fun _ _ _ => True) where
  go := fun A B H i _ hi => by show i < n; simpa [rangeD] using hi
  yld := fun A B H ω i v H' w _ hi y => by
    obtain ⟨rfl, rfl⟩ := y
    exact ⟨.int (lo + i), by have : i < n := by simpa [rangeD] using hi
                             simp [rangeD, this], .refl _ _ _, w, .int _⟩
  stop := fun A B H i _ hi => by show n ≤ i; simpa [rangeD] using hi
end
/-- a list, a tuple, a text, as it comes -/
def iAny (K : PySem.W.Frag) (tl : TE) : TI := fun σ H R => tl σ H fun x H1 => (∃ a, x = .ref a ∧ (∃ xs, SqL K H1 a xs) ∧ R (Itl K a) H1) ∨ (∃ a, x = .ref a ∧ (∃ xs, SqT K H1 a xs) ∧ R (Itt K a) H1) ∨ ∃ z, x = .str z ∧ R (Its z) H1
theorem pi_any {X : Cx} {tg l : Expr} {tl : TE} (hl : PE X l tl) : PI X tg l (iAny X.K tl) := by
  refine ⟨fun pins s σ H R I h => ?_⟩
  refine thn (hl.run pins s σ H _ I h) fun v s1 ⟨x, H1, I1, r1, q1⟩ => ?_
  rcases q1 with ⟨a, e, ⟨xs, hq⟩, q⟩ | ⟨a, e, ⟨xs, hq⟩, q⟩ | ⟨z, e, q⟩
  · subst e
    cases r1
    obtain ⟨its, rv, p, hz⟩ := I1.list hq
    refine wpAny_pyIter_list p.isList ?_
    refine ⟨s1.heap.objs.size, [s1.heap.objs.size], _, _, H1, rfl, I1.kept (t' := s1.toks) fun b o e => Heap.get?_push_of_some _ e, turn_list a _, ⟨_, Heap.get?_push_size _ rfl, rfl, rfl⟩, fun b hb => ?_, q⟩
    have e : b = s1.heap.objs.size := by simpa using hb
    subst e
    exact I1.fpOk (Nat.le_refl _) (I1.hok.fresh (Nat.le_refl _))
  · subst e
    cases r1
    obtain ⟨its, rv, p, hz⟩ := I1.tuple hq
    refine PySem.wpAny_pyIter_tuple (show s1.heap.IsTuple a its.toArray from p) ?_
    refine ⟨s1.heap.objs.size, [s1.heap.objs.size], _, _, H1, rfl, I1.kept (t' := s1.toks) fun b o e => Heap.get?_push_of_some _ e, turn_tuple a _, ⟨_, Heap.get?_push_size _ rfl, rfl, rfl⟩, fun b hb => ?_, q⟩
    have e : b = s1.heap.objs.size := by simpa using hb
    subst e
    exact I1.fpOk (Nat.le_refl _) (I1.hok.fresh (Nat.le_refl _))
  · subst e
    obtain ⟨t, rfl⟩ := r1
    cases ha : z.cps.all (· < 128)
    · exact wpAny_pyIter_wide ha (pi_one (tk := s1.toks) I1 _ (turn_str _ z t "str_iterator" (.inr rfl)) ⟨_, Heap.get?_push_size _ rfl, rfl, rfl⟩ q)
    · exact wpAny_pyIter_ascii ha (pi_one (tk := s1.toks) I1 _ (turn_str _ z t "str_ascii_iterator" (.inl rfl)) ⟨_, Heap.get?_push_size _ rfl, rfl, rfl⟩ q)
def itemsOf : D → M (List D) := fun d _ ω => match d with
  | .lst ds => some (.val ds ω)
  | .tup ds => some (.val ds ω)
  | .str x => some (.val (signs x) ω)
  | .scr ns => some (.val (ns.map D.int) ω)
  | _ => none
section
variable {X : Cx} {g : G} {W : WX} {tg e : Expr} {f : M D}
theorem di_data (hK : X.K = g.K) (he : PE X e (tM g rD W f)) : PI X tg e (tI g W stayM (f.bind itemsOf)) :=
  (pi_any he).dl fun σ H Q ⟨H0, A, B, ρ, ω, r, fm, e, res⟩ => by
    refine tM_mono (tI_bind fm e res) fun x H1 ⟨A1, B1, ω1, d1, t1, fm1, r1, e1⟩ => ?_
    rw [hK]
    cases r1 with
    | @lst a vs ds n h l =>
      cases e1
      refine .inl ⟨a, rfl, ⟨vs, SqL.of h⟩, res _ (fun A B H => ¬ B a ∧ H a = some (.lst vs) ∧ DpL g A B H vs ds) A1 B1 H1 t1 fm1.wo (itb_list _ fun A B H c => ⟨SqL.of c.2.1, c.2.2⟩) (fun A B H A' B' H' m c => ?_) ⟨n, h, l⟩⟩
      exact ⟨(m.cell a _ c.1 c.2.1).2, (m.cell a _ c.1 c.2.1).1, DpL.mv m _ _ c.2.2⟩
    | @tup a vs ds n h l =>
      cases e1
      refine .inr (.inl ⟨a, rfl, ⟨vs, SqT.of h⟩, res _ (fun A B H => ¬ B a ∧ H a = some (.tup vs) ∧ DpL g A B H vs ds) A1 B1 H1 t1 fm1.wo (itb_tup _ fun A B H c => ⟨SqT.of c.2.1, c.2.2⟩) (fun A B H A' B' H' m c => ?_) ⟨n, h, l⟩⟩)
      exact ⟨(m.cell a _ c.1 c.2.1).2, (m.cell a _ c.1 c.2.1).1, DpL.mv m _ _ c.2.2⟩
    | @tupK a vs ds h l =>
      cases e1
      exact .inr (.inl ⟨a, rfl, ⟨vs, .inr h⟩, res _ (fun A B H => DpL g A B H vs ds) A1 B1 H1 t1 fm1.wo (itb_tup _ fun A B H c => ⟨.inr h, c⟩) (fun A B H A' B' H' m c => DpL.mv m _ _ c) l⟩)
    | str x =>
      cases e1
      exact .inr (.inr ⟨x, rfl, res _ (fun _ _ _ => True) A1 B1 H1 t1 fm1.wo itb_str (fun _ _ _ _ _ _ _ _ => trivial) trivial⟩)
    | @scr a ns n h =>
      cases e1
      refine .inl ⟨a, rfl, ⟨_, .inl h⟩, res _ (fun A B H => ¬ B a ∧ Rd H a (.lst (ns.map V.int))) A1 B1 H1 t1 fm1.wo (itb_list _ fun A B H c => ⟨.inl c.2, DpL.ints ns⟩) (fun A B H A' B' H' m c => ?_) ⟨n, h⟩⟩
      obtain ⟨o, ho⟩ := Rd.some c.2
      exact ⟨(m.cell a o c.1 ho).2, Rd.up c.2 fun o ho => (m.cell a o c.1 ho).1⟩
    | @scrK a ns h =>
      cases e1
      exact .inl ⟨a, rfl, ⟨_, .inr h⟩, res _ (fun A B H => True) A1 B1 H1 t1 fm1.wo (itb_list _ fun A B H c => ⟨.inr h, DpL.ints ns⟩) (fun A B H A' B' H' m c => trivial) trivial⟩
    | _ => cases e1
/-- within a comprehension data and own lists are walked -/
theorem di_s {fs : M (List D)} (h : PI X tg e (tI g W stayM fs)) : PI X tg e (tI g W stayS fs) := h.dl fun σ H Q ⟨H0, A, B, ρ, ω, r, fm, e, res⟩ => ⟨H0, A, B, ρ, ω, r, fm, e, by
  cases r with
  | val items ω' => exact fun J C A' B' H' t w i s c => res J C A' B' H' t w i (.of s) c
  | exc x ω' => exact res⟩
theorem di_own (hK : X.K = g.K) (he : PE X e (tM g rW W f)) : PI X tg e (tI g W stayS (f.bind itemsOf)) :=
  (pi_any he).dl fun σ H Q ⟨H0, A, B, ρ, ω, r, fm, e, res⟩ => by
    refine tM_mono (tI_bind fm e res) fun x H1 ⟨A1, B1, ω1, d1, t1, fm1, r1, e1⟩ => ?_
    rw [hK]
    rcases r1 with r1 | ⟨p, vs, ds, rfl, rfl, hp, l, nl⟩
    · cases r1 with
      | @lst a vs ds n h l =>
        cases e1
        refine .inl ⟨a, rfl, ⟨vs, SqL.of h⟩, res _ (fun A B H => ¬ B a ∧ H a = some (.lst vs) ∧ DpL g A B H vs ds) A1 B1 H1 t1 fm1.wo (itb_list _ fun A B H c => ⟨SqL.of c.2.1, c.2.2⟩) (stayS.of fun A B H A' B' H' m c => ?_) ⟨n, h, l⟩⟩
        exact ⟨(m.cell a _ c.1 c.2.1).2, (m.cell a _ c.1 c.2.1).1, DpL.mv m _ _ c.2.2⟩
      | @tup a vs ds n h l =>
        cases e1
        refine .inr (.inl ⟨a, rfl, ⟨vs, SqT.of h⟩, res _ (fun A B H => ¬ B a ∧ H a = some (.tup vs) ∧ DpL g A B H vs ds) A1 B1 H1 t1 fm1.wo (itb_tup _ fun A B H c => ⟨SqT.of c.2.1, c.2.2⟩) (stayS.of fun A B H A' B' H' m c => ?_) ⟨n, h, l⟩⟩)
        exact ⟨(m.cell a _ c.1 c.2.1).2, (m.cell a _ c.1 c.2.1).1, DpL.mv m _ _ c.2.2⟩
      | @tupK a vs ds h l =>
        cases e1
        exact .inr (.inl ⟨a, rfl, ⟨vs, .inr h⟩, res _ (fun A B H => DpL g A B H vs ds) A1 B1 H1 t1 fm1.wo (itb_tup _ fun A B H c => ⟨.inr h, c⟩) (stayS.of fun A B H A' B' H' m c => DpL.mv m _ _ c) l⟩)
      | str x =>
        cases e1
        exact .inr (.inr ⟨x, rfl, res _ (fun _ _ _ => True) A1 B1 H1 t1 fm1.wo itb_str (fun _ _ _ _ _ _ _ _ _ => trivial) trivial⟩)
      | @scr a ns n h =>
        cases e1
        refine .inl ⟨a, rfl, ⟨_, .inl h⟩, res _ (fun A B H => ¬ B a ∧ Rd H a (.lst (ns.map V.int))) A1 B1 H1 t1 fm1.wo (itb_list _ fun A B H c => ⟨.inl c.2, DpL.ints ns⟩) (stayS.of fun A B H A' B' H' m c => ?_) ⟨n, h⟩⟩
        obtain ⟨o, ho⟩ := Rd.some c.2
        exact ⟨(m.cell a o c.1 ho).2, Rd.up c.2 fun o ho => (m.cell a o c.1 ho).1⟩
      | @scrK a ns h =>
        cases e1
        exact .inl ⟨a, rfl, ⟨_, .inr h⟩, res _ (fun A B H => True) A1 B1 H1 t1 fm1.wo (itb_list _ fun A B H c => ⟨.inr h, DpL.ints ns⟩) (stayS.of fun A B H A' B' H' m c => trivial) trivial⟩
      | _ => cases e1
    · cases e1
      refine .inl ⟨p, rfl, ⟨vs, SqL.of hp⟩, res _ (fun A B H => ¬ Liv A p ∧ H p = some (.lst vs) ∧ DpL g A B H vs ds) A1 B1 H1 t1 fm1.wo (itb_list _ fun A B H c => ⟨SqL.of c.2.1, c.2.2⟩) (fun A B H A' B' H' hl t c => ?_) ⟨nl, hp, l⟩⟩
      refine ⟨fun z => ?_, t.keep p _ c.2.1 c.1, DpL.mv (t.mv hl) _ _ c.2.2⟩
      rcases t.new p z with z | z
      · exact c.1 z
      · have c2 : H p = some (.lst vs) := c.2.1
        rw [z] at c2; cases c2
/-- range(n), range(a, b) -/
def rng1 (d : D) : M (List D) := fun _ ω => match d with
  | .int j => if -(2 ^ 62) ≤ j ∧ j < 2 ^ 62 then some (.val (rangeD 0 j.toNat) ω) else none
  | _ => none
def rng2 (d d' : D) : M (List D) := fun _ ω => match d, d' with
  | .int i, .int j => if -(2 ^ 62) ≤ i ∧ i < 2 ^ 62 ∧ -(2 ^ 62) ≤ j ∧ j < 2 ^ 62 then some (.val (rangeD i (j - i).toNat) ω) else none
  | _, _ => none
theorem di_range1 {p pos : Pos} (hg : Gl X "range") (hm : X.mg "range" = none) (he : PE X e (tM g rD W f)) (hs : starEach [e] X.env = [(false, eval e X.env)] := by rfl) (hst : starEach [e] X.env = (false, eval e X.env) :: starEach [] X.env := by rfl) : PI X tg (.Call (.Name "range" p) [e] [] pos) (tI g W stayM (f.bind rng1)) :=
  (pi_range1 hg hm (pa_cons he pa_nil hst) hs).dl fun σ H Q ⟨H0, A, B, ρ, ω, r, fm, e, res⟩ => by
    refine tM_mono (tI_bind fm e res) fun x H1 ⟨A1, B1, ω1, d1, t1, fm1, r1, e1⟩ => ?_
    cases d1 with
    | int j =>
      simp only [rng1] at e1
      split at e1
      · rename_i h
        cases e1
        cases r1
        exact ⟨j, rfl, h.1, h.2, res _ (fun _ _ _ => True) A1 B1 H1 t1 fm1.wo itb_range (fun _ _ _ _ _ _ _ _ => trivial) trivial⟩
      · cases e1
    | _ => cases e1
theorem di_range2 {e2 : Expr} {f2 : M D} {p pos : Pos} (hg : Gl X "range") (hm : X.mg "range" = none) (he : PE X e (tM g rD W f)) (he2 : PE X e2 (tM g rD W f2)) (hs : starEach [e, e2] X.env = [(false, eval e X.env), (false, eval e2 X.env)] := by rfl) (hs2 : starEach [e2] X.env = [(false, eval e2 X.env)] := by rfl)
    (hst : starEach [e, e2] X.env = (false, eval e X.env) :: starEach [e2] X.env := by rfl) (hst2 : starEach [e2] X.env = (false, eval e2 X.env) :: starEach [] X.env := by rfl) : PI X tg (.Call (.Name "range" p) [e, e2] [] pos) (tI g W stayM (f.bind fun d => f2.bind fun d' => rng2 d d')) :=
  (pi_range2 hg hm (pa_cons he (pa_cons he2 pa_nil hst2) hst) hs hs2).dl fun σ H Q ⟨H0, A, B, ρ, ω, r, fm, e, res⟩ => by
    refine tM_mono (tI_bind fm e res) fun x H1 ⟨A1, B1, ω1, d1, t1, fm1, r1, e1⟩ => ?_
    have res1 : ResI g W σ A1 B1 H1 stayM Q r := by
      cases r with
      | val items ω' => exact fun J C A' B' H' t => res J C A' B' H' (t1.trans t)
      | exc x ω' => exact fun cls dd A' B' H' t => res cls dd A' B' H' (t1.trans t)
    refine tM_mono (tI_bind fm1 e1 res1) fun y H2 ⟨A2, B2, ω2, d2, t2, fm2, r2, e2⟩ => ?_
    cases d1 with
    | int i =>
      cases d2 with
      | int j =>
        simp only [rng2] at e2
        split at e2
        · rename_i h
          cases e2
          cases r1
          cases r2
          exact ⟨i, j, rfl, h, res1 _ (fun _ _ _ => True) A2 B2 H2 t2 fm2.wo itb_range (fun _ _ _ _ _ _ _ _ => trivial) trivial⟩
        · cases e2
      | _ => cases e2
    | _ => cases e2
end

/-! ### for -/
def forGo (T : TT1) (F : MS) : List D → MS
  | [] => fun ρ ω => some (.nx ρ ω)
  | d :: ds => fun ρ ω => match T d ρ ω with
    | none => none
    | some ρ1 => match F ρ1 ω with
      | some (.nx ρ2 ω2) => forGo T F ds ρ2 ω2
      | some (.ct ρ2 ω2) => forGo T F ds ρ2 ω2
      | some (.bk ρ2 ω2) => some (.bk ρ2 ω2)
      | r => r
/-- a break ends the loop -/
def unbk : Option RS → Option RS
  | some (.bk ρ ω) => some (.nx ρ ω)
  | r => r
def forS (src : M (List D)) (T : TT1) (F : MS) : MS := bindS src fun items ρ ω => unbk (forGo T F items ρ ω)
/-- for .. else: the else is run where no break came -/
def forE (src : M (List D)) (T : TT1) (F K : MS) : MS := bindS src fun items ρ ω => match forGo T F items ρ ω with
  | some (.nx ρ' ω') => K ρ' ω'
  | some (.bk ρ' ω') => some (.nx ρ' ω')
  | r => r
section
variable {X : Cx} {g : G} {n : En} {W : WX} {tg iter : Expr} {body orelse : List Stmt} {src : M (List D)} {T : TT1} {is : List Nat} {F K : MS} {pos : Pos}
theorem drop_cons {α : Type} : ∀ {l : List α} {i : Nat} {d : α}, l[i]? = some d → l.drop i = d :: l.drop (i + 1)
  | [], _, _, h => by simp at h
  | a :: l, 0, d, h => by simp at h; simp [h]
  | a :: l, i + 1, d, h => by
    have := drop_cons (l := l) (i := i) (d := d) (by simpa using h)
    simpa using this
/-- the turns of a loop -/
theorem tFor_go {J : It} {items : List D} {C : Cnd} {D : Ends} {u : St → Hp → Prop} {A : Ad} {B : Addr → Prop} {H : Hp} {σ : St} {ρ : Rho} {ω : List Cell} {r0 : RS} (ib : ItB g J items C) (hC : stayM C) (hCS : stayS C)
    (st : Stp n.A n.B n.H A B H) (fm : Fm g n.H A B H ω σ ρ) (c : C A B H) (e : forGo T F items ρ ω = some r0) (res : ResS g n W A B H { D with nx := u, bk := D.nx } r0) :
    ∃ Wi : Nat → Nat → St → Hp → Prop, (∃ m, Wi 0 m σ H) ∧ ∀ i m σ H, Wi i m σ H →
      (J.stop i H ∧ u σ H) ∨ (J.go i H ∧ ∃ N : St → Hp → Prop, (∀ σ' H', N σ' H' → ∃ m', m' < m ∧ Wi (i + 1) m' σ' H') ∧ ∀ x H', J.yld i H x H' → tGM g is T x σ H' fun σ2 H2 => tS g n W F { D with nx := N, ct := N, bk := D.nx } σ2 H2) := by
  refine ⟨fun i m σ H => m = items.length - i ∧ i ≤ items.length ∧ ∃ A B ρ ω, Stp n.A n.B n.H A B H ∧ Fm g n.H A B H ω σ ρ ∧ C A B H ∧ forGo T F (items.drop i) ρ ω = some r0 ∧ ResS g n W A B H { D with nx := u, bk := D.nx } r0, ⟨_, rfl, Nat.zero_le _, A, B, ρ, ω, st, fm, c, e, res⟩, ?_⟩
  rintro i m σ H ⟨rfl, hi, A, B, ρ, ω, st, fm, c, e, res⟩
  by_cases hlt : i < items.length
  · refine .inr ⟨ib.go A B H i c hlt, fun σ' H' => ∃ A B ρ ω, Stp n.A n.B n.H A B H' ∧ Fm g n.H A B H' ω σ' ρ ∧ C A B H' ∧ forGo T F (items.drop (i + 1)) ρ ω = some r0 ∧ ResS g n W A B H' { D with nx := u, bk := D.nx } r0, fun σ' H' p => ⟨_, by omega, rfl, hlt, p⟩, fun x H' y => ?_⟩
    obtain ⟨d, hd, t, w, dp⟩ := ib.yld A B H ω i x H' fm.wo c hlt y
    rw [drop_cons hd] at e
    unfold forGo at e
    cases qT : T d ρ ω with
    | none => simp only [qT] at e; cases e
    | some ρ1 =>
      simp only [qT] at e
      refine ⟨n.H, A, B, ρ, ω, d, ρ1, fm.up t w, dp, qT, fun σ2 fm2 _ => ?_⟩
      have c' : C A B H' := hCS A B H A B H' fm.wo.liv t c
      have m' : Mv A B H A B H' := fm.wo.mv t
      cases qF : F ρ1 ω with
      | none => simp only [qF] at e; cases e
      | some r =>
        simp only [qF] at e
        refine ⟨A, B, ρ1, ω, r, st.trans t, fm2, qF, ?_⟩
        cases r with
        | nx ρ2 ω2 => exact fun σ' A' B' H'' m s' fm' => ⟨A', B', ρ2, ω2, s', fm', hC _ _ _ _ _ _ m c', e, (res.mv m').mv m⟩
        | ct ρ2 ω2 => exact fun σ' A' B' H'' m s' fm' => ⟨A', B', ρ2, ω2, s', fm', hC _ _ _ _ _ _ m c', e, (res.mv m').mv m⟩
        | bk ρ2 ω2 => cases e; exact res.mv m'
        | rt d' ω2 => cases e; exact res
        | exc x' ρ2 ω2 => cases e; exact res.mv m'
  · have ei : i = items.length := by omega
    subst ei
    rw [List.drop_length] at e
    cases e
    exact .inl ⟨ib.stop A B H _ c (Nat.le_refl _), res.next (.refl _ _ _) st fm⟩
theorem tI_bindS {k : List D → MS} {D : Ends} {stay : Cnd → Prop} {A : Ad} {B : Addr → Prop} {H : Hp} {σ : St} {ρ : Rho} {ω : List Cell} {r : RS} (st : Stp n.A n.B n.H A B H) (fm : Fm g n.H A B H ω σ ρ) (e : bindS src k ρ ω = some r) (res : ResS g n W A B H D r) :
    tI g W stay src σ H (fun J H1 => ∃ A1 B1 ω1 items C, Mv A B H A1 B1 H1 ∧ Stp n.A n.B n.H A1 B1 H1 ∧ Fm g n.H A1 B1 H1 ω1 σ ρ ∧ ItB g J items C ∧ stay C ∧ C A1 B1 H1 ∧ k items ρ ω1 = some r ∧ ResS g n W A1 B1 H1 D r) := by
  unfold bindS at e
  cases q : src ρ ω with
  | none => rw [q] at e; cases e
  | some z =>
    rw [q] at e
    cases z with
    | exc x ω' =>
      cases e
      exact ⟨n.H, A, B, ρ, ω, _, fm, q, fun cls dd A' B' H' t w x => res cls dd σ A' B' H' (fm.wo.mv t) (st.trans t) (fm.up t w) x⟩
    | val items ω' => exact ⟨n.H, A, B, ρ, ω, _, fm, q, fun J C A1 B1 H1 t w ib s c => ⟨A1, B1, ω', items, C, fm.wo.mv t, st.trans t, fm.up t w, ib, s, c, e, res.mv (fm.wo.mv t)⟩⟩
theorem tI_mono {stay : Cnd → Prop} {σ : St} {H : Hp} {Q Q' : It → Hp → Prop} (h : tI g W stay src σ H Q) (i : ∀ J H', Q J H' → Q' J H') : tI g W stay src σ H Q' := by
  obtain ⟨H0, A, B, ρ, ω, r, fm, e, res⟩ := h
  refine ⟨H0, A, B, ρ, ω, r, fm, e, ?_⟩
  cases r with
  | val a ω' => exact fun J C A' B' H' t w ib s c => i J H' (res J C A' B' H' t w ib s c)
  | exc x ω' => exact res
theorem ds_for (hp : PassesOwn (model X.prog X.w) X.A X.env X.xe) (hc : X.calm = true) (hi : PI X tg iter (tI g W stayM src)) (hg : PG X tg (tGM g is T)) (hb : PSs X body (tS g n W F))
    (hs : ∀ x, foldedSetIterable iter X.env x = pure x := by intro _; rfl) : PS X (.For tg iter body [] pos) (tS g n W (forS src T F)) :=
  (ps_for hp hc hi hg hb hs).dl fun D σ H ⟨A, B, ρ, ω, r, s, fm, e, res⟩ => by
    refine tI_mono (tI_bindS s fm e res) fun J H1 ⟨A1, B1, ω1, items, C, m1, s1, fm1, ib, hC, c, e1, res1⟩ => ?_
    cases q : forGo T F items ρ ω1 with
    | none => simp only [q] at e1; cases e1
    | some r0 =>
      simp only [q] at e1
      refine tFor_go ib hC (.of hC) s1 fm1 c q ?_
      cases r0 with
      | nx ρ' ω' => cases e1; exact res1
      | bk ρ' ω' => cases e1; exact res1
      | ct ρ' ω' => cases e1; exact res1
      | rt d ω' => cases e1; exact res1
      | exc x ρ' ω' => cases e1; exact res1
theorem ds_forE (hp : PassesOwn (model X.prog X.w) X.A X.env X.xe) (hc : X.calm = true) (hi : PI X tg iter (tI g W stayM src)) (hg : PG X tg (tGM g is T)) (hb : PSs X body (tS g n W F)) (ho : PSs X orelse (tS g n W K))
    (hs : ∀ x, foldedSetIterable iter X.env x = pure x := by intro _; rfl) : PS X (.For tg iter body orelse pos) (tS g n W (forE src T F K)) :=
  (ps_forE hp hc hi hg hb ho hs).dl fun D σ H ⟨A, B, ρ, ω, r, s, fm, e, res⟩ => by
    refine tI_mono (tI_bindS s fm e res) fun J H1 ⟨A1, B1, ω1, items, C, m1, s1, fm1, ib, hC, c, e1, res1⟩ => ?_
    cases q : forGo T F items ρ ω1 with
    | none => simp only [q] at e1; cases e1
    | some r0 =>
      simp only [q] at e1
      refine tFor_go (D := D) (u := tS g n W K D) ib hC (.of hC) s1 fm1 c q ?_
      cases r0 with
      | nx ρ' ω' => exact fun σ' A' B' H' m s' fm' => ⟨A', B', ρ', ω', r, s', fm', e1, res1.mv m⟩
      | bk ρ' ω' => cases e1; exact res1
      | ct ρ' ω' => cases e1; exact res1
      | rt d ω' => cases e1; exact res1
      | exc x ρ' ω' => cases e1; exact res1
end

/-! ### while -/
def whileGo (t : M Bool) (F : MS) : Nat → MS
  | 0 => fun _ _ => none
  | k + 1 => fun ρ ω => match t ρ ω with
    | none => none
    | some (.exc x ω') => some (.exc x ρ ω')
    | some (.val false ω') => some (.nx ρ ω')
    | some (.val true ω') => match F ρ ω' with
      | some (.nx ρ2 ω2) => whileGo t F k ρ2 ω2
      | some (.ct ρ2 ω2) => whileGo t F k ρ2 ω2
      | some (.bk ρ2 ω2) => some (.nx ρ2 ω2)
      | r => r
section
variable {X : Cx} {g : G} {n : En} {W : WX} {c : Expr} {body : List Stmt} {t : M Bool} {F : MS} {pos : Pos}
theorem ds_while (k : Nat) (hp : PassesOwn (model X.prog X.w) X.A X.env X.xe) (hc : PT X c (tM g rB W t)) (hb : PSs X body (tS g n W F)) : PS X (.While c body [] pos) (tS g n W (whileGo t F k)) :=
  (ps_while hp hc hb).dl fun D σ H ⟨A, B, ρ, ω, r0, s, fm, e, res⟩ => by
    refine ⟨fun m σ H => ∃ A B ρ ω, Stp n.A n.B n.H A B H ∧ Fm g n.H A B H ω σ ρ ∧ whileGo t F m ρ ω = some r0 ∧ ResS g n W A B H D r0, ⟨k, A, B, ρ, ω, s, fm, e, res⟩, ?_⟩
    rintro m σ H ⟨A, B, ρ, ω, s, fm, e, res⟩
    cases m with
    | zero => cases e
    | succ k =>
      unfold whileGo at e
      cases q : t ρ ω with
      | none => simp only [q] at e; cases e
      | some z =>
        cases z with
        | exc x ω' =>
          simp only [q] at e
          cases e
          exact ⟨n.H, A, B, ρ, ω, _, fm, q, fun cls dd A' B' H' t w x => res cls dd σ A' B' H' (fm.wo.mv t) (s.trans t) (fm.up t w) x⟩
        | val b ω' =>
          refine ⟨n.H, A, B, ρ, ω, _, fm, q, fun v A1 B1 H1 t1 w1 rl => ?_⟩
          cases rl
          have m1 := fm.wo.mv t1
          have fm1 := fm.up t1 w1
          have s1 := s.trans t1
          cases b with
          | false =>
            rw [if_neg Bool.false_ne_true]
            simp only [q] at e
            cases e
            exact res.next m1 s1 fm1
          | true =>
            rw [if_pos rfl]
            simp only [q] at e
            refine ⟨fun σ' H' => ∃ A B ρ ω, Stp n.A n.B n.H A B H' ∧ Fm g n.H A B H' ω σ' ρ ∧ whileGo t F k ρ ω = some r0 ∧ ResS g n W A B H' D r0, fun σ' H' p => ⟨k, Nat.lt_succ_self _, p⟩, ?_⟩
            cases qF : F ρ ω' with
            | none => simp only [qF] at e; cases e
            | some r =>
              simp only [qF] at e
              refine ⟨A1, B1, ρ, ω', r, s1, fm1, qF, ?_⟩
              cases r with
              | nx ρ2 ω2 => exact fun σ' A' B' H'' m s' fm' => ⟨A', B', ρ2, ω2, s', fm', e, (res.mv m1).mv m⟩
              | ct ρ2 ω2 => exact fun σ' A' B' H'' m s' fm' => ⟨A', B', ρ2, ω2, s', fm', e, (res.mv m1).mv m⟩
              | bk ρ2 ω2 => cases e; exact res.mv m1
              | rt d' ω2 => cases e; exact res
              | exc x' ρ2 ω2 => cases e; exact res.mv m1
end
end DL
/-! DL7: comprehensions, defs, calls. -/
namespace DL
open PySem L2

/-! ### comprehensions -/
def wipeE (ρ : Rho) : List Nat → Rho
  | [] => ρ
  | v :: vs => (wipeE ρ vs).set v .no
def lcGo (vs : List Nat) (T : TT1) (t : M Bool) (f : M D) (ρ : Rho) : List D → List D → List Cell → Option (List D × List Cell)
  | [], acc, ω => some (acc, ω)
  | d :: ds, acc, ω => match T d (wipeE ρ vs) ω with
    | none => none
    | some ρ2 => match t ρ2 ω with
      | some (.val true ω1) => match f ρ2 ω1 with
        | some (.val y ω2) => if acc.length < sizeLine then lcGo vs T t f ρ ds (acc ++ [y]) ω2 else none
        | _ => none
      | some (.val false ω1) => lcGo vs T t f ρ ds acc ω1
      | _ => none
def lcM (vs : List Nat) (src : M (List D)) (T : TT1) (t : M Bool) (f : M D) : M (List D) := src.bind fun items ρ ω => match lcGo vs T t f ρ items [] ω with
  | some (ds, ω') => some (.val ds ω')
  | none => none
abbrev W0 : WX := fun _ _ _ _ => False
section
variable {g : G} {W : WX} {A A' : Ad} {B B' : Addr → Prop} {H H' H0 : Hp} {ω ω' : List Cell} {σ : St} {ρ : Rho}
theorem Slots.wipe (h : Slots g H0 A B H σ ρ) : ∀ vs : List Nat, Slots g H0 A B H (L2.wipe σ vs) (wipeE ρ vs)
  | [] => h
  | v :: vs => (h.wipe vs).drop
/-- a thing in B that is no slot's own changes -/
theorem Fm.bump {p : Addr} {o : HO} (h : Fm g H0 A B H ω σ ρ) (hb : B p) (nl : ¬ Liv A p) (no : ∀ (i : Nat) (ds : List D), ρ[i]? = some (.ow ds) → σ[i]? ≠ some (some (.ref p))) (hz : ∀ o u, H p ≠ some (.frz o u)) :
    Fm g H0 A B (upd H p o) ω σ ρ ∧ Mv A B H A B (upd H p o) := by
  have m : Mv A B H A B (upd H p o) := ⟨fun a u na e => ⟨by rw [upd_ne (fun z => na (by rw [z]; exact hb))]; exact e, na⟩, fun _ _ h => .inl h, frz_upd hz⟩
  refine ⟨⟨⟨h.wo.len, h.wo.inj, h.wo.liv, fun a ha => ?_, fun k c e => ?_⟩, ⟨h.sl.len, fun j s e => ?_, h.sl.own⟩⟩, m⟩
  · by_cases z : a = p
    · exact ⟨_, by rw [z]; exact upd_same⟩
    · obtain ⟨o, e⟩ := h.wo.bnd a ha
      exact ⟨o, by rw [upd_ne z]; exact e⟩
  · rcases h.wo.cell k c e with z | ⟨a, h1, h2⟩
    · exact .inl z
    · exact .inr ⟨a, h1, h2.mv m fun o q => by rw [upd_ne (fun z => nl (by rw [← z]; exact Liv.of h1))]; exact q⟩
  · have := h.sl.val j s e
    cases s with
    | no => trivial
    | ex p y => exact ⟨this.1, this.2.mv m⟩
    | fz d =>
      obtain ⟨v, e1, e2⟩ := this
      exact ⟨v, e1, Dp.mv m _ _ e2⟩
    | ow es =>
      obtain ⟨q, ws, e1, e2, e3, e4, e5, e6⟩ := this
      have npq : q ≠ p := fun z => no j es e (by rw [← z]; exact e1)
      exact ⟨q, ws, e1, by rw [upd_ne npq]; exact e2, DpL.mv m _ _ e3, e4, e5, e6⟩
/-- tests and elements as they are -/
theorem tM_val {α β : Type} {rel : Rl β α} {f : M α} {a : α} {Q : β → Hp → Prop} (fm : Fm g H0 A B H ω σ ρ) (e : f ρ ω = some (.val a ω')) (q : ∀ v A' B' H', Stp A B H A' B' H' → Wo g A' B' H' ω' → rel g A' B' H' v a → Q v H') : tM g rel W f σ H Q := ⟨H0, A, B, ρ, ω, _, fm, e, q⟩
theorem tLc_of {src : M (List D)} {T : TT1} {t : M Bool} {f : M D} {is vs : List Nat} (hv : ∀ i ∈ is, i ∈ vs) : ∀ σ H Q, tN g W (lcM vs src T t f) σ H Q → tLc (tI g W stayS src) (tGM g is T) (tM g rB W0 t) (tM g rD W0 f) vs σ H Q := by
  rintro σ H Q ⟨H0, A, B, ρ, ω, r, fm, e, res⟩
  unfold lcM M.bind at e
  cases q : src ρ ω with
  | none => rw [q] at e; cases e
  | some z =>
    rw [q] at e
    cases z with
    | exc x ω' =>
      cases e
      exact ⟨H0, A, B, ρ, ω, _, fm, q, res⟩
    | val items ω1 =>
      refine ⟨H0, A, B, ρ, ω, _, fm, q, fun J C A1 B1 H1 t1 w1 ib hC c => ?_⟩
      intro L hL
      simp only at e
      cases q2 : lcGo vs T t f ρ items [] ω1 with
      | none => simp only [q2] at e; cases e
      | some z =>
        obtain ⟨out, ω9⟩ := z
        simp only [q2] at e
        cases e
        have fm1 := fm.up t1 w1
        have hL0 : H L = none := t1.none hL
        have no : ∀ (i : Nat) (ds : List D), ρ[i]? = some (.ow ds) → σ[i]? ≠ some (some (.ref L)) := fun i ds ei z => by
          obtain ⟨p, ws, e1, e2, _⟩ := fm.sl.val i _ ei
          rw [z] at e1
          cases e1
          rw [hL0] at e2; cases e2
        refine ⟨fun i m H' => m = items.length - i ∧ i ≤ items.length ∧ ∃ A' B' ω' acc ws, Stp A1 B1 H1 A' B' H' ∧ Fm g H0 A' B' H' ω' σ ρ ∧ H' L = some (.lst ws) ∧ DpL g A' B' H' ws acc ∧ B' L ∧ ¬ Liv A' L ∧ lcGo vs T t f ρ (items.drop i) acc ω' = some (out, ω9),
          ⟨_, rfl, Nat.zero_le _, A1, _, ω1, [], [], (Stp.refl A1 B1 H1).alloc hL, fm1.up ((Stp.refl A1 B1 H1).alloc hL) (w1.plus hL), upd_same, .nil, .inr rfl, fun z => w1.nb hL (w1.liv L z), q2⟩, ?_⟩
        rintro i m H' ⟨rfl, hi, A', B', ω', acc, ws, s', fm', hLs, l, hb, nl, e⟩
        have c' : C A' B' H' := hC _ _ _ _ _ _ w1.liv s' c
        by_cases hlt : i < items.length
        · refine .inr ⟨ib.go A' B' H' i c' hlt, fun H' => ∃ A' B' ω' acc ws, Stp A1 B1 H1 A' B' H' ∧ Fm g H0 A' B' H' ω' σ ρ ∧ H' L = some (.lst ws) ∧ DpL g A' B' H' ws acc ∧ B' L ∧ ¬ Liv A' L ∧ lcGo vs T t f ρ (items.drop (i + 1)) acc ω' = some (out, ω9), fun H' p => ⟨_, by omega, rfl, hlt, p⟩, fun x H2 y => ?_⟩
          obtain ⟨d, hd, t2, w2, dp⟩ := ib.yld A' B' H' ω' i x H2 fm'.wo c' hlt y
          rw [drop_cons hd] at e
          unfold lcGo at e
          have fm2 := fm'.up t2 w2
          cases qT : T d (wipeE ρ vs) ω' with
          | none => simp only [qT] at e; cases e
          | some ρ2 =>
            simp only [qT] at e
            refine ⟨H0, A', B', wipeE ρ vs, ω', d, ρ2, ⟨fm2.wo, fm2.sl.wipe vs⟩, dp, qT, fun σ2 fm3 so => ⟨?_, ?_⟩⟩
            · rw [so.wipe hv]
              apply List.ext_getElem?
              intro j
              by_cases hj : j ∈ vs
              · rw [wipe_in hj, wipe_in hj, wipe_length]
              · rw [wipe_notin hj]
            cases qt : t ρ2 ω' with
            | none => simp only [qt] at e; cases e
            | some z =>
              cases z with
              | exc x ω5 => simp only [qt] at e; cases e
              | val b ω3 =>
                refine tM_val fm3 qt fun v A3 B3 H3 t3 w3 rl => ?_
                cases rl
                have fm4 := fm2.up t3 w3
                have fm4' := fm3.up t3 w3
                have hL3 : H3 L = some (.lst ws) := t3.keep L _ (t2.keep L _ hLs nl) nl
                have nl3 : ¬ Liv A3 L := fun z => by
                  rcases t3.new L z with z | z
                  · exact nl z
                  · rw [t2.keep L _ hLs nl] at z; cases z
                have hb3 : B3 L := (t3.old L _ (t2.keep L _ hLs nl) nl).mpr hb
                have l3 : DpL g A3 B3 H3 ws acc := DpL.mv (fm2.wo.mv t3) _ _ (DpL.mv (fm'.wo.mv t2) _ _ l)
                have s3 := (s'.trans t2).trans t3
                cases b with
                | false =>
                  rw [if_neg Bool.false_ne_true]
                  simp only [qt] at e
                  exact ⟨A3, B3, ω3, acc, ws, s3, fm4, hL3, l3, hb3, nl3, e⟩
                | true =>
                  rw [if_pos rfl]
                  simp only [qt] at e
                  cases qf : f ρ2 ω3 with
                  | none => simp only [qf] at e; cases e
                  | some z =>
                    cases z with
                    | exc x ω5 => simp only [qf] at e; cases e
                    | val y' ω5 =>
                      simp only [qf] at e
                      refine tM_val fm4' qf fun v A5 B5 H5 t5 w5 rl => ?_
                      split at e
                      · rename_i hz
                        have hL5 : H5 L = some (.lst ws) := t5.keep L _ hL3 nl3
                        have nl5 : ¬ Liv A5 L := fun z => by
                          rcases t5.new L z with z | z
                          · exact nl3 z
                          · rw [hL3] at z; cases z
                        have hb5 : B5 L := (t5.old L _ hL3 nl3).mpr hb3
                        have l5 : DpL g A5 B5 H5 ws acc := DpL.mv (fm4.wo.mv t5) _ _ l3
                        obtain ⟨fm6, m6⟩ := (fm4.up t5 w5).bump (o := .lst (ws ++ [v])) hb5 nl5 no (frz_not hL5)
                        refine ⟨ws, hL5, by rw [l5.length]; exact hz, A5, B5, ω5, acc ++ [y'], ws ++ [v], (s3.trans t5).own hL nl5, fm6, upd_same, DpL.mv m6 _ _ (l5.append (.cons rl .nil)), hb5, nl5, e⟩
                      · cases e
        · have ei : i = items.length := by omega
          subst ei
          rw [List.drop_length] at e
          cases e
          exact .inl ⟨ib.stop A' B' H' _ c' (Nat.le_refl _), res L ws A' B' H' (t1.trans s') fm'.wo hLs l hb nl hL0⟩
end
section
variable {X : Cx} {g : G} {n : En} {W : WX} {elt tg iter : Expr} {ifs : List Expr} {scope : Scope} {own : List (Str × Nat)} {src : M (List D)} {T : TT1} {t : M Bool} {f : M D} {is : List Nat} {pos spos py : Pos} {i : Nat} {y : Str}
theorem dts_nil : PTs X [] (tM g rB W (M.pure true)) := pts_nil.dl fun σ H Q ⟨H0, A, B, ρ, ω, r, fm, e, res⟩ => tM_pureB fm e res
theorem dts_one {c : Expr} (h : PT X c (tM g rB W t)) : PTs X [c] (tM g rB W t) := pts_one h
theorem dn_lc (hc : X.calm = true) (hN : X.N.Nodup) (hi : PI X tg iter (tI g W stayS src)) (ok : BlkOk X.N X.env.scope scope own) (hv : ∀ i ∈ is, i ∈ own.map (·.2))
    (hg : ∀ (s : Shared) (H : Hp) (C : Addr) (cl : List (Str × Addr)) (fp : List Addr), PG (X.blk s H scope (compEnvC scope cl C X.env) fp) tg (tGM g is T))
    (ht : ∀ (s : Shared) (H : Hp) (C : Addr) (cl : List (Str × Addr)) (fp : List Addr), PTs (X.blk s H scope (compEnvC scope cl C X.env) fp) ifs (tM g rB W0 t))
    (he : ∀ (s : Shared) (H : Hp) (C : Addr) (cl : List (Str × Addr)) (fp : List Addr), PE (X.blk s H scope (compEnvC scope cl C X.env) fp) elt (tM g rD W0 f)) (hs : ∀ x, foldedSetIterable iter X.env x = pure x := by intro _; rfl) :
    PE X (.ListComp elt [⟨tg, iter, ifs, 0⟩] scope pos) (tN g W (lcM (own.map (·.2)) src T t f)) :=
  (pe_lc hc hN hi ok hg ht he hs).dl (tLc_of hv)
theorem ds_setLcO (hc : X.calm = true) (hN : X.N.Nodup) (hy : X.N[i]? = some y) (hyl : X.env.scope.names.lookup y = some .local) (hsw : swapsWith (.ListComp elt [⟨tg, iter, ifs, 0⟩] scope pos) (some (.Name y py)) spos.line X.env = pure true)
    (hi : PI X tg iter (tI g W stayS src)) (ok : BlkOk X.N X.env.scope scope own) (hv : ∀ i ∈ is, i ∈ own.map (·.2))
    (hg : ∀ (s : Shared) (H : Hp) (C : Addr) (cl : List (Str × Addr)) (fp : List Addr), PG (X.blk s H scope (compEnvC scope cl C X.env) fp) tg (tGM g is T))
    (ht : ∀ (s : Shared) (H : Hp) (C : Addr) (cl : List (Str × Addr)) (fp : List Addr), PTs (X.blk s H scope (compEnvC scope cl C X.env) fp) ifs (tM g rB W0 t))
    (he : ∀ (s : Shared) (H : Hp) (C : Addr) (cl : List (Str × Addr)) (fp : List Addr), PE (X.blk s H scope (compEnvC scope cl C X.env) fp) elt (tM g rD W0 f)) (hs : ∀ x, foldedSetIterable iter X.env x = pure x := by intro _; rfl) :
    PS X (.Assign [.Name y py] (.ListComp elt [⟨tg, iter, ifs, 0⟩] scope pos) spos) (tS g n W (setO i (lcM (own.map (·.2)) src T t f))) :=
  (ps_setLc hc hN hy hyl hsw hi ok hg ht he hs).dl fun D σ H h => tLc_of hv σ H _ (tN_setO h)
theorem ds_setLc (hc : X.calm = true) (hN : X.N.Nodup) (hy : X.N[i]? = some y) (hyl : X.env.scope.names.lookup y = some .local) (hsw : swapsWith (.ListComp elt [⟨tg, iter, ifs, 0⟩] scope pos) (some (.Name y py)) spos.line X.env = pure true)
    (hi : PI X tg iter (tI g W stayS src)) (ok : BlkOk X.N X.env.scope scope own) (hv : ∀ i ∈ is, i ∈ own.map (·.2))
    (hg : ∀ (s : Shared) (H : Hp) (C : Addr) (cl : List (Str × Addr)) (fp : List Addr), PG (X.blk s H scope (compEnvC scope cl C X.env) fp) tg (tGM g is T))
    (ht : ∀ (s : Shared) (H : Hp) (C : Addr) (cl : List (Str × Addr)) (fp : List Addr), PTs (X.blk s H scope (compEnvC scope cl C X.env) fp) ifs (tM g rB W0 t))
    (he : ∀ (s : Shared) (H : Hp) (C : Addr) (cl : List (Str × Addr)) (fp : List Addr), PE (X.blk s H scope (compEnvC scope cl C X.env) fp) elt (tM g rD W0 f)) (hs : ∀ x, foldedSetIterable iter X.env x = pure x := by intro _; rfl) :
    PS X (.Assign [.Name y py] (.ListComp elt [⟨tg, iter, ifs, 0⟩] scope pos) spos) (tS g n W (setS i ((lcM (own.map (·.2)) src T t f).bind fun ds => M.pure (.lst ds)))) :=
  (ps_setLc hc hN hy hyl hsw hi ok hg ht he hs).dl fun D σ H ⟨A, B, ρ, ω, r, s, fm, e, res⟩ => by
    refine tLc_of hv σ H _ (tN_D σ H _ (tM_mono (tS_bind s fm e res) fun v H1 ⟨A1, B1, ω1, d, t1, m1, s1, fm1, r1, e1, res1⟩ => ?_))
    cases e1
    exact res1.next (.refl _ _ _) s1 (fm1.setF r1)
end

/-! ### defs -/
abbrev Fn := List D → List Cell → Option (R D)
def spD (g : G) (Gf : Fn) : Sp := fun vs H Q E => ∃ A B ω ds r, Wo g A B H ω ∧ DpL g A B H vs ds ∧ Gf ds ω = some r ∧ match r with
  | .val d ω' => ∀ v A' B' H', Stp A B H A' B' H' → Wo g A' B' H' ω' → Dp g A' B' H' v d → Q v H'
  | .exc x ω' => ∀ cls dd A' B' H', Stp A B H A' B' H' → Wo g A' B' H' ω' → XOk g A' B' H' cls dd x → E cls dd H'
def startE (N : List Str) (ds : List D) : Rho := ds.map Sl.fz ++ List.replicate (N.length - ds.length) Sl.no
theorem slots_start {g : G} {A : Ad} {B : Addr → Prop} {H H0 : Hp} {N : List Str} {vs : List V} {ds : List D} (l : DpL g A B H vs ds) : Slots g H0 A B H (start N vs) (startE N ds) := by
  refine ⟨by simp [L2.start, startE, l.length], fun i s e => ?_, fun i j xs ys p ei ej _ _ => ?_⟩
  · unfold startE at e
    unfold L2.start
    by_cases hi : i < ds.length
    · rw [List.getElem?_append_left (by simpa using hi), List.getElem?_map] at e
      rw [List.getElem?_append_left (by simpa [l.length] using hi), List.getElem?_map]
      cases q : ds[i]? with
      | none => rw [q] at e; cases e
      | some d =>
        rw [q] at e
        cases e
        obtain ⟨v, h1, h2⟩ := l.get q
        exact ⟨v, by rw [h1]; rfl, h2⟩
    · rw [List.getElem?_append_right (by simpa using Nat.le_of_not_lt hi), List.getElem?_replicate] at e
      split at e
      · cases e; trivial
      · cases e
  · exfalso
    unfold startE at ei
    by_cases hi : i < ds.length
    · rw [List.getElem?_append_left (by simpa using hi), List.getElem?_map] at ei
      cases q : ds[i]? with
      | none => rw [q] at ei; cases ei
      | some d => rw [q] at ei; cases ei
    · rw [List.getElem?_append_right (by simpa using Nat.le_of_not_lt hi), List.getElem?_replicate] at ei
      split at ei
      · cases ei
      · cases ei
/-- what a body comes to, as a call's result -/
def retOf : RS → Option (R D)
  | .rt d ω => some (.val d ω)
  | .nx _ ω => some (.val .non ω)
  | .exc x _ ω => some (.exc x ω)
  | _ => none
/-- the function that a body is -/
def fnOf (N : List Str) (k : Nat) (F : MS) : Fn := fun ds ω => if ds.length = k then (match F (startE N ds) ω with | some r => retOf r | none => none) else none
section
variable {P : Program} {w : World} {K : PySem.W.Frag} {mg : Str → Option Value} {base : Heap} {x qual : Str} {st : Stmt} {f : Addr} {fd : FuncData} {N ps : List Str} {k : Nat} {Gf : Fn} {F : MS}
/-- a def without exceptions -/
theorem fn_d (Fu : Fun K x qual st f fd) (S : FnScope N ps (defScope st)) (hl : ∀ ds ω r, Gf ds ω = some r → ds.length = ps.length)
    (body : ∀ (cdv : Value) (A : Around) (outer : List PySem.Env) (s : Shared) (H : Hp) (E : XK) (n : En), Room k (A.deeper (PyProof.Rows.envOfC qual (defScope st) s.heap.objs.size f cdv)) → PSs (cxOf CX0 P w K mg base N qual (defScope st) f cdv A outer s H E).nox (defBody st) (tS ⟨K, mg⟩ n W0 F))
    (hf : ∀ ds ω r, Gf ds ω = some r → ∃ d ω' rs, r = .val d ω' ∧ F (startE N ds) ω = some rs ∧ retOf rs = some r) : FnOk P w K mg base CX0 (k + 1) f fd ps (spD ⟨K, mg⟩ Gf) := by
  refine Fu.ok S (fun vs H Q E ⟨A, B, ω, ds, r, w, l, e, q⟩ => by rw [l.length]; exact hl ds ω r e) fun cdv A outer s H vs Q E hr ⟨Aa, B, ω, ds, r, wo, l, e, q⟩ => ?_
  refine ⟨_, body cdv A outer s H E ⟨Aa, B, H⟩ hr, ?_⟩
  obtain ⟨d, ω', rs, rfl, eF, er⟩ := hf ds ω r e
  refine ⟨Aa, B, startE N ds, ω, rs, .refl _ _ _, ⟨wo, slots_start l⟩, eF, ?_⟩
  cases rs with
  | rt d' ω2 =>
    cases er
    exact fun v A' B' H' t w dp => q v A' B' H' t w dp
  | nx ρ2 ω2 =>
    cases er
    exact fun σ' A' B' H' m t fm => q .non A' B' H' t fm.wo .non
  | exc x ρ2 ω2 => cases er
  | bk ρ2 ω2 => cases er
  | ct ρ2 ω2 => cases er
/-- a def that an exception may leave -/
theorem fn_x (Fu : Fun K x qual st f fd) (S : FnScope N ps (defScope st)) (hl : ∀ ds ω r, Gf ds ω = some r → ds.length = ps.length)
    (body : ∀ (cdv : Value) (A : Around) (outer : List PySem.Env) (s : Shared) (H : Hp) (E : XK) (n : En), Room k (A.deeper (PyProof.Rows.envOfC qual (defScope st) s.heap.objs.size f cdv)) → PSs (cxOf (L2.CX P w) P w K mg base N qual (defScope st) f cdv A outer s H E) (defBody st) (tS ⟨K, mg⟩ n (fun cls d _ H => E cls d H) F))
    (hf : ∀ ds ω r, Gf ds ω = some r → ∃ rs, F (startE N ds) ω = some rs ∧ retOf rs = some r) : FnOk P w K mg base (L2.CX P w) (k + 1) f fd ps (spD ⟨K, mg⟩ Gf) := by
  refine Fu.okX S (fun vs H Q E ⟨A, B, ω, ds, r, w, l, e, q⟩ => by rw [l.length]; exact hl ds ω r e) fun cdv A outer s H vs Q E hr ⟨Aa, B, ω, ds, r, wo, l, e, q⟩ => ?_
  refine ⟨_, body cdv A outer s H E ⟨Aa, B, H⟩ hr, ?_⟩
  obtain ⟨rs, eF, er⟩ := hf ds ω r e
  refine ⟨Aa, B, startE N ds, ω, rs, .refl _ _ _, ⟨wo, slots_start l⟩, eF, ?_⟩
  cases rs with
  | rt d' ω2 =>
    cases er
    exact fun v A' B' H' t w dp => q v A' B' H' t w dp
  | nx ρ2 ω2 =>
    cases er
    exact fun σ' A' B' H' m t fm => q .non A' B' H' t fm.wo .non
  | exc x ρ2 ω2 =>
    cases er
    exact fun cls dd σ' A' B' H' m t fm xo => q cls dd A' B' H' t fm.wo xo
  | bk ρ2 ω2 => cases er
  | ct ρ2 ω2 => cases er
/-- what raises nothing may stand where something may be raised -/
theorem FnOk.lift {k : Nat} {sp : Sp} (F : FnOk P w K mg base CX0 k f fd ps sp) : FnOk P w K mg base (L2.CX P w) k f fd ps sp :=
  ⟨F.len, fun A outer s H args us vs Q E hr he hb hv hs => codeAny_mono (F.run A outer s H args us vs Q E hr he hb hv hs) fun r s' h => by
    cases r with
    | error e => exact False.elim h
    | ok fl => cases fl <;> exact h⟩
end
section
variable {X : Cx} {g : G} {W : WX} {x : Str} {p pos : Pos} {e : Expr} {es : List Expr} {fs : M (List D)} {k : Nat} {f : Addr} {fd : FuncData} {ps : List Str} {Gf : Fn}
def callM (Gf : Fn) (ds : List D) : M D := fun _ ω => Gf ds ω
theorem tM_call : ∀ σ H Q, tM g rD W (fs.bind (callM Gf)) σ H Q → tCallS (spD g Gf) (WE W) (tM g rL W fs) σ H Q := by
  rintro σ H Q ⟨H0, A, B, ρ, ω, r, fm, e, res⟩
  refine tM_mono (tM_bind fm e res) fun vs H1 ⟨A1, B1, ω1, ds, t1, fm1, r1, e1, res1⟩ => ?_
  refine ⟨A1, B1, ω1, ds, r, fm1.wo, r1, e1, ?_⟩
  cases r with
  | val d ω' => exact fun v A' B' H' t w dp => res1 v A' B' H' t w dp
  | exc x ω' => exact fun cls dd A' B' H' t w xo => res1 cls dd A' B' H' t w xo
theorem de_call (tk : Takes X W) (F : FnOk X.prog X.w X.K X.mg X.base (L2.CX X.prog X.w) k f fd ps (spD g Gf)) (hr : Room k X.A) (hg : Gl X x) (hm : X.mg x = some (.ref f)) (hk : PySem.W.keepIn X.K (.ref f) = true) (hb : Binds X.K fd ps [])
    (ha : PA X (e :: es) (tM g rL W fs)) (hdb : (x == ("__debug__" : Str)) = false := by decide) (he : starEach (e :: es) X.env = (false, eval e X.env) :: starEach es X.env := by rfl) (hpl : (backTo pos (starEach es X.env)).any (·.1) = false := by rfl) :
    PE X (.Call (.Name x p) (e :: es) [] pos) (tM g rD W (fs.bind (callM Gf))) :=
  (pe_callS F hr hg hm hk hb (passAt tk) ha hdb he hpl).dl tM_call
theorem pe_callS0 {CX : CXT} {sp : Sp} {E : St → XK} (F : FnOk X.prog X.w X.K X.mg X.base CX k f fd ps sp) (hr : Room k X.A) (hg : Gl X x) (hm : X.mg x = some (.ref f)) (hk : PySem.W.keepIn X.K (.ref f) = true) (hb : Binds X.K fd ps []) (hx : ∀ σ, PassesAt CX X σ (E σ))
    (hdb : (x == ("__debug__" : Str)) = false := by decide) : PE X (.Call (.Name x p) [] [] pos) (tCallS sp E tNil) :=
  ⟨fun pins s σ H Q I h => wpAny_Call_Name_kw (ld_glob I hg hm (PySem.W.callWith_K0 I.kIn hk (run_fnS (us := []) F hr hb (hx σ) I .nil h)) hdb)⟩
theorem de_call0 (tk : Takes X W) (F : FnOk X.prog X.w X.K X.mg X.base (L2.CX X.prog X.w) k f fd ps (spD g Gf)) (hr : Room k X.A) (hg : Gl X x) (hm : X.mg x = some (.ref f)) (hk : PySem.W.keepIn X.K (.ref f) = true) (hb : Binds X.K fd ps [])
    (hdb : (x == ("__debug__" : Str)) = false := by decide) : PE X (.Call (.Name x p) [] [] pos) (tM g rD W ((M.pure []).bind (callM Gf))) :=
  (pe_callS0 F hr hg hm hk hb (passAt tk) hdb).dl fun σ H Q h => by
    obtain ⟨H0, A, B, ρ, ω, r, fm, e, res⟩ := tM_call σ H Q h
    cases e
    exact res [] A B H (.refl _ _ _) fm.wo .nil
end
end DL
/-! DL8: short forms. -/
namespace DL
open PySem L2
section
variable {X : Cx} {g : G} {n : En} {W : WX} {a b c e : Expr} {fa fb f : M D} {pos : Pos} {k : Nat}
theorem Room.u64 {A : Around} (hr : Room k A) : A.units + 64 < cLine := hr.units
theorem Room.u65 {A : Around} (hr : Room k A) : A.units + 65 < cLine := by have := hr.un; omega
theorem de_eq (hK : X.K = g.K) (hr : Room k X.A) (ha : PE X a (tM g rW W fa)) (hb : PE X b (tM g rW W fb)) : PE X (.Compare a [.Eq] [b] pos) (tM g rD W (bo eqD fa fb)) := de_cmp (op_eqD hr.units) (by rw [hK]; exact v_eq g) ha hb (nomark _)
theorem de_ne (hK : X.K = g.K) (hr : Room k X.A) (ha : PE X a (tM g rW W fa)) (hb : PE X b (tM g rW W fb)) : PE X (.Compare a [.NotEq] [b] pos) (tM g rD W (bo neD fa fb)) := de_cmp (op_neD hr.units) (by rw [hK]; exact v_ne g) ha hb (nomark _)
theorem de_lt (ha : PE X a (tM g rW W fa)) (hb : PE X b (tM g rW W fb)) : PE X (.Compare a [.Lt] [b] pos) (tM g rD W (bo ltD fa fb)) := de_cmp op_lt v_lt ha hb (nomark _)
theorem de_le (ha : PE X a (tM g rW W fa)) (hb : PE X b (tM g rW W fb)) : PE X (.Compare a [.LtE] [b] pos) (tM g rD W (bo leD fa fb)) := de_cmp op_le v_le ha hb (nomark _)
theorem de_gt (ha : PE X a (tM g rW W fa)) (hb : PE X b (tM g rW W fb)) : PE X (.Compare a [.Gt] [b] pos) (tM g rD W (bo gtD fa fb)) := de_cmp op_gt v_gt ha hb (nomark _)
theorem de_ge (ha : PE X a (tM g rW W fa)) (hb : PE X b (tM g rW W fb)) : PE X (.Compare a [.GtE] [b] pos) (tM g rD W (bo geD fa fb)) := de_cmp op_ge v_ge ha hb (nomark _)
theorem de_is (ha : PE X a (tM g rW W fa)) (hb : PE X b (tM g rW W fb)) : PE X (.Compare a [.Is] [b] pos) (tM g rD W (bo isN fa fb)) := de_cmp op_isN v_isN ha hb (nomark _)
theorem de_isnot (ha : PE X a (tM g rW W fa)) (hb : PE X b (tM g rW W fb)) : PE X (.Compare a [.IsNot] [b] pos) (tM g rD W (bo notN fa fb)) := de_cmp op_notN v_notN ha hb (nomark _)
theorem de_in (hK : X.K = g.K) (hr : Room k X.A) (ha : PE X a (tM g rW W fa)) (hb : PE X b (tM g rW W fb)) (hm : behindInMarks .In b = false := by rfl) : PE X (.Compare a [.In] [b] pos) (tM g rD W (bo inD fa fb)) := de_cmp (op_inA (Room.u65 hr)) (by rw [hK]; exact v_in g) ha hb hm
theorem de_notin (hK : X.K = g.K) (hr : Room k X.A) (ha : PE X a (tM g rW W fa)) (hb : PE X b (tM g rW W fb)) (hm : behindInMarks .NotIn b = false := by rfl) : PE X (.Compare a [.NotIn] [b] pos) (tM g rD W (bo notInD fa fb)) := de_cmp (op_notInA (Room.u65 hr)) (by rw [hK]; exact v_notIn g) ha hb hm
/-- tests -/
def tst (f : M D) : M Bool := f.bind asB
theorem dt_eq (hK : X.K = g.K) (hr : Room k X.A) (ha : PE X a (tM g rW W fa)) (hb : PE X b (tM g rW W fb)) : PT X (.Compare a [.Eq] [b] pos) (tM g rB W (tst (bo eqD fa fb))) := dt_cmp (op_eqD hr.units) (by rw [hK]; exact v_eq g) ha hb (nomark _)
theorem dt_ne (hK : X.K = g.K) (hr : Room k X.A) (ha : PE X a (tM g rW W fa)) (hb : PE X b (tM g rW W fb)) : PT X (.Compare a [.NotEq] [b] pos) (tM g rB W (tst (bo neD fa fb))) := dt_cmp (op_neD hr.units) (by rw [hK]; exact v_ne g) ha hb (nomark _)
theorem dt_lt (ha : PE X a (tM g rW W fa)) (hb : PE X b (tM g rW W fb)) : PT X (.Compare a [.Lt] [b] pos) (tM g rB W (tst (bo ltD fa fb))) := dt_cmp op_lt v_lt ha hb (nomark _)
theorem dt_le (ha : PE X a (tM g rW W fa)) (hb : PE X b (tM g rW W fb)) : PT X (.Compare a [.LtE] [b] pos) (tM g rB W (tst (bo leD fa fb))) := dt_cmp op_le v_le ha hb (nomark _)
theorem dt_gt (ha : PE X a (tM g rW W fa)) (hb : PE X b (tM g rW W fb)) : PT X (.Compare a [.Gt] [b] pos) (tM g rB W (tst (bo gtD fa fb))) := dt_cmp op_gt v_gt ha hb (nomark _)
theorem dt_ge (ha : PE X a (tM g rW W fa)) (hb : PE X b (tM g rW W fb)) : PT X (.Compare a [.GtE] [b] pos) (tM g rB W (tst (bo geD fa fb))) := dt_cmp op_ge v_ge ha hb (nomark _)
theorem dt_is (ha : PE X a (tM g rW W fa)) (hb : PE X b (tM g rW W fb)) : PT X (.Compare a [.Is] [b] pos) (tM g rB W (tst (bo isN fa fb))) := dt_cmp op_isN v_isN ha hb (nomark _)
theorem dt_isnot (ha : PE X a (tM g rW W fa)) (hb : PE X b (tM g rW W fb)) : PT X (.Compare a [.IsNot] [b] pos) (tM g rB W (tst (bo notN fa fb))) := dt_cmp op_notN v_notN ha hb (nomark _)
theorem dt_in (hK : X.K = g.K) (hr : Room k X.A) (ha : PE X a (tM g rW W fa)) (hb : PE X b (tM g rW W fb)) (hm : behindInMarks .In b = false := by rfl) : PT X (.Compare a [.In] [b] pos) (tM g rB W (tst (bo inD fa fb))) := dt_cmp (op_inA (Room.u65 hr)) (by rw [hK]; exact v_in g) ha hb hm
theorem dt_notin (hK : X.K = g.K) (hr : Room k X.A) (ha : PE X a (tM g rW W fa)) (hb : PE X b (tM g rW W fb)) (hm : behindInMarks .NotIn b = false := by rfl) : PT X (.Compare a [.NotIn] [b] pos) (tM g rB W (tst (bo notInD fa fb))) := dt_cmp (op_notInA (Room.u65 hr)) (by rw [hK]; exact v_notIn g) ha hb hm
def truM (f : M D) : M Bool := f.bind tru
theorem dt_truth (hK : X.K = g.K) (ha : PE X a (tM g rW W fa)) (he : ∀ whole, isTrue a X.env whole = (do let v ← whole; standAt a.pos; holding [v] (truthy v)) := by intro _; rfl) : PT X a (tM g rB W (truM fa)) := dt_tru hK ha he
/-- a, b = e -/
def asgS (f : M D) (T : TT1) : MS := bindS f fun d ρ ω => match T d ρ ω with
  | some ρ' => some (.nx ρ' ω)
  | none => none
theorem ds_asg {tg : Expr} {is : List Nat} {T : TT1} (he : PE X e (tM g rD W f)) (hg : PG X tg (tGM g is T)) (hs : swapsWithSole [tg] e pos.line X.env = pure false := by rfl) (hw : swappedStores [tg] e X.env = pure none := by rfl)
    (h1 : (assignEach [tg] X.env).map (·.2) = [assign tg X.env] := by rfl) : PS X (.Assign [tg] e pos) (tS g n W (asgS f T)) :=
  (ps_asg he hg hs hw h1).dl fun D σ H ⟨A, B, ρ, ω, r, s, fm, e, res⟩ => by
    refine tM_mono (tS_bind s fm e res) fun v H1 ⟨A1, B1, ω1, d, t1, m1, s1, fm1, r1, e1, res1⟩ => ?_
    cases q : T d ρ ω1 with
    | none => simp only [q] at e1; cases e1
    | some ρ' =>
      simp only [q] at e1
      cases e1
      exact ⟨_, A1, B1, ρ, ω1, d, ρ', fm1, r1, q, fun σ' fm' _ => res1.next (.refl _ _ _) s1 fm'⟩
end

/-! ### defs by name -/
structure FT (K : PySem.W.Frag) (mg : Str → Option Value) (x : Str) (st : Stmt) : Prop where
  ex : ∃ a fd, mg x = some (.ref a) ∧ Fun K x x st a fd
structure Cal (P : Program) (w : World) (K : PySem.W.Frag) (mg : Str → Option Value) (base : Heap) (x : Str) (ps : List Str) (k : Nat) (Gf : Fn) : Prop where
  ex : ∃ a fd, mg x = some (.ref a) ∧ PySem.W.keepIn K (.ref a) = true ∧ Binds K fd ps [] ∧ FnOk P w K mg base (L2.CX P w) k a fd ps (spD ⟨K, mg⟩ Gf)
theorem Cal.mono {P : Program} {w : World} {K : PySem.W.Frag} {mg : Str → Option Value} {base : Heap} {x : Str} {ps : List Str} {k j : Nat} {Gf : Fn} (c : Cal P w K mg base x ps k Gf) (h : k ≤ j) : Cal P w K mg base x ps j Gf := by
  obtain ⟨a, fd, h1, h2, h3, h4⟩ := c.ex
  exact ⟨a, fd, h1, h2, h3, h4.mono h⟩
theorem Cal.imp {P : Program} {w : World} {K : PySem.W.Frag} {mg : Str → Option Value} {base : Heap} {x : Str} {ps : List Str} {k : Nat} {Gf Gf' : Fn} (c : Cal P w K mg base x ps k Gf) (h : ∀ ds ω r, Gf' ds ω = some r → Gf ds ω = some r) : Cal P w K mg base x ps k Gf' := by
  obtain ⟨a, fd, h1, h2, h3, h4⟩ := c.ex
  refine ⟨a, fd, h1, h2, h3, h4.imp fun vs H Q E ⟨A, B, ω, ds, r, w, l, e, q⟩ => ⟨A, B, ω, ds, r, w, l, h ds ω r e, q⟩⟩
theorem cal_of {P : Program} {w : World} {K : PySem.W.Frag} {mg : Str → Option Value} {base : Heap} {x : Str} {st : Stmt} {ps : List Str} {k : Nat} {Gf : Fn} (T : FT K mg x st) (b : ∀ a fd, Fun K x x st a fd → Binds K fd ps [])
    (h : ∀ a fd, Fun K x x st a fd → FnOk P w K mg base (L2.CX P w) k a fd ps (spD ⟨K, mg⟩ Gf)) : Cal P w K mg base x ps k Gf := by
  obtain ⟨a, fd, h1, F⟩ := T.ex
  exact ⟨a, fd, h1, F.kp, b a fd F, h a fd F⟩
section
variable {X : Cx} {W : WX} {x : Str} {p pos : Pos} {e : Expr} {es : List Expr} {fs : M (List D)} {k j : Nat} {ps : List Str} {Gf : Fn}
def calM (Gf : Fn) (fs : M (List D)) : M D := fs.bind (callM Gf)
theorem de_fn (tk : Takes X W) (c : Cal X.prog X.w X.K X.mg X.base x ps k Gf) (hr : Room j X.A) (hj : k ≤ j) (hg : Gl X x) (ha : PA X (e :: es) (tM ⟨X.K, X.mg⟩ rL W fs)) (hdb : (x == ("__debug__" : Str)) = false := by decide)
    (he : starEach (e :: es) X.env = (false, eval e X.env) :: starEach es X.env := by rfl) (hpl : (backTo pos (starEach es X.env)).any (·.1) = false := by rfl) : PE X (.Call (.Name x p) (e :: es) [] pos) (tM ⟨X.K, X.mg⟩ rD W (calM Gf fs)) := by
  obtain ⟨a, fd, h1, h2, h3, h4⟩ := c.ex
  exact de_call tk h4 (hr.mono hj) hg h1 h2 h3 ha hdb he hpl
theorem de_fn0 (tk : Takes X W) (c : Cal X.prog X.w X.K X.mg X.base x ps k Gf) (hr : Room j X.A) (hj : k ≤ j) (hg : Gl X x) (hdb : (x == ("__debug__" : Str)) = false := by decide) : PE X (.Call (.Name x p) [] [] pos) (tM ⟨X.K, X.mg⟩ rD W (calM Gf (M.pure []))) := by
  obtain ⟨a, fd, h1, h2, h3, h4⟩ := c.ex
  exact de_call0 tk h4 (hr.mono hj) hg h1 h2 h3 hdb
end
end DL
/-! DL9: functions by plain functions; evaluation of readings. -/
namespace DL
open PySem L2

/-- a def that makes «out x» of «enc x», where «pre x» -/
noncomputable def mkFn {α : Type} (enc : α → List D) (pre : α → Prop) (out : α → D) : Fn := fun ds ω =>
  open Classical in if h : ∃ x, ds = enc x ∧ pre x then some (.val (out (Classical.choose h)) ω) else none
theorem mkFn_eq {α : Type} {enc : α → List D} {pre : α → Prop} {out : α → D} (inj : ∀ x y, enc x = enc y → x = y) {x : α} {ω : List Cell} (hx : pre x) : mkFn enc pre out (enc x) ω = some (.val (out x) ω) := by
  have h : ∃ y, enc x = enc y ∧ pre y := ⟨x, rfl, hx⟩
  unfold mkFn
  rw [dif_pos h]
  have e := (Classical.choose_spec h).1
  rw [← inj _ _ e]
theorem mkFn_some {α : Type} {enc : α → List D} {pre : α → Prop} {out : α → D} {ds : List D} {ω : List Cell} {r : R D} (h : mkFn enc pre out ds ω = some r) : ∃ x, ds = enc x ∧ pre x ∧ r = .val (out x) ω := by
  unfold mkFn at h
  split at h
  · rename_i q
    cases h
    exact ⟨_, (Classical.choose_spec q).1, (Classical.choose_spec q).2, rfl⟩
  · cases h
/-- what a def's theorem asks, by such a function -/
theorem hf_mk {α : Type} {enc : α → List D} {pre : α → Prop} {out : α → D} {F : MS} {N : List Str} {k : Nat} (hl : ∀ x, (enc x).length = k) (h : ∀ x ω, pre x → ∃ rs, F (startE N (enc x)) ω = some rs ∧ retOf rs = some (.val (out x) ω)) :
    ∀ ds ω r, mkFn enc pre out ds ω = some r → ds.length = k ∧ ∃ d ω' rs, r = .val d ω' ∧ F (startE N ds) ω = some rs ∧ retOf rs = some r := fun ds ω r e => by
  obtain ⟨x, rfl, hx, rfl⟩ := mkFn_some e
  obtain ⟨rs, h1, h2⟩ := h x ω hx
  exact ⟨hl x, _, _, rs, rfl, h1, h2⟩
theorem callM_mk {α : Type} {enc : α → List D} {pre : α → Prop} {out : α → D} (inj : ∀ x y, enc x = enc y → x = y) {x : α} {ρ : Rho} {ω : List Cell} (hx : pre x) : callM (mkFn enc pre out) (enc x) ρ ω = some (.val (out x) ω) := by
  unfold callM
  rw [mkFn_eq inj hx]

/-! ### evaluation -/
section
variable {α β : Type} {ρ : Rho} {ω ω1 ω2 : List Cell} {f : M α} {k : α → M β} {a : α}
theorem pure_ev : M.pure a ρ ω = some (.val a ω) := rfl
theorem bind_ev (h : f ρ ω = some (.val a ω1)) : (f.bind k) ρ ω = k a ρ ω1 := by unfold M.bind; rw [h]
theorem bindS_ev {s : α → MS} (h : f ρ ω = some (.val a ω1)) : bindS f s ρ ω = s a ρ ω1 := by unfold bindS; rw [h]
theorem bo_ev {g : D → D → Option D} {fa fb : M D} {x y x' y' z : D} (h1 : fa ρ ω = some (.val x ω1)) (h2 : fb ρ ω1 = some (.val y ω2)) (v1 : view ω2 x = some x') (v2 : view ω2 y = some y') (h : g x' y' = some z) : bo g fa fb ρ ω = some (.val z ω2) := by
  unfold bo
  rw [bind_ev h1, bind_ev h2]
  unfold op2
  simp only [v1, v2, h]
theorem uo_ev {g : D → Option D} {fa : M D} {x x' z : D} (h1 : fa ρ ω = some (.val x ω1)) (v1 : view ω1 x = some x') (h : g x' = some z) : uo g fa ρ ω = some (.val z ω1) := by
  unfold uo
  rw [bind_ev h1]
  unfold op1
  simp only [v1, h]
theorem mulD_r {i j : Int} (h1 : -(18446744073709551616) < j) (h2 : j < 18446744073709551616) : mulD (.int i) (.int j) = some (.int (i * j)) := mulD_int (.inr ⟨h1, h2⟩)
theorem mulD_l {i j : Int} (h1 : -(18446744073709551616) < i) (h2 : i < 18446744073709551616) : mulD (.int i) (.int j) = some (.int (i * j)) := mulD_int (.inl ⟨h1, h2⟩)
theorem fdivD_r {i j : Int} (h1 : 0 < j) (h2 : j < 1073741824) : fdivD (.int i) (.int j) = some (.int (i / j)) := fdivD_int ⟨h1, h2⟩
end

theorem rng1_nat {n : Nat} {ρ : Rho} {ω : List Cell} (h : n ≤ 16777216) : rng1 (.int (n : Int)) ρ ω = some (.val (rangeD 0 n) ω) := by
  unfold rng1
  simp only
  rw [if_pos (by omega)]
  simp
theorem rng1_int {i : Int} {ρ : Rho} {ω : List Cell} (h0 : 0 ≤ i) (h : i ≤ 16777216) : rng1 (.int i) ρ ω = some (.val (rangeD 0 i.toNat) ω) := by
  unfold rng1
  simp only
  rw [if_pos (by omega)]
theorem rangeD_get {lo : Int} {n i : Nat} {d : D} (h : (rangeD lo n)[i]? = some d) : i < n ∧ d = .int (lo + i) := by
  unfold rangeD at h
  rw [List.getElem?_map] at h
  by_cases hi : i < n
  · rw [List.getElem?_range hi] at h
    cases h
    exact ⟨hi, rfl⟩
  · rw [List.getElem?_eq_none (by simpa using Nat.le_of_not_lt hi)] at h
    cases h
theorem rangeD_len (lo : Int) (n : Nat) : (rangeD lo n).length = n := by simp [rangeD]
theorem atI_some {α : Type} {xs : List α} {k : Int} {x : α} (h0 : 0 ≤ k) (h : xs[k.toNat]? = some x) : atI xs k = some x := by
  have := atI_nat h
  rwa [Int.toNat_of_nonneg h0] at this
theorem seqS_nx {F K : MS} {ρ ρ' : Rho} {ω ω' : List Cell} (h : F ρ ω = some (.nx ρ' ω')) : seqS F K ρ ω = K ρ' ω' := by unfold seqS; rw [h]
theorem seqS_rt {F K : MS} {ρ : Rho} {ω ω' : List Cell} {d : D} (h : F ρ ω = some (.rt d ω')) : seqS F K ρ ω = some (.rt d ω') := by unfold seqS; rw [h]
theorem forS_nx {src : M (List D)} {T : TT1} {F : MS} {items : List D} {ρ ρ' : Rho} {ω ω1 ω' : List Cell} (h1 : src ρ ω = some (.val items ω1)) (h2 : forGo T F items ρ ω1 = some (.nx ρ' ω')) : forS src T F ρ ω = some (.nx ρ' ω') := by
  unfold forS; rw [bindS_ev h1, h2]; rfl
theorem forS_rt {src : M (List D)} {T : TT1} {F : MS} {items : List D} {ρ : Rho} {ω ω1 ω' : List Cell} {d : D} (h1 : src ρ ω = some (.val items ω1)) (h2 : forGo T F items ρ ω1 = some (.rt d ω')) : forS src T F ρ ω = some (.rt d ω') := by
  unfold forS; rw [bindS_ev h1, h2]; rfl
theorem forS_bk {src : M (List D)} {T : TT1} {F : MS} {items : List D} {ρ ρ' : Rho} {ω ω1 ω' : List Cell} (h1 : src ρ ω = some (.val items ω1)) (h2 : forGo T F items ρ ω1 = some (.bk ρ' ω')) : forS src T F ρ ω = some (.nx ρ' ω') := by
  unfold forS; rw [bindS_ev h1, h2]; rfl
theorem ifS_t {t : M Bool} {F K : MS} {ρ : Rho} {ω ω' : List Cell} (h : t ρ ω = some (.val true ω')) : ifS t F K ρ ω = F ρ ω' := by unfold ifS; rw [bindS_ev h, if_pos rfl]
theorem ifS_f {t : M Bool} {F K : MS} {ρ : Rho} {ω ω' : List Cell} (h : t ρ ω = some (.val false ω')) : ifS t F K ρ ω = K ρ ω' := by unfold ifS; rw [bindS_ev h, if_neg Bool.false_ne_true]
/-! ### loops -/
/-- a for: what holds between the turns, and what holds where it is left on the way -/
theorem forGo_inv {T : TT1} {F : MS} (Pv : Nat → Rho → List Cell → Prop) (Lv : RS → Prop) : ∀ (items : List D) (i : Nat) (ρ : Rho) (ω : List Cell), Pv i ρ ω →
    (∀ (j : Nat) (d : D) (ρ : Rho) (ω : List Cell), items[j]? = some d → Pv (i + j) ρ ω → ∃ ρ1 r, T d ρ ω = some ρ1 ∧ F ρ1 ω = some r ∧ match r with
      | .nx ρ2 ω2 => Pv (i + j + 1) ρ2 ω2
      | .ct ρ2 ω2 => Pv (i + j + 1) ρ2 ω2
      | r => Lv r) →
    ∃ r, forGo T F items ρ ω = some r ∧ ((∃ ρ' ω', r = .nx ρ' ω' ∧ Pv (i + items.length) ρ' ω') ∨ Lv r)
  | [], i, ρ, ω, h0, _ => ⟨_, rfl, .inl ⟨ρ, ω, rfl, h0⟩⟩
  | d :: ds, i, ρ, ω, h0, hs => by
    obtain ⟨ρ1, r, h1, h2, h3⟩ := hs 0 d ρ ω rfl h0
    have next : ∀ ρ2 ω2, Pv (i + 1) ρ2 ω2 → ∃ r, forGo T F ds ρ2 ω2 = some r ∧ ((∃ ρ' ω', r = .nx ρ' ω' ∧ Pv (i + (d :: ds).length) ρ' ω') ∨ Lv r) := fun ρ2 ω2 p => by
      obtain ⟨r', e', q'⟩ := forGo_inv Pv Lv ds (i + 1) ρ2 ω2 p fun j d' ρ ω hj hp => by
        have := hs (j + 1) d' ρ ω (by simpa using hj) (by rw [show i + (j + 1) = i + 1 + j by omega]; exact hp)
        rw [show i + (j + 1) = i + 1 + j by omega] at this
        exact this
      refine ⟨r', e', ?_⟩
      rw [show i + (d :: ds).length = i + 1 + ds.length by simp; omega]
      exact q'
    unfold forGo
    simp only [h1, h2]
    cases r with
    | nx ρ2 ω2 => exact next ρ2 ω2 h3
    | ct ρ2 ω2 => exact next ρ2 ω2 h3
    | bk ρ2 ω2 => exact ⟨_, rfl, .inr h3⟩
    | rt d ω2 => exact ⟨_, rfl, .inr h3⟩
    | exc x ρ2 ω2 => exact ⟨_, rfl, .inr h3⟩
/-- .. where it is never left -/
theorem forGo_thru {T : TT1} {F : MS} (Pv : Nat → Rho → List Cell → Prop) {items : List D} {ρ : Rho} {ω : List Cell} (h0 : Pv 0 ρ ω)
    (hs : ∀ (j : Nat) (d : D) (ρ : Rho) (ω : List Cell), items[j]? = some d → Pv j ρ ω → ∃ ρ1 ρ2 ω2, T d ρ ω = some ρ1 ∧ F ρ1 ω = some (.nx ρ2 ω2) ∧ Pv (j + 1) ρ2 ω2) :
    ∃ ρ' ω', forGo T F items ρ ω = some (.nx ρ' ω') ∧ Pv items.length ρ' ω' := by
  obtain ⟨r, e, h⟩ := forGo_inv Pv (fun _ => False) items 0 ρ ω h0 fun j d ρ ω hj hp => by
    obtain ⟨ρ1, ρ2, ω2, h1, h2, h3⟩ := hs j d ρ ω hj (by simpa using hp)
    exact ⟨ρ1, _, h1, h2, by simpa using h3⟩
  rcases h with ⟨ρ', ω', rfl, p⟩ | h
  · exact ⟨ρ', ω', e, by simpa using p⟩
  · exact h.elim
/-- a comprehension whose tests and elements are plain: out of each item -/
theorem lcGo_pure {vs : List Nat} {T : TT1} {t : M Bool} {f : M D} {ρ : Rho} {ω : List Cell} (p : D → Bool) (h : D → D) : ∀ (items acc : List D), acc.length + items.length ≤ sizeLine →
    (∀ d ∈ items, ∃ ρ2, T d (wipeE ρ vs) ω = some ρ2 ∧ t ρ2 ω = some (.val (p d) ω) ∧ (p d = true → f ρ2 ω = some (.val (h d) ω))) →
    lcGo vs T t f ρ items acc ω = some (acc ++ (items.filter p).map h, ω)
  | [], acc, _, _ => by simp [lcGo]
  | d :: ds, acc, hz, hs => by
    obtain ⟨ρ2, h1, h2, h3⟩ := hs d List.mem_cons_self
    simp only [List.length_cons] at hz
    unfold lcGo
    simp only [h1, h2]
    cases e : p d with
    | false =>
      simp only
      rw [lcGo_pure p h ds acc (by omega) fun d hd => hs d (List.mem_cons_of_mem _ hd)]
      simp [e]
    | true =>
      simp only [h3 e]
      rw [if_pos (by omega), lcGo_pure p h ds (acc ++ [h d]) (by simp; omega) fun d hd => hs d (List.mem_cons_of_mem _ hd)]
      simp [e]
theorem lcM_pure {vs : List Nat} {src : M (List D)} {T : TT1} {t : M Bool} {f : M D} {ρ : Rho} {ω ω1 : List Cell} {items : List D} (p : D → Bool) (h : D → D) (hsrc : src ρ ω = some (.val items ω1)) (hz : items.length ≤ sizeLine)
    (hs : ∀ d ∈ items, ∃ ρ2, T d (wipeE ρ vs) ω1 = some ρ2 ∧ t ρ2 ω1 = some (.val (p d) ω1) ∧ (p d = true → f ρ2 ω1 = some (.val (h d) ω1))) :
    lcM vs src T t f ρ ω = some (.val ((items.filter p).map h) ω1) := by
  unfold lcM
  rw [bind_ev hsrc]
  rw [lcGo_pure p h items [] (by simpa using hz) hs]
  simp
/-- .. over encoded things -/
theorem lcM_enc {α : Type} {vs : List Nat} {src : M (List D)} {T : TT1} {t : M Bool} {f : M D} {ρ : Rho} {ω ω1 : List Cell} {xs : List α} (enc : α → D) (p : α → Bool) (h : α → D) (hsrc : src ρ ω = some (.val (xs.map enc) ω1)) (hz : xs.length ≤ sizeLine)
    (hs : ∀ x ∈ xs, ∃ ρ2, T (enc x) (wipeE ρ vs) ω1 = some ρ2 ∧ t ρ2 ω1 = some (.val (p x) ω1) ∧ (p x = true → f ρ2 ω1 = some (.val (h x) ω1))) :
    lcM vs src T t f ρ ω = some (.val ((xs.filter p).map h) ω1) := by
  have go : ∀ (xs : List α) (acc : List D), acc.length + xs.length ≤ sizeLine → (∀ x ∈ xs, ∃ ρ2, T (enc x) (wipeE ρ vs) ω1 = some ρ2 ∧ t ρ2 ω1 = some (.val (p x) ω1) ∧ (p x = true → f ρ2 ω1 = some (.val (h x) ω1))) →
      lcGo vs T t f ρ (xs.map enc) acc ω1 = some (acc ++ (xs.filter p).map h, ω1) := by
    intro xs
    induction xs with
    | nil => intro acc _ _; simp [lcGo]
    | cons x xs ih =>
      intro acc hz hs
      obtain ⟨ρ2, h1, h2, h3⟩ := hs x List.mem_cons_self
      simp only [List.length_cons] at hz
      rw [List.map_cons]
      unfold lcGo
      simp only [h1, h2]
      cases e : p x with
      | false =>
        simp only
        rw [ih acc (by omega) fun d hd => hs d (List.mem_cons_of_mem _ hd)]
        simp [e]
      | true =>
        simp only [h3 e]
        rw [if_pos (by omega), ih (acc ++ [h x]) (by simp; omega) fun d hd => hs d (List.mem_cons_of_mem _ hd)]
        simp [e]
  unfold lcM
  rw [bind_ev hsrc]
  rw [go xs [] (by simpa using hz) hs]
  simp
end DL
/-! DL10: objects. -/
namespace DL
open PySem L2

/-! ### fields -/
section
variable {g : G} {A A' : Ad} {B B' : Addr → Prop} {H H' : Hp}
theorem DpF.look {f : Str} {d : D} : ∀ {fs : List (Str × D)} {vs : List (Str × V)}, DpF g A B H vs fs → fs.lookup f = some d → ∃ v, vs.lookup f = some v ∧ Dp g A B H v d
  | [], _, h, e => by cases e
  | (k, x) :: fs, _, h, e => by
    cases h with
    | @cons k v vs d' ds h1 h2 =>
      rw [List.lookup_cons] at e ⊢
      cases q : f == k with
      | true =>
        rw [q] at e
        cases e
        exact ⟨v, rfl, h1⟩
      | false =>
        rw [q] at e
        exact DpF.look h2 e
theorem DpF.no {f : Str} : ∀ {fs : List (Str × D)} {vs : List (Str × V)}, DpF g A B H vs fs → fs.lookup f = none → vs.lookup f = none
  | [], _, h, e => by cases h; rfl
  | (k, x) :: fs, _, h, e => by
    cases h with
    | @cons k v vs d' ds h1 h2 =>
      rw [List.lookup_cons] at e ⊢
      cases q : f == k with
      | true => rw [q] at e; cases e
      | false =>
        rw [q] at e
        exact DpF.no h2 e
theorem DpF.len : ∀ {fs : List (Str × D)} {vs : List (Str × V)}, DpF g A B H vs fs → vs.length = fs.length
  | [], _, h => by cases h; rfl
  | (k, x) :: fs, _, h => by cases h with | cons h1 h2 => simp [DpF.len h2]
def putD (f : Str) (d : D) : List (Str × D) → List (Str × D)
  | [] => [(f, d)]
  | (k, x) :: r => if k = f then (k, d) :: r else (k, x) :: putD f d r
theorem DpF.put {f : Str} {v : V} {d : D} (h : Dp g A B H v d) : ∀ {fs : List (Str × D)} {vs : List (Str × V)}, DpF g A B H vs fs → DpF g A B H (putF f v vs) (putD f d fs)
  | [], _, l => by cases l; exact .cons h .nil
  | (k, x) :: fs, _, l => by
    cases l with
    | @cons k v' vs d' ds h1 h2 =>
      unfold putF putD
      split
      · exact .cons h h2
      · exact .cons h1 (DpF.put h h2)
end
/-- a class with the plain reading of f -/
def ClF (K : PySem.W.Frag) (mg : Str → Option Value) (c f : Str) : Prop := ∃ C, mg c = some (.ref C) ∧ Cls K C ∧ NoAttr K C f
def ClFs (K : PySem.W.Frag) (mg : Str → Option Value) (f : Str) : List Str → Prop
  | [] => True
  | c :: cs => ClF K mg c f ∧ ClFs K mg f cs
theorem ClFs.at {K : PySem.W.Frag} {mg : Str → Option Value} {f c : Str} : ∀ {cs : List Str}, ClFs K mg f cs → cs.contains c = true → ClF K mg c f
  | [], _, e => by cases e
  | d :: cs, h, e => by
    simp only [List.contains_cons, Bool.or_eq_true] at e
    rcases e with e | e
    · rw [eq_of_beq e]; exact h.1
    · exact ClFs.at h.2 e
def fldD (cs : List Str) (f : Str) : D → Option D
  | .obj c fs => if cs.contains c = true then fs.lookup f else none
  | _ => none
section
variable {X : Cx} {g : G} {n : En} {W : WX} {e o value : Expr} {fa fo fv : M D} {f : Str} {pos pos' : Pos} {cs : List Str}
theorem v_fld (hC : ClFs g.K g.mg f cs) : V1 g (fun x H Q => ∃ a C dx fs v, x = .ref a ∧ H a = some (.ins C dx fs) ∧ Cls g.K C ∧ NoAttr g.K C f ∧ fs.lookup f = some v ∧ Q v H) (fldD cs f) := by
  intro A B H ω x a c Q w ha e q
  cases a with
  | obj k fs =>
    simp only [fldD] at e
    split at e
    · rename_i hk
      obtain ⟨a, C, dx, vs, rfl, hp, hm, l⟩ := ha
      obtain ⟨C', h1, h2, h3⟩ := hC.at hk
      rw [hm] at h1
      cases h1
      obtain ⟨v, hv, dv⟩ := l.look e
      exact ⟨a, C, dx, vs, v, rfl, hp, h2, h3, hv, q.now w dv⟩
    · cases e
  | _ => cases e
theorem de_fld (hK : X.K = g.K) (hC : ClFs g.K g.mg f cs) (ha : PE X e (tM g rW W fa)) (hb : attributeBase e f X.env (eval e X.env) = eval e X.env := by rfl) : PE X (.Attribute e f pos) (tM g rD W (uo (fldD cs f) fa)) :=
  (pe_fld ha hb).dl fun σ H Q h => by
    rw [hK]
    exact tM_op1 (v_fld hC) σ H Q h
/-- o.f = e, o in the store -/
def fldS (cs : List Str) (f : Str) (fo fv : M D) : MS := bindS fv fun d => bindS fo fun o ρ ω => match o with
  | .oid k => match ω[k]? with
    | some (.obj c fs) => if cs.contains c = true ∧ fs.length < 1000 then some (.nx ρ (ω.set k (.obj c (putD f d fs)))) else none
    | _ => none
  | _ => none
/-- a thing of the store is written -/
theorem Fm.cellW {A : Ad} {B : Addr → Prop} {H H0 : Hp} {ω : List Cell} {σ : St} {ρ : Rho} {k : Nat} {a : Addr} {u : HO} {c : Cell} (h : Fm g H0 A B H ω σ ρ) (ha : A[k]? = some (some a)) (hz : ∀ o u, H a ≠ some (.frz o u)) (ok : ∀ H', (∀ b o, b ≠ a → H b = some o → H' b = some o) → H' a = some u → Mv A B H A B H' → CellOk g A B H' a c) :
    Fm g H0 A B (upd H a u) (ω.set k c) σ ρ ∧ Mv A B H A B (upd H a u) := by
  have hb : B a := h.wo.liv a (Liv.of ha)
  have m : Mv A B H A B (upd H a u) := ⟨fun b o nb e => ⟨by rw [upd_ne (fun z => nb (by rw [z]; exact hb))]; exact e, nb⟩, fun _ _ h => .inl h, frz_upd hz⟩
  refine ⟨⟨⟨by rw [List.length_set]; exact h.wo.len, h.wo.inj, h.wo.liv, fun b hb' => ?_, fun j c' e => ?_⟩, ⟨h.sl.len, fun j s e => ?_, h.sl.own⟩⟩, m⟩
  · by_cases z : b = a
    · exact ⟨_, by rw [z]; exact upd_same⟩
    · obtain ⟨o, e⟩ := h.wo.bnd b hb'
      exact ⟨o, by rw [upd_ne z]; exact e⟩
  · rcases getElem?_set_cases e with ⟨rfl, hl, rfl⟩ | ⟨ne, e⟩
    · exact .inr ⟨a, ha, ok _ (fun b o nb e => by rw [upd_ne nb]; exact e) upd_same m⟩
    · rcases h.wo.cell j c' e with z | ⟨b, h1, h2⟩
      · exact .inl z
      · exact .inr ⟨b, h1, h2.mv m fun o q => by rw [upd_ne (fun z => ne (h.wo.inj k j a ha (by rw [← z]; exact h1)))]; exact q⟩
  · have := h.sl.val j s e
    cases s with
    | no => trivial
    | ex p y => exact ⟨this.1, this.2.mv m⟩
    | fz d =>
      obtain ⟨v, e1, e2⟩ := this
      exact ⟨v, e1, Dp.mv m _ _ e2⟩
    | ow es =>
      obtain ⟨q, ws, e1, e2, e3, e4, e5, e6⟩ := this
      exact ⟨q, ws, e1, by rw [upd_ne (fun z => e5 (by rw [z]; exact Liv.of ha))]; exact e2, DpL.mv m _ _ e3, e4, e5, e6⟩
/-- .. seen from the entry -/
theorem Stp.cellW {A0 A : Ad} {B0 B : Addr → Prop} {H0 H : Hp} {a : Addr} {u : HO} (s : Stp A0 B0 H0 A B H) (ha : Liv A a) (hz : ∀ o u, H a ≠ some (.frz o u)) : Stp A0 B0 H0 A B (upd H a u) := by
  have nl : ∀ b o, H0 b = some o → ¬ Liv A0 b → b ≠ a := fun b o e n z => by
    rcases s.new a ha with h | h
    · exact n (by rw [z]; exact h)
    · rw [← z, e] at h; cases h
  refine ⟨fun b o e n => by rw [upd_ne (nl b o e n)]; exact s.keep b o e n, s.old, s.new, s.ids, fun b o e => ?_, fun b o u e => frz_upd hz b o u (s.frz b o u e)⟩
  obtain ⟨v, q⟩ := s.trk b o e
  by_cases z : b = a
  · exact ⟨_, by rw [z]; exact upd_same⟩
  · exact ⟨v, by rw [upd_ne z]; exact q⟩
theorem ds_fld (hK : X.K = g.K) (hC : ClFs g.K g.mg f cs) (ho : PE X o (tM g rD W fo)) (hv : PE X value (tM g rD W fv)) (hs : swapsWith value (some (.Attribute o f pos')) pos.line X.env = pure false := by rfl) : PS X (.Assign [.Attribute o f pos'] value pos) (tS g n W (fldS cs f fo fv)) :=
  (ps_fld ho hv hs).dl fun D σ H ⟨A, B, ρ, ω, r, s, fm, e, res⟩ => by
    refine tM_mono (tS_bind s fm e res) fun y H1 ⟨A1, B1, ω1, d, t1, m1, s1, fm1, r1, e1, res1⟩ => ?_
    refine tM_mono (tS_bind s1 fm1 e1 res1) fun x H2 ⟨A2, B2, ω2, d2, t2, m2, s2, fm2, r2, e2, res2⟩ => ?_
    cases d2 with
    | oid k =>
      simp only at e2
      cases q : ω2[k]? with
      | none => simp only [q] at e2; cases e2
      | some c =>
        cases c with
        | obj c fs =>
          simp only [q] at e2
          split at e2
          · rename_i hz
            cases e2
            have hcell : ∃ a, x = .ref a ∧ A2[k]? = some (some a) ∧ CellOk g A2 B2 H2 a (.obj c fs) := by
              rcases fm2.wo.cell k _ q with ⟨z, _⟩ | ⟨a, ha, ok⟩
              · cases z
              · cases r2 with
                | oid e => rw [ha] at e; cases e; exact ⟨a, rfl, ha, ok⟩
                | ded e => rw [ha] at e; cases e
            obtain ⟨a, rfl, ha, C, dx, vs, hp, hm, l⟩ := hcell
            obtain ⟨C', h1, h2, h3⟩ := hC.at hz.1
            rw [hm] at h1
            cases h1
            refine ⟨a, C, dx, vs, rfl, hp, by rw [hK]; exact h2, by rw [hK]; exact h3, by rw [l.len]; exact hz.2, ?_⟩
            have dy : Dp g A2 B2 H2 y d := Dp.mv (fm1.wo.mv t2) _ _ r1
            obtain ⟨fm3, m3⟩ := fm2.cellW (u := .ins C dx (putF f y vs)) (c := .obj c (putD f d fs)) ha (frz_not hp) fun H' _ hu m => ⟨C, dx, _, hu, hm, DpF.mv m _ _ (l.put dy)⟩
            exact res2.next m3 (s2.cellW (Liv.of ha) (frz_not hp)) fm3
          · cases e2
        | _ => simp only [q] at e2; cases e2
    | _ => cases e2
end
end DL
/-! DL11: things made, methods. -/
namespace DL
open PySem L2

mutual
/-- the store's things in d stand below n -/
def bel (n : Nat) : D → Prop
  | .tup ds => belL n ds
  | .lst ds => belL n ds
  | .dic ds => belK n ds
  | .obj _ fs => belF n fs
  | .oid k => k < n
  | .non => True
  | .bl _ => True
  | .int _ => True
  | .str _ => True
  | .scr _ => True
def belL (n : Nat) : List D → Prop
  | [] => True
  | d :: ds => bel n d ∧ belL n ds
def belK (n : Nat) : List (Key × D) → Prop
  | [] => True
  | (_, d) :: ds => bel n d ∧ belK n ds
def belF (n : Nat) : List (Str × D) → Prop
  | [] => True
  | (_, d) :: ds => bel n d ∧ belF n ds
end
mutual
/-- none of the store's things in d -/
def noO : D → Bool
  | .tup ds => noOL ds
  | .lst ds => noOL ds
  | .dic ds => noOK ds
  | .obj _ fs => noOF fs
  | .oid _ => false
  | .non => true
  | .bl _ => true
  | .int _ => true
  | .str _ => true
  | .scr _ => true
def noOL : List D → Bool
  | [] => true
  | d :: ds => noO d && noOL ds
def noOK : List (Key × D) → Bool
  | [] => true
  | (_, d) :: ds => noO d && noOK ds
def noOF : List (Str × D) → Bool
  | [] => true
  | (_, d) :: ds => noO d && noOF ds
end
mutual
theorem noO_bel {n : Nat} : ∀ d : D, noO d = true → bel n d
  | .tup ds, h => by simp only [bel]; exact noOL_bel ds (by simpa [noO] using h)
  | .lst ds, h => by simp only [bel]; exact noOL_bel ds (by simpa [noO] using h)
  | .dic ds, h => by simp only [bel]; exact noOK_bel ds (by simpa [noO] using h)
  | .obj c ds, h => by simp only [bel]; exact noOF_bel ds (by simpa [noO] using h)
  | .oid k, h => by simp [noO] at h
  | .non, _ => by simp [bel]
  | .bl _, _ => by simp [bel]
  | .int _, _ => by simp [bel]
  | .str _, _ => by simp [bel]
  | .scr _, _ => by simp [bel]
theorem noOL_bel {n : Nat} : ∀ ds : List D, noOL ds = true → belL n ds
  | [], _ => trivial
  | d :: ds, h => by
    simp only [noOL, Bool.and_eq_true] at h
    exact ⟨noO_bel d h.1, noOL_bel ds h.2⟩
theorem noOK_bel {n : Nat} : ∀ ds : List (Key × D), noOK ds = true → belK n ds
  | [], _ => trivial
  | (_, d) :: ds, h => by
    simp only [noOK, Bool.and_eq_true] at h
    exact ⟨noO_bel d h.1, noOK_bel ds h.2⟩
theorem noOF_bel {n : Nat} : ∀ ds : List (Str × D), noOF ds = true → belF n ds
  | [], _ => trivial
  | (_, d) :: ds, h => by
    simp only [noOF, Bool.and_eq_true] at h
    exact ⟨noO_bel d h.1, noOF_bel ds h.2⟩
end
section
variable {g : G} {A A' : Ad} {B B' : Addr → Prop} {H H' : Hp}
mutual
theorem Dp.bel : ∀ (d : D) (v : V), Dp g A B H v d → bel A.length d
  | .tup ds, _, h => by
    simp only [DL.bel]
    obtain ⟨a, vs, _, _, l⟩ := Dp.seq h
    exact DpL.bel ds vs l
  | .lst ds, _, h => by
    simp only [DL.bel]
    cases h with | lst _ _ l => exact DpL.bel ds _ l
  | .dic ds, _, h => by
    simp only [DL.bel]
    cases h with | dic _ _ l => exact DpK.bel ds _ l
  | .obj c ds, _, h => by
    simp only [DL.bel]
    cases h with | obj _ _ _ l => exact DpF.bel ds _ l
  | .oid k, _, h => by
    simp only [DL.bel]
    cases h with
    | oid e => exact (List.getElem?_eq_some_iff.mp e).1
    | ded e => exact (List.getElem?_eq_some_iff.mp e).1
  | .non, _, _ => by simp [DL.bel]
  | .bl _, _, _ => by simp [DL.bel]
  | .int _, _, _ => by simp [DL.bel]
  | .str _, _, _ => by simp [DL.bel]
  | .scr _, _, _ => by simp [DL.bel]
theorem DpL.bel : ∀ (ds : List D) (vs : List V), DpL g A B H vs ds → belL A.length ds
  | [], _, _ => trivial
  | d :: ds, _, h => by cases h with | cons h1 h2 => exact ⟨Dp.bel d _ h1, DpL.bel ds _ h2⟩
theorem DpK.bel : ∀ (ds : List (Key × D)) (vs : List (Key × V)), DpK g A B H vs ds → belK A.length ds
  | [], _, _ => trivial
  | (_, d) :: ds, _, h => by cases h with | cons h1 h2 => exact ⟨Dp.bel d _ h1, DpK.bel ds _ h2⟩
theorem DpF.bel : ∀ (ds : List (Str × D)) (vs : List (Str × V)), DpF g A B H vs ds → belF A.length ds
  | [], _, _ => trivial
  | (_, d) :: ds, _, h => by cases h with | cons h1 h2 => exact ⟨Dp.bel d _ h1, DpF.bel ds _ h2⟩
end
mutual
/-- the store is cut -/
theorem Dp.cut {n : Nat} (hB : ∀ a, B' a → B a) : ∀ (d : D) (v : V), bel n d → Dp g A B H v d → Dp g (A.take n) B' H v d
  | .tup ds, _, b, h => by
    simp only [DL.bel] at b
    cases h with
    | tup x y l => exact .tup (fun z => x (hB _ z)) y (DpL.cut hB ds _ b l)
    | tupK x l => exact .tupK x (DpL.cut hB ds _ b l)
  | .lst ds, _, b, h => by
    simp only [DL.bel] at b
    cases h with | lst x y l => exact .lst (fun z => x (hB _ z)) y (DpL.cut hB ds _ b l)
  | .dic ds, _, b, h => by
    simp only [DL.bel] at b
    cases h with | dic x y l => exact .dic (fun z => x (hB _ z)) y (DpK.cut hB ds _ b l)
  | .obj c ds, _, b, h => by
    simp only [DL.bel] at b
    cases h with | obj x y z l => exact .obj (fun z => x (hB _ z)) y z (DpF.cut hB ds _ b l)
  | .oid k, _, b, h => by
    simp only [DL.bel] at b
    cases h with
    | oid e => exact .oid (by rw [List.getElem?_take, if_pos b]; exact e)
    | ded e => exact .ded (by rw [List.getElem?_take, if_pos b]; exact e)
  | .non, _, _, h => by cases h; exact .non
  | .bl _, _, _, h => by cases h; exact .bl _
  | .int _, _, _, h => by cases h; exact .int _
  | .str _, _, _, h => by cases h; exact .str _
  | .scr _, _, _, h => by
    cases h with
    | scr x y => exact .scr (fun z => x (hB _ z)) y
    | scrK x => exact .scrK x
theorem DpL.cut {n : Nat} (hB : ∀ a, B' a → B a) : ∀ (ds : List D) (vs : List V), belL n ds → DpL g A B H vs ds → DpL g (A.take n) B' H vs ds
  | [], _, _, h => by cases h; exact .nil
  | d :: ds, _, b, h => by cases h with | cons h1 h2 => exact .cons (Dp.cut hB d _ b.1 h1) (DpL.cut hB ds _ b.2 h2)
theorem DpK.cut {n : Nat} (hB : ∀ a, B' a → B a) : ∀ (ds : List (Key × D)) (vs : List (Key × V)), belK n ds → DpK g A B H vs ds → DpK g (A.take n) B' H vs ds
  | [], _, _, h => by cases h; exact .nil
  | (_, d) :: ds, _, b, h => by cases h with | cons h1 h2 => exact .cons (Dp.cut hB d _ b.1 h1) (DpK.cut hB ds _ b.2 h2)
theorem DpF.cut {n : Nat} (hB : ∀ a, B' a → B a) : ∀ (ds : List (Str × D)) (vs : List (Str × V)), belF n ds → DpF g A B H vs ds → DpF g (A.take n) B' H vs ds
  | [], _, _, h => by cases h; exact .nil
  | (_, d) :: ds, _, b, h => by cases h with | cons h1 h2 => exact .cons (Dp.cut hB d _ b.1 h1) (DpF.cut hB ds _ b.2 h2)
end
def belC (n : Nat) : Cell → Prop
  | .dead => True
  | .lst ds => belL n ds
  | .dic ds => belK n ds
  | .obj _ fs => belF n fs
  | .ldc ds => belK n ds
theorem CellOk.bel {a : Addr} {c : Cell} (h : CellOk g A B H a c) : belC A.length c := by
  cases c with
  | dead => trivial
  | lst ds => obtain ⟨vs, _, l⟩ := h; exact DpL.bel _ _ l
  | dic ds => obtain ⟨vs, _, l⟩ := h; exact DpK.bel _ _ l
  | obj c fs => obtain ⟨_, _, vs, _, _, l⟩ := h; exact DpF.bel _ _ l
  | ldc ds => obtain ⟨o, vs, _, l⟩ := h; exact DpK.bel _ _ l
theorem CellOk.cut {n : Nat} {a : Addr} {c : Cell} (hB : ∀ a, B' a → B a) (b : belC n c) (h : CellOk g A B H a c) : CellOk g (A.take n) B' H a c := by
  cases c with
  | dead => exact h
  | lst ds => obtain ⟨vs, e, l⟩ := h; exact ⟨vs, e, DpL.cut hB _ _ b l⟩
  | dic ds => obtain ⟨vs, e, l⟩ := h; exact ⟨vs, e, DpK.cut hB _ _ b l⟩
  | obj c fs => obtain ⟨C, dx, vs, e, m, l⟩ := h; exact ⟨C, dx, vs, e, m, DpF.cut hB _ _ b l⟩
  | ldc ds => obtain ⟨o, vs, e, l⟩ := h; exact ⟨o, vs, e, DpK.cut hB _ _ b l⟩
theorem Wo.bel {ω : List Cell} {k : Nat} {c : Cell} (w : Wo g A B H ω) (e : ω[k]? = some c) : belC ω.length c := by
  rcases w.cell k c e with ⟨rfl, _⟩ | ⟨a, _, h⟩
  · trivial
  · rw [← w.len]; exact h.bel
end

/-! ### a thing is made -/
/-- __init__ as what it makes of the arguments -/
def initFn (c : Str) (I : List D → Option (List (Str × D))) : Fn := fun ds ω => match ds with
  | .oid k :: ds => match ω[k]? with
    | some (.obj c' []) => if c' = c then (match I ds with | some fs => some (.val .non (ω.set k (.obj c fs))) | none => none) else none
    | _ => none
  | _ => none
def mkO (c : Str) (I : List D → Option (List (Str × D))) (ds : List D) : M D := fun _ ω => match I ds with
  | some fs => if noOF fs = true then some (.val (.obj c fs) ω) else none
  | none => none
structure CalI (P : Program) (w : World) (K : PySem.W.Frag) (mg : Str → Option Value) (base : Heap) (c : Str) (ps : List Str) (k : Nat) (I : List D → Option (List (Str × D))) : Prop where
  ex : ∃ C f fd, mg c = some (.ref C) ∧ Mk K C f ∧ Binds K fd ps [] ∧ FnOk P w K mg base (L2.CX P w) k f fd ps (spD ⟨K, mg⟩ (initFn c I))
section
variable {g : G} {A A' : Ad} {B B' : Addr → Prop} {H H' H0 : Hp} {ω ω' : List Cell}
/-- a new thing of the store -/
theorem store_new {x dx C : Addr} {c : Str} (w : Wo g A B H ω) (hx : H x = none) (hd : H dx = none) (ne : dx ≠ x) (hm : g.mg c = some (.ref C)) :
    Stp A B H (A ++ [some x]) (fun a => B a ∨ a = x) (upd (upd H dx (.own x)) x (.ins C dx [])) ∧ Wo g (A ++ [some x]) (fun a => B a ∨ a = x) (upd (upd H dx (.own x)) x (.ins C dx [])) (ω ++ [.obj c []]) := by
  have old : ∀ b o, H b = some o → upd (upd H dx (.own x)) x (.ins C dx []) b = some o := fun b o e => by
    rw [upd_ne (ne_of_none e hx), upd_ne (ne_of_none e hd)]; exact e
  have nlx : ¬ Liv A x := fun z => by
    obtain ⟨o, e⟩ := w.bnd x (w.liv x z)
    rw [hx] at e; cases e
  have st : Stp A B H (A ++ [some x]) (fun a => B a ∨ a = x) (upd (upd H dx (.own x)) x (.ins C dx [])) := by
    refine ⟨fun a o e _ => old a o e, fun a o e _ => ⟨fun z => z.elim id fun z => (ne_of_none e hx z).elim, .inl⟩, fun a z => ?_, fun k y e => .inl ?_, fun a o e => ⟨o, old a o e⟩, fun a o u e => old a _ e⟩
    · rcases List.mem_append.mp z with z | z
      · exact .inl z
      · have : a = x := by simpa using z
        exact .inr (by rw [this]; exact hx)
    · rw [List.getElem?_append_left (List.getElem?_eq_some_iff.mp e).1]; exact e
  have m : Mv A B H (A ++ [some x]) (fun a => B a ∨ a = x) (upd (upd H dx (.own x)) x (.ins C dx [])) := w.mv st
  refine ⟨st, ⟨by simp [w.len], fun i j a ei ej => ?_, fun a z => ?_, fun a z => ?_, fun k c' e => ?_⟩⟩
  · have fix : ∀ (i : Nat) (a : Addr), (A ++ [some x])[i]? = some (some a) → (A[i]? = some (some a)) ∨ (i = A.length ∧ a = x) := fun i a e => by
      by_cases h : i < A.length
      · rw [List.getElem?_append_left h] at e; exact .inl e
      · rw [List.getElem?_append_right (Nat.le_of_not_lt h)] at e
        have hi : i - A.length = 0 := by
          cases q : i - A.length with
          | zero => rfl
          | succ n => rw [q] at e; simp at e
        rw [hi] at e
        have : x = a := by simpa using e
        exact .inr ⟨by omega, this.symm⟩
    rcases fix i a ei with h1 | ⟨h1, h2⟩
    · rcases fix j a ej with h3 | ⟨h3, h4⟩
      · exact w.inj i j a h1 h3
      · exact (nlx (by rw [← h4]; exact Liv.of h1)).elim
    · rcases fix j a ej with h3 | ⟨h3, h4⟩
      · exact (nlx (by rw [← h2]; exact Liv.of h3)).elim
      · rw [h1, h3]
  · rcases List.mem_append.mp z with z | z
    · exact .inl (w.liv a z)
    · exact .inr (by simpa using z)
  · rcases z with z | z
    · obtain ⟨o, e⟩ := w.bnd a z
      exact ⟨o, old a o e⟩
    · exact ⟨_, by rw [z]; exact upd_same⟩
  · by_cases h : k < ω.length
    · rw [List.getElem?_append_left h] at e
      rcases w.cell k c' e with ⟨h1, h2⟩ | ⟨a, h1, h2⟩
      · exact .inl ⟨h1, by rw [List.getElem?_append_left (by rw [w.len]; exact h)]; exact h2⟩
      · exact .inr ⟨a, by rw [List.getElem?_append_left (by rw [w.len]; exact h)]; exact h1, h2.mv m fun o e => old a o e⟩
    · rw [List.getElem?_append_right (Nat.le_of_not_lt h)] at e
      have hk : k - ω.length = 0 := by
        cases q : k - ω.length with
        | zero => rfl
        | succ n => rw [q] at e; simp at e
      rw [hk] at e
      have ec : Cell.obj c [] = c' := by simpa using e
      subst ec
      have ek : k = A.length := by rw [w.len]; omega
      refine .inr ⟨x, by rw [ek]; simp, C, dx, [], upd_same, hm, .nil⟩
/-- the last thing of the store becomes a datum -/
theorem store_take {x : Addr} {c : Str} {fs : List (Str × D)} (w0 : Wo g A B H ω) (t : Stp A B H A' B' H') (w : Wo g A' B' H' (ω ++ [.obj c fs])) (hx : A'[ω.length]? = some (some x)) (h0 : H x = none) (no : noOF fs = true) :
    Stp A B H (A'.take ω.length) (fun a => B' a ∧ a ≠ x) H' ∧ Wo g (A'.take ω.length) (fun a => B' a ∧ a ≠ x) H' ω ∧ Dp g (A'.take ω.length) (fun a => B' a ∧ a ≠ x) H' (.ref x) (.obj c fs) := by
  have hl : A'.length = ω.length + 1 := by rw [w.len]; simp
  have tk : ∀ (k : Nat), k < ω.length → (A'.take ω.length)[k]? = A'[k]? := fun k hk => by rw [List.getElem?_take, if_pos hk]
  have nx : ¬ Liv (A'.take ω.length) x := fun z => by
    obtain ⟨k, e⟩ := z.ix
    have hk : k < ω.length := by
      have := (List.getElem?_eq_some_iff.mp e).1
      simp at this; omega
    rw [tk k hk] at e
    have := w.inj k ω.length x e hx
    omega
  have lv : ∀ a, Liv (A'.take ω.length) a → Liv A' a := fun a z => List.mem_of_mem_take z
  refine ⟨⟨t.keep, fun a o e n => ?_, fun a z => t.new a (lv a z), fun k y e => ?_, t.trk, t.frz⟩, ⟨by simp [hl], fun i j a ei ej => ?_, fun a z => ⟨w.liv a (lv a z), fun e => nx (by rw [← e]; exact z)⟩, fun a z => w.bnd a z.1, fun k c' e => ?_⟩, ?_⟩
  · rw [← t.old a o e n]
    exact ⟨fun z => z.1, fun z => ⟨z, ne_of_none e h0⟩⟩
  · have hk : k < ω.length := by rw [← w0.len]; exact (List.getElem?_eq_some_iff.mp e).1
    rw [tk k hk]
    exact t.ids k y e
  · have hi : i < ω.length := by have := (List.getElem?_eq_some_iff.mp ei).1; simp at this; omega
    have hj : j < ω.length := by have := (List.getElem?_eq_some_iff.mp ej).1; simp at this; omega
    rw [tk i hi] at ei
    rw [tk j hj] at ej
    exact w.inj i j a ei ej
  · have hk : k < ω.length := (List.getElem?_eq_some_iff.mp e).1
    rw [tk k hk]
    rcases w.cell k c' (by rw [List.getElem?_append_left hk]; exact e) with z | ⟨a, h1, h2⟩
    · exact .inl z
    · exact .inr ⟨a, h1, h2.cut (fun _ z => z.1) (w0.bel e)⟩
  · rcases w.cell ω.length (.obj c fs) (by simp) with ⟨z, _⟩ | ⟨a, h1, C, dx, vs, h2, h3, h4⟩
    · cases z
    · rw [hx] at h1; cases h1
      exact .obj (fun z => z.2 rfl) h2 h3 (DpF.cut (fun _ z => z.1) _ _ (noOF_bel fs no) h4)
end
section
variable {X : Cx} {W : WX} {c : Str} {p pos : Pos} {e : Expr} {es : List Expr} {fs : M (List D)} {k j : Nat} {ps : List Str} {I : List D → Option (List (Str × D))}
theorem de_make (ci : CalI X.prog X.w X.K X.mg X.base c ps k I) (hr : Room j X.A) (hj : k + 1 ≤ j) (hg : Gl X c) (ha : PA X (e :: es) (tM ⟨X.K, X.mg⟩ rL W fs)) (hdb : (c == ("__debug__" : Str)) = false := by decide)
    (he : starEach (e :: es) X.env = (false, eval e X.env) :: starEach es X.env := by rfl) (hpl : (backTo pos (starEach es X.env)).any (·.1) = false := by rfl) : PE X (.Call (.Name c p) (e :: es) [] pos) (tM ⟨X.K, X.mg⟩ rD W (fs.bind (mkO c I))) := by
  obtain ⟨C, f, fd, h1, h2, h3, h4⟩ := ci.ex
  refine (pe_make h2 h4 (hr.mono hj) hg h1 h3 .nil passL ha hdb he hpl).dl fun σ H Q ⟨H0, A, B, ρ, ω, r, fm, e, res⟩ => ?_
  refine tM_mono (tM_bind fm e res) fun vs H1 ⟨A1, B1, ω1, ds, t1, fm1, r1, e1, res1⟩ => ?_
  intro x dx hx hd ne
  rw [List.append_nil]
  unfold mkO at e1
  cases q : I ds with
  | none => simp only [q] at e1; cases e1
  | some fl =>
    simp only [q] at e1
    split at e1
    · rename_i no
      cases e1
      obtain ⟨st, wo⟩ := store_new (c := c) fm1.wo hx hd ne h1
      have hlen : A1.length = ω1.length := fm1.wo.len
      have hid : (A1 ++ [some x])[ω1.length]? = some (some x) := by rw [← hlen]; simp
      refine ⟨_, _, ω1 ++ [.obj c []], .oid ω1.length :: ds, _, wo, .cons (.oid hid) (DpL.mv (fm1.wo.mv st) _ _ r1), (show initFn c I (.oid ω1.length :: ds) (ω1 ++ [.obj c []]) = some (.val .non (ω1 ++ [.obj c fl])) from ?_), fun v A' B' H' t w dp => ?_⟩
      · unfold initFn
        simp [q]
      · have ev : v = .non := by cases dp; rfl
        refine ⟨ev, ?_⟩
        have hx' : A'[ω1.length]? = some (some x) := by
          rcases t.ids _ _ hid with z | z
          · exact z
          · rcases w.cell ω1.length (.obj c fl) (by simp) with ⟨z', _⟩ | ⟨a, h, _⟩
            · cases z'
            · rw [z] at h; cases h
        obtain ⟨s9, w9, d9⟩ := store_take fm1.wo (st.trans t) w hx' hx no
        exact res1 (.ref x) _ _ H' s9 w9 d9
    · cases e1
end
end DL
/-! DL12: methods, own len and index, isinstance. -/
namespace DL
open PySem L2

structure CalM (P : Program) (w : World) (K : PySem.W.Frag) (mg : Str → Option Value) (base : Heap) (c m : Str) (ps : List Str) (k : Nat) (Gf : Fn) : Prop where
  ex : ∃ C f fd, mg c = some (.ref C) ∧ Cls K C ∧ (Meth K C m f ∧ PySem.W.fnIn K f = true) ∧ Binds K fd ps [] ∧ FnOk P w K mg base (L2.CX P w) k f fd ps (spD ⟨K, mg⟩ Gf)
theorem CalM.mono {P : Program} {w : World} {K : PySem.W.Frag} {mg : Str → Option Value} {base : Heap} {c m : Str} {ps : List Str} {k j : Nat} {Gf : Fn} (x : CalM P w K mg base c m ps k Gf) (h : k ≤ j) : CalM P w K mg base c m ps j Gf := by
  obtain ⟨C, f, fd, h1, h2, h3, h4, h5⟩ := x.ex
  exact ⟨C, f, fd, h1, h2, h3, h4, h5.mono h⟩
theorem CalM.imp {P : Program} {w : World} {K : PySem.W.Frag} {mg : Str → Option Value} {base : Heap} {c m : Str} {ps : List Str} {k : Nat} {Gf Gf' : Fn} (x : CalM P w K mg base c m ps k Gf) (h : ∀ ds ω r, Gf' ds ω = some r → Gf ds ω = some r) : CalM P w K mg base c m ps k Gf' := by
  obtain ⟨C, f, fd, h1, h2, h3, h4, h5⟩ := x.ex
  exact ⟨C, f, fd, h1, h2, h3, h4, h5.imp fun vs H Q E ⟨A, B, ω, ds, r, w, l, e, q⟩ => ⟨A, B, ω, ds, r, w, l, h ds ω r e, q⟩⟩
/-- one method of several classes -/
def CalMs (P : Program) (w : World) (K : PySem.W.Frag) (mg : Str → Option Value) (base : Heap) (m : Str) (k : Nat) (T : List (Str × Fn)) : Prop := ∀ c Gf, T.lookup c = some Gf → ∃ ps, CalM P w K mg base c m ps k Gf
section
variable {P : Program} {w : World} {K : PySem.W.Frag} {mg : Str → Option Value} {base : Heap} {m c : Str} {k j : Nat} {T : List (Str × Fn)} {ps : List Str} {Gf : Fn}
theorem cms_nil : CalMs P w K mg base m k [] := fun c Gf e => by cases e
theorem cms_cons (h : CalM P w K mg base c m ps j Gf) (hj : j ≤ k) (t : CalMs P w K mg base m k T) : CalMs P w K mg base m k ((c, Gf) :: T) := fun c' Gf' e => by
  rw [List.lookup_cons] at e
  cases q : c' == c with
  | true =>
    rw [q] at e
    cases e
    rw [eq_of_beq q]
    exact ⟨ps, h.mono hj⟩
  | false =>
    rw [q] at e
    exact t c' Gf' e
end
/-- the class of a thing that has no field m -/
def clsM (m : Str) (o : D) : M Str := fun _ ω => match view ω o with
  | some (.obj c fs) => match fs.lookup m with
    | none => some (.val c ω)
    | some _ => none
  | _ => none
theorem clsM_some {m : Str} {o : D} {ρ : Rho} {ω : List Cell} {r : R Str} (h : clsM m o ρ ω = some r) : ∃ c fs, view ω o = some (.obj c fs) ∧ fs.lookup m = none ∧ r = .val c ω := by
  unfold clsM at h
  split at h
  · rename_i c fs e
    split at h
    · rename_i e2
      cases h
      exact ⟨c, fs, e, e2, rfl⟩
    · cases h
  · cases h
def selM (T : List (Str × Fn)) (c : Str) (o : D) (fs : M (List D)) : M D := match T.lookup c with
  | some Gf => fs.bind fun ds => callM Gf (o :: ds)
  | none => fun _ _ => none
def methM (m : Str) (T : List (Str × Fn)) (fo : M D) (fs : M (List D)) : M D := fo.bind fun o => (clsM m o).bind fun c => selM T c o fs
section
variable {X : Cx} {W : WX} {m : Str} {p pos apos : Pos} {o e : Expr} {es : List Expr} {fo : M D} {fs : M (List D)} {k j : Nat} {T : List (Str × Fn)} {ta : TE} {t : TA}
def tMethT (X : Cx) (W : WX) (m : Str) (ta : TE) (t : TA) : TE := fun σ H Q => ta σ H fun x H1 => ∃ a C dx fs f fd ps sp k, x = .ref a ∧ H1 a = some (.ins C dx fs) ∧ fs.lookup m = none ∧ Cls X.K C ∧ Meth X.K C m f ∧ Binds X.K fd ps [] ∧ FnOk X.prog X.w X.K X.mg X.base (L2.CX X.prog X.w) k f fd ps sp ∧ Room k X.A ∧
  t σ H1 fun vs H2 => sp (x :: vs) H2 Q (WE W σ)
theorem pe_methT {pl : Sem Bool} (tk : Takes X W) (he : PE X o ta) (ha : PA X (e :: es) t)
    (hst : starEach (e :: es) X.env = (false, eval e X.env) :: starEach es X.env := by rfl) (hpl : (backTo pos (starEach es X.env)).any (·.1) = false := by rfl)
    (ht : eval (.Call (.Attribute o m apos) (e :: es) [] pos) X.env = (do
      let ov ← eval o X.env
      standAt apos.atName
      let (f, first) ← holding [ov] (getMethod ov m pl)
      callWith pos f first (backTo pos (starEach (e :: es) X.env)) (backToKw pos (keywordEach [] X.env))) := by rfl) :
    PE X (.Call (.Attribute o m apos) (e :: es) [] pos) (tMethT X W m ta t) := by
  refine ⟨fun pins s σ H Q I h => ?_⟩
  refine PySem.W.methodCall_KW (pl := pl) (thn (he.run pins s σ H _ I h) fun u s1 ⟨x, H1, I1, rx, a, C, dx, fs, f, fd, ps, sp, k, ex, ea, l, c, hm, hb, F, hr, q⟩ => ?_) ht
  subst ex
  obtain rfl : u = Value.ref a := rx
  refine getmeth_ok I1 ea c hm l ?_
  refine PySem.W.callWith_K (first := [.ref a]) (h₀ := X.base) I.ok.mod.kin hm.kp (thn (ha.run pos pins s1 σ H1 _ I1 q) fun us s2 ⟨vs, H2, I2, r, q2⟩ => ⟨I2.kIn, ?_⟩) hst hpl
  exact run_fnS (us := .ref a :: us) (vs := .ref a :: vs) (E := WE W) F hr hb (passAt tk σ) I2 (.cons rfl r) q2
theorem pe_methT0 {pl : Sem Bool} (tk : Takes X W) (he : PE X o ta)
    (ht : eval (.Call (.Attribute o m apos) [] [] pos) X.env = (do
      let ov ← eval o X.env
      standAt apos.atName
      let (f, first) ← holding [ov] (getMethod ov m pl)
      callWith pos f first (backTo pos (starEach [] X.env)) (backToKw pos (keywordEach [] X.env))) := by rfl) :
    PE X (.Call (.Attribute o m apos) [] [] pos) (tMethT X W m ta tNil) := by
  refine ⟨fun pins s σ H Q I h => ?_⟩
  refine PySem.W.methodCall_KW (pl := pl) (thn (he.run pins s σ H _ I h) fun u s1 ⟨x, H1, I1, rx, a, C, dx, fs, f, fd, ps, sp, k, ex, ea, l, c, hm, hb, F, hr, q⟩ => ?_) ht
  subst ex
  obtain rfl : u = Value.ref a := rx
  refine getmeth_ok I1 ea c hm l ?_
  exact PySem.W.callWith_K0 (first := [.ref a]) I1.kIn hm.kp (run_fnS (us := [.ref a]) (vs := [.ref a]) (E := WE W) F hr hb (passAt tk σ) I1 (.cons rfl .nil) q)
theorem tM_nilL {g : G} : ∀ σ H Q, tM g rL W (M.pure []) σ H Q → tNil σ H Q := by
  rintro σ H Q ⟨H0, A, B, ρ, ω, r, fm, e, res⟩
  cases e
  exact res [] A B H (.refl _ _ _) fm.wo .nil
/-- the class and the def of a thing -/
theorem meth_at {g : G} {A : Ad} {B : Addr → Prop} {H : Hp} {ω : List Cell} {ρ : Rho} {o : D} {x : V} {r : R Str} (w : Wo g A B H ω) (h : Dp g A B H x o) (e : clsM m o ρ ω = some r) :
    ∃ c a C dx vs, r = .val c ω ∧ x = .ref a ∧ H a = some (.ins C dx vs) ∧ g.mg c = some (.ref C) ∧ vs.lookup m = none := by
  obtain ⟨c, fl, e1, e2, rfl⟩ := clsM_some e
  obtain ⟨a, C, dx, vs, h1, h2, h3, h4⟩ := Vw.of h w e1
  exact ⟨c, a, C, dx, vs, rfl, h1, h2, h3, h4.no e2⟩
theorem tM_meth (cm : CalMs X.prog X.w X.K X.mg X.base m k T) (hr : Room j X.A) (hj : k ≤ j) : ∀ σ H Q, tM ⟨X.K, X.mg⟩ rD W (methM m T fo fs) σ H Q → tMethT X W m (tM ⟨X.K, X.mg⟩ rD W fo) (tM ⟨X.K, X.mg⟩ rL W fs) σ H Q := by
  rintro σ H Q ⟨H0, A, B, ρ, ω, r, fm, e, res⟩
  refine tM_mono (tM_bind fm e res) fun x H1 ⟨A1, B1, ω1, d1, t1, fm1, r1, e1, res1⟩ => ?_
  unfold M.bind at e1
  cases q : clsM m d1 ρ ω1 with
  | none => rw [q] at e1; cases e1
  | some z =>
    obtain ⟨c, a, C, dx, vs, rfl, rfl, hp, hc, hl⟩ := meth_at fm1.wo r1 q
    rw [q] at e1
    replace e1 : selM T c d1 fs ρ ω1 = some r := e1
    unfold selM at e1
    cases q2 : T.lookup c with
    | none => simp only [q2] at e1; cases e1
    | some Gf =>
      simp only [q2] at e1
      obtain ⟨ps, cc⟩ := cm c Gf q2
      obtain ⟨C', f, fd, h1, h2, h3, h4, h5⟩ := cc.ex
      have hC : C' = C := by
        have : (some (Value.ref C') : Option Value) = some (.ref C) := h1.symm.trans hc
        cases this; rfl
      subst hC
      refine ⟨a, C', dx, vs, f, fd, ps, _, k, rfl, hp, hl, h2, h3.1, h4, h5, hr.mono hj, ?_⟩
      refine tM_mono (tM_bind fm1 e1 res1) fun ws H2 ⟨A2, B2, ω2, ds, t2, fm2, r2, e2, res2⟩ => ?_
      refine ⟨A2, B2, ω2, d1 :: ds, r, fm2.wo, .cons (Dp.mv (fm1.wo.mv t2) _ _ r1) r2, e2, ?_⟩
      cases r with
      | val d ω' => exact fun v A' B' H' t w dp => res2 v A' B' H' t w dp
      | exc x ω' => exact fun cls dd A' B' H' t w xo => res2 cls dd A' B' H' t w xo
theorem de_meth (tk : Takes X W) (cm : CalMs X.prog X.w X.K X.mg X.base m k T) (hr : Room j X.A) (hj : k ≤ j) {pl : Sem Bool} (he : PE X o (tM ⟨X.K, X.mg⟩ rD W fo)) (ha : PA X (e :: es) (tM ⟨X.K, X.mg⟩ rL W fs))
    (hst : starEach (e :: es) X.env = (false, eval e X.env) :: starEach es X.env := by rfl) (hpl : (backTo pos (starEach es X.env)).any (·.1) = false := by rfl)
    (ht : eval (.Call (.Attribute o m apos) (e :: es) [] pos) X.env = (do
      let ov ← eval o X.env
      standAt apos.atName
      let (f, first) ← holding [ov] (getMethod ov m pl)
      callWith pos f first (backTo pos (starEach (e :: es) X.env)) (backToKw pos (keywordEach [] X.env))) := by rfl) :
    PE X (.Call (.Attribute o m apos) (e :: es) [] pos) (tM ⟨X.K, X.mg⟩ rD W (methM m T fo fs)) := (pe_methT tk he ha hst hpl ht).dl (tM_meth cm hr hj)
theorem de_meth0 (tk : Takes X W) (cm : CalMs X.prog X.w X.K X.mg X.base m k T) (hr : Room j X.A) (hj : k ≤ j) {pl : Sem Bool} (he : PE X o (tM ⟨X.K, X.mg⟩ rD W fo))
    (ht : eval (.Call (.Attribute o m apos) [] [] pos) X.env = (do
      let ov ← eval o X.env
      standAt apos.atName
      let (f, first) ← holding [ov] (getMethod ov m pl)
      callWith pos f first (backTo pos (starEach [] X.env)) (backToKw pos (keywordEach [] X.env))) := by rfl) :
    PE X (.Call (.Attribute o m apos) [] [] pos) (tM ⟨X.K, X.mg⟩ rD W (methM m T fo (M.pure []))) := (pe_methT0 tk he ht).dl fun σ H Q h => by
  have h' := tM_meth cm hr hj σ H Q h
  refine tM_mono h' fun x H1 ⟨a, C, dx, fs, f, fd, ps, sp, k, h1, h2, h3, h4, h5, h6, h7, h8, h9⟩ => ⟨a, C, dx, fs, f, fd, ps, sp, k, h1, h2, h3, h4, h5, h6, h7, h8, tM_nilL _ _ _ h9⟩

/-! ### rules that see the slots -/
def OpRS (X : Cx) (f : Value → Value → Sem Value) (r : St → R2) : Prop :=
  ∀ (pins : List (Addr × Obj)) (s : Shared) (σ : St) (H : Hp) (x y : V) (v u : Value) (Q : VK), Inv X pins σ H s → RelV x v → RelV y u → r σ x y H Q → wpAny (model X.prog X.w) X.A (f v u) (EP X pins σ Q) X.xe s
def CallRS (X : Cx) (f : Value) (r : St → List V → Hp → VK → Prop) : Prop :=
  ∀ (pins : List (Addr × Obj)) (s : Shared) (σ : St) (H : Hp) (xs : List V) (us : List Value) (Q : VK), Inv X pins σ H s → Vals xs us → r σ xs H Q → wpAny (model X.prog X.w) X.A (call f us) (EP X pins σ Q) X.xe s
def tOpS (r : St → R2) (ta tb : TE) : TE := fun σ H Q => ta σ H fun x H1 => tb σ H1 fun y H2 => r σ x y H2 Q
theorem pe_opS {a b : Expr} {tb : TE} {op : Operator} {r : St → R2} (ho : OpRS X (binaryOp op) r) (ha : PE X a ta) (hb : PE X b tb) : PE X (.BinOp a op b pos) (tOpS r ta tb) :=
  ⟨fun pins s σ H Q I h => wpAny_BinOp (binT ha hb I h fun v u s2 x y H2 I2 rx ry q => ho pins s2 σ H2 x y v u Q I2 rx ry q)⟩
theorem pe_cmpRS {a b : Expr} {tb : TE} {op : CmpOp} {r : St → R2} (ho : OpRS X (compareOp op) r) (ha : PE X a ta) (hb : PE X b tb) (hm : behindInMarks op b = false) : PE X (.Compare a [op] [b] pos) (tOpS r ta tb) :=
  ⟨fun pins s σ H Q I h => wpAny_Compare1 (binT ha hb I h fun v u s2 x y H2 I2 rx ry q => ho pins s2 σ H2 x y v u Q I2 rx ry q) hm⟩
theorem pt_cmpRS {a b : Expr} {tb : TE} {op : CmpOp} {r : St → R2} (ho : OpRS X (compareOp op) r) (ha : PE X a ta) (hb : PE X b tb) (hm : behindInMarks op b = false) : PT X (.Compare a [op] [b] pos) (tTest (tOpS r ta tb)) := by
  refine ⟨fun pins s σ H Q I h => wpAny_isTrue_Compare1 (thn (ha.run pins s σ H _ I h) fun v s1 ⟨x, H1, I1, r1, q1⟩ => thn (hb.run pins s1 σ H1 _ I1 q1) fun u s2 ⟨y, H2, I2, r2, q2⟩ =>
    thn (ho pins s2 σ H2 x y v u _ I2 r1 r2 q2) fun c s3 ⟨z, H3, I3, r3, k, e, q3⟩ => ?_) hm⟩
  subst e
  cases r3
  exact wpAny_truthy_bool ⟨H3, I3, q3⟩
theorem pe_callBS {x : Str} {id : String} {r : St → List V → Hp → VK → Prop} (hc : CallRS X (.builtin id) r) (hg : Gl X x) (hm : X.mg x = none) (hv : bootBuiltins x = some (.builtin id)) (ha : PA X (e :: es) t) (hn : x ≠ "__name__" := by decide) (hdb : (x == ("__debug__" : Str)) = false := by decide)
    (he : starEach (e :: es) X.env = (false, eval e X.env) :: starEach es X.env := by rfl) (hpl : (backTo pos (starEach es X.env)).any (·.1) = false := by rfl) : PE X (.Call (.Name x p) (e :: es) [] pos) (fun σ H Q => t σ H fun vs H1 => r σ vs H1 Q) :=
  ⟨fun pins s σ H Q I h => wpAny_Call_Name_kw (ld_blt I hg hm hv (PyProof.Rows.callWith_builtin1 (thn (ha.run pos pins s σ H _ I h) fun us s1 ⟨vs, H1, I1, r1, q1⟩ => hc pins s1 σ H1 vs us Q I1 r1 q1) he hpl) hn hdb)⟩

/-! ### len and index of an own class -/
/-- a def runs, around it A' -/
theorem run_at {A' : Around} {pins : List (Addr × Obj)} {s : Shared} {σ : St} {H : Hp} {f : Addr} {fd : FuncData} {ps : List Str} {sp : Sp} {us : List Value} {vs : List V} {Q : VK} (tk : Takes X W) (F : FnOk X.prog X.w X.K X.mg X.base (L2.CX X.prog X.w) k f fd ps sp) (hr : Room k A') (e0 : Env0 X.prog X.w X.K X.mg X.base A' X.stack s H) (hb : Binds X.K fd ps [])
    (I : Inv X pins σ H s) (r : Vals vs us) (h : sp vs H Q (WE W σ)) : wpAny (model X.prog X.w) A' (call (.ref f) us) (EP X pins σ Q) X.xe s := by
  have hl := F.len _ _ _ _ h
  refine wpAny_call (codeAny_mono (F.run A' X.stack s H ⟨us, []⟩ us vs Q (WE W σ) hr e0 (by
    have := hb s us I.kIn (by rw [List.append_nil, ← r.length]; exact hl)
    simpa using this) r h) fun r s' hq => ?_)
  cases r with
  | error e => exact passAt tk σ pins H s e s' I hq
  | ok fl =>
    cases fl with
    | ret w => exact I.after hq
    | next => exact False.elim hq
    | brk => exact False.elim hq
    | cont => exact False.elim hq
/-- the def of a class's special method -/
def OwnR (X : Cx) (W : WX) (m : Str) (post : V → Hp → VK → Prop) : St → List V → Hp → VK → Prop := fun σ xs H Q => ∃ a C dx fs f fd ps sp k ys, xs = .ref a :: ys ∧ H a = some (.ins C dx fs) ∧ (Meth X.K C m f ∧ PySem.W.fnIn X.K f = true) ∧ Binds X.K fd ps [] ∧ FnOk X.prog X.w X.K X.mg X.base (L2.CX X.prog X.w) k f fd ps sp ∧ Room (k + 1) X.A ∧
  sp xs H (fun v H' => post v H' Q) (WE W σ)
theorem call_lenO (tk : Takes X W) : CallRS X (.builtin "len") (fun σ xs H Q => xs.length = 1 ∧ OwnR X W "__len__" (fun v H' Q => ∃ n : Int, v = .int n ∧ 0 ≤ n ∧ n < 2 ^ 63 ∧ Q (.int n) H') σ xs H Q) := by
  intro pins s σ H xs us Q I r h
  obtain ⟨hl, a, C, dx, fs, f, fd, ps, sp, k, ys, rfl, hp, ⟨hm, _⟩, hb, F, hr, h⟩ := h
  have : ys = [] := List.length_eq_zero_iff.mp (by simpa using hl)
  subst this
  obtain ⟨u1, rfl, r1⟩ : ∃ u, us = [u] ∧ RelV (.ref a) u := by
    cases r with
    | cons r1 r2 => cases r2; exact ⟨_, rfl, r1⟩
  cases (show u1 = Value.ref a from r1)
  obtain ⟨mA, J, _⟩ := ins_get I.hok hp
  obtain ⟨od, J, _⟩ := J.look
  obtain ⟨m, hF⟩ := I.fr
  refine PySem.W.len_K hF I.ok.mod.kin J hm.at_ hm.fn (wpAny_mono (run_at tk F hr.in1 I.env0.in1 hb I r h) (fun v s' z => ?_) fun _ _ x => x)
  obtain ⟨x, H', I', rx, n, rfl, n0, n1, q⟩ := z
  obtain ⟨t, rfl⟩ := (show ∃ t, v = Value.int n t from rx)
  exact ⟨⟨n0, n1⟩, .int n, H', I'.tok _, ⟨_, rfl⟩, q⟩
/-- the class's def on these data -/
def ownM (m : Str) (T : List (Str × Fn)) (o : D) (ds : List D) : M D := fun ρ ω => match view ω o with
  | some (.obj c _) => match T.lookup c with
    | some Gf => callM Gf (o :: ds) ρ ω
    | none => none
  | _ => none
theorem own_at {g : G} {A : Ad} {B : Addr → Prop} {H : Hp} {ω : List Cell} {ρ : Rho} {o : D} {ds : List D} {x : V} {xs : List V} {r : R D} {σ : St} {Q : VK} {H0 : Hp} {post : V → Hp → VK → Prop} {W : WX} (hg : g = ⟨X.K, X.mg⟩) (cm : CalMs X.prog X.w X.K X.mg X.base m k T) (hr : Room j X.A) (hj : k + 1 ≤ j) (fm : Fm g H0 A B H ω σ ρ)
    (h : Dp g A B H x o) (l : DpL g A B H xs ds) (e : ownM m T o ds ρ ω = some r) (res : ResOk g rD W σ A B H (fun v H' => post v H' Q) r) : OwnR X W m post σ (x :: xs) H Q := by
  subst hg
  unfold ownM at e
  split at e
  · rename_i c fl ev
    obtain ⟨a, C, dx, vs, rfl, hp, hc, _⟩ := Vw.of h fm.wo ev
    cases q2 : T.lookup c with
    | none => simp only [q2] at e; cases e
    | some Gf =>
      simp only [q2] at e
      obtain ⟨ps, cc⟩ := cm c Gf q2
      obtain ⟨C', f, fd, h1, h2, h3, h4, h5⟩ := cc.ex
      have hC : C' = C := by
        have : (some (Value.ref C') : Option Value) = some (.ref C) := h1.symm.trans hc
        cases this; rfl
      subst hC
      refine ⟨a, C', dx, vs, f, fd, ps, _, k, xs, rfl, hp, h3, h4, h5, hr.mono hj, A, B, ω, o :: ds, r, fm.wo, .cons h l, e, ?_⟩
      cases r with
      | val d ω' => exact fun v A' B' H' t w dp => res v A' B' H' t w dp
      | exc x ω' => exact fun cls dd A' B' H' t w xo => res cls dd A' B' H' t w xo
  · cases e
def lenB : D → M D
  | .int n => fun _ ω => if 0 ≤ n ∧ n < 2 ^ 63 then some (.val (.int n) ω) else none
  | _ => fun _ _ => none
def lenO (T : List (Str × Fn)) (fo : M D) : M D := fo.bind fun o => (ownM "__len__" T o []).bind lenB
theorem de_lenO (tk : Takes X W) (cm : CalMs X.prog X.w X.K X.mg X.base "__len__" k T) (hr : Room j X.A) (hj : k + 1 ≤ j) (hg : Gl X "len") (hm : X.mg "len" = none) (ha : PE X e (tM ⟨X.K, X.mg⟩ rD W fo)) (he : starEach [e] X.env = (false, eval e X.env) :: starEach [] X.env := by rfl)
    (hpl : (backTo pos (starEach [] X.env)).any (·.1) = false := by rfl) : PE X (.Call (.Name "len" p) [e] [] pos) (tM ⟨X.K, X.mg⟩ rD W (lenO T fo)) := by
  refine (pe_callBS (call_lenO tk) hg hm (by decide +kernel) (pa_cons ha pa_nil he) (by decide) (by decide) he hpl).dl ?_
  rintro σ H Q ⟨H0, A, B, ρ, ω, r, fm, e, res⟩
  refine tM_mono (tM_bind fm e res) fun x H1 ⟨A1, B1, ω1, d1, t1, fm1, r1, e1, res1⟩ => ⟨rfl, ?_⟩
  unfold M.bind at e1
  cases q : ownM "__len__" T d1 [] ρ ω1 with
  | none => rw [q] at e1; cases e1
  | some z =>
    rw [q] at e1
    refine own_at (W := W) rfl cm hr hj fm1 r1 .nil q ?_
    cases z with
    | exc x ω' =>
      cases e1
      exact fun cls dd A' B' H' t w xo => res1 cls dd A' B' H' t w xo
    | val d ω' =>
      replace e1 : lenB d ρ ω' = some r := e1
      intro v A' B' H' t w dp
      cases d with
      | int n =>
        simp only [lenB] at e1
        split at e1
        · rename_i hz
          cases e1
          cases dp
          exact ⟨n, rfl, hz.1, hz.2, res1 _ A' B' H' t w (.int n)⟩
        · cases e1
      | _ => cases e1
/-- o[i] by the class's own def -/
def tIxO (X : Cx) (W : WX) (ta tb : TE) : TE := fun σ H Q => ta σ H fun x H1 => tb σ H1 fun y H2 => OwnR X W "__getitem__" (fun v H' Q => Q v H') σ [x, y] H2 Q
theorem pe_ixO {i : Expr} {ta tb : TE} (tk : Takes X W) (ha : PE X o ta) (hb : PE X i tb) (hsl : ∀ x u, subscripted i true (.ref x) u = runValue (.builtin "lifetime.subscript" ⟨[.ref x, u], []⟩) := by intro _ _; with_unfolding_all rfl) : PE X (.Subscript o i pos) (tIxO X W ta tb) := by
  refine ⟨fun pins s σ H Q I h => ?_⟩
  refine PyProof.Rows.Subscript_ (binT ha hb I h fun v u s2 x y H2 I2 rx ry q => ?_)
  obtain ⟨a, C, dx, fs, f, fd, ps, sp, k, ys, e1, hp, ⟨hm, hfn⟩, hbi, F, hr, q⟩ := q
  cases e1
  cases (show v = Value.ref a from rx)
  obtain ⟨mA, J, _⟩ := ins_get I2.hok hp
  obtain ⟨od, J, _⟩ := J.look
  obtain ⟨m, hF⟩ := I2.fr
  exact PySem.W.sub_K hF I2.ok.mod.kin J hm.at_ hfn hm.fn (run_at tk F hr.in1 I2.env0.in1 hbi I2 (.cons (show RelV (.ref a) (.ref a) from rfl) (.cons ry .nil)) q) (hsl _ _)
def ixO (T : List (Str × Fn)) (fo fi : M D) : M D := fo.bind fun o => fi.bind fun i => ownM "__getitem__" T o [i]
theorem de_ixO {i : Expr} {fi : M D} (tk : Takes X W) (cm : CalMs X.prog X.w X.K X.mg X.base "__getitem__" k T) (hr : Room j X.A) (hj : k + 1 ≤ j) (ha : PE X o (tM ⟨X.K, X.mg⟩ rD W fo)) (hb : PE X i (tM ⟨X.K, X.mg⟩ rD W fi))
    (hsl : ∀ x u, subscripted i true (.ref x) u = runValue (.builtin "lifetime.subscript" ⟨[.ref x, u], []⟩) := by intro _ _; with_unfolding_all rfl) : PE X (.Subscript o i pos) (tM ⟨X.K, X.mg⟩ rD W (ixO T fo fi)) := by
  refine (pe_ixO tk ha hb hsl).dl ?_
  rintro σ H Q ⟨H0, A, B, ρ, ω, r, fm, e, res⟩
  refine tM_mono (tM_bind fm e res) fun x H1 ⟨A1, B1, ω1, d1, t1, fm1, r1, e1, res1⟩ => ?_
  refine tM_mono (tM_bind fm1 e1 res1) fun y H2 ⟨A2, B2, ω2, d2, t2, fm2, r2, e2, res2⟩ => ?_
  exact own_at (W := W) rfl cm hr hj fm2 (Dp.mv (fm1.wo.mv t2) _ _ r1) (.cons r2 .nil) e2 res2

/-! ### isinstance -/
/-- a class that isinstance can read -/
structure ClT (K : PySem.W.Frag) (C : Addr) : Prop where
  cl : Cls K C
  ha : PySem.W.findIn K (.ref C) "__class__" = some (some (.builtin "object.__class__"))
  hn : PySem.W.specialIn K (.builtin "object.__class__") "__get__" = some (some (.builtin "getset_descriptor.__get__"))
  ht : PySem.W.takesIn K (.builtin "object.__class__") = some true
  hm : PySem.W.mroIn K C (.type "object") = some true
/-- the built-in type of a datum -/
def tyB : D → Option String
  | .non => some "NoneType"
  | .bl _ => some "bool"
  | .int _ => some "int"
  | .str _ => some "str"
  | .tup _ => some "tuple"
  | .lst _ => some "list"
  | .dic _ => some "dict"
  | .scr _ => some "list"
  | _ => none
/-- isinstance(x, T), T built in -/
def isiB (S : String) (d : D) : Option D := match tyB d with
  | some t => (kitB t S).map D.bl
  | none => none
theorem tyB_ok {g : G} {A : Ad} {B : Addr → Prop} {H : Hp} {x : V} {d : D} {t : String} (h : Vw g A B H x d) (e : tyB d = some t) : TyX g.K H x (.type t) := by
  cases d with
  | non => cases e; cases h; exact .base .non
  | bl b => cases e; cases h; exact .base (.bl _)
  | int b => cases e; cases h; exact .base (.int _)
  | str b => cases e; cases h; exact .base (.str _)
  | tup ds =>
    cases e
    have h' : Dp g A B H x (.tup ds) := h
    cases h' with
    | tup n r l => exact .base (.tup r)
    | tupK k l =>
      obtain ⟨o, its, n, h1, h2, _⟩ := k
      exact .kTuple h1 h2
  | lst ds =>
    cases e
    obtain ⟨a, vs, rfl, h1, _⟩ := h
    exact .base (.lst h1)
  | dic ds =>
    cases e
    obtain ⟨a, vs, rfl, h1, _⟩ := h
    rcases h1 with h1 | ⟨o, h1⟩
    · exact .base (.dK h1)
    · exact .fDict h1
  | scr ns =>
    cases e
    obtain ⟨a, rfl, h1⟩ := h
    rcases h1 with h1 | ⟨o, its, n, h1, h2, _⟩
    · rcases h1 with h1 | ⟨o, h1⟩
      · exact .base (.lst h1)
      · exact .base (.frz h1)
    · exact .kList h1 h2
  | _ => cases e
theorem v_isiB (g : G) (S : String) : V1 g (fun x H Q => rIsi g.K [x, .ty S] H Q) (isiB S) := by
  intro A B H ω x a c Q w ha e q
  unfold isiB at e
  cases q1 : tyB a with
  | none => rw [q1] at e; cases e
  | some t =>
    rw [q1] at e
    cases q2 : kitB t S with
    | none => simp only [q2] at e; cases e
    | some b =>
      simp only [q2] at e
      cases e
      exact ⟨x, .ty S, .type t, .type S, b, rfl, .ty S, tyB_ok ha q1, kit_ty q2, q.now w (.bl b)⟩
theorem de_isiB {fa : M D} {S : String} {x : Str} {np : Pos} (hg : Gl X "isinstance") (hm : X.mg "isinstance" = none) (hgx : Gl X x) (hmx : X.mg x = none) (hb : bootBuiltins x = some (.type S)) (ha : PE X e (tM ⟨X.K, X.mg⟩ rW W fa)) (hnx : x ≠ "__name__" := by decide) (hdx : (x == ("__debug__" : Str)) = false := by decide)
    (he : starEach [e, .Name x np] X.env = (false, eval e X.env) :: starEach [.Name x np] X.env := by rfl) (he2 : starEach [.Name x np] X.env = (false, eval (.Name x np) X.env) :: starEach [] X.env := by rfl) (hpl : (backTo pos (starEach [.Name x np] X.env)).any (·.1) = false := by rfl) :
    PE X (.Call (.Name "isinstance" p) [e, .Name x np] [] pos) (tM ⟨X.K, X.mg⟩ rD W (uo (isiB S) fa)) :=
  (pe_callB call_isi hg hm (by decide +kernel) (pa_cons ha (pa_cons (pe_bltn (v := .ty S) hgx hmx hb rfl hnx hdx) pa_nil he2) he) (by decide) (by decide) he hpl).dl fun σ H Q h => tM_op1 (r := fun x H Q => rIsi X.K [x, .ty S] H Q) (v_isiB ⟨X.K, X.mg⟩ S) σ H Q h
end
end DL
/-! DL13: what is never reached; defs, methods and makers of the text; the law's end. -/
namespace DL
open PySem L2
section
variable {X : Cx} {g : G} {n : En} {W : WX} {st : Stmt} {sts : List Stmt} {e : Expr}
/-- never reached -/
def noS : MS := fun _ _ => none
theorem ds_none : PS X st (tS g n W noS) := ⟨fun pins s σ H D I ⟨A, B, ρ, ω, r, _, fm, e, res⟩ => by cases e⟩
theorem dss_none : PSs X sts (tS g n W noS) := ⟨fun pins s σ H D I ⟨A, B, ρ, ω, r, _, fm, e, res⟩ => by cases e⟩
def noM : M D := fun _ _ => none
theorem de_none : PE X e (tM g rD W noM) := ⟨fun pins s σ H Q I ⟨H0, A, B, ρ, ω, r, fm, e, res⟩ => by cases e⟩
end
structure FM (K : PySem.W.Frag) (mg : Str → Option Value) (c m qual : Str) (st : Stmt) : Prop where
  ex : ∃ C f fd, mg c = some (.ref C) ∧ Cls K C ∧ (Meth K C m f ∧ PySem.W.fnIn K f = true) ∧ Fun K m qual st f fd
structure FI (K : PySem.W.Frag) (mg : Str → Option Value) (c qual : Str) (st : Stmt) : Prop where
  ex : ∃ C f fd, mg c = some (.ref C) ∧ Mk K C f ∧ Fun K "__init__" qual st f fd
section
variable {P : Program} {w : World} {K : PySem.W.Frag} {mg : Str → Option Value} {base : Heap} {c m qual : Str} {st : Stmt} {ps : List Str} {k : Nat} {Gf : Fn} {I : List D → Option (List (Str × D))}
theorem calM_of (T : FM K mg c m qual st) (b : ∀ a fd, Fun K m qual st a fd → Binds K fd ps []) (h : ∀ a fd, Fun K m qual st a fd → FnOk P w K mg base (L2.CX P w) k a fd ps (spD ⟨K, mg⟩ Gf)) : CalM P w K mg base c m ps k Gf := by
  obtain ⟨C, f, fd, h1, h2, h3, F⟩ := T.ex
  exact ⟨C, f, fd, h1, h2, h3, b f fd F, h f fd F⟩
theorem calI_of (T : FI K mg c qual st) (b : ∀ a fd, Fun K "__init__" qual st a fd → Binds K fd ps []) (h : ∀ a fd, Fun K "__init__" qual st a fd → FnOk P w K mg base (L2.CX P w) k a fd ps (spD ⟨K, mg⟩ (initFn c I))) : CalI P w K mg base c ps k I := by
  obtain ⟨C, f, fd, h1, h2, F⟩ := T.ex
  exact ⟨C, f, fd, h1, h2, b f fd F, h f fd F⟩
theorem CalI.mono {j : Nat} (x : CalI P w K mg base c ps k I) (h : k ≤ j) : CalI P w K mg base c ps j I := by
  obtain ⟨C, f, fd, h1, h2, h3, h4⟩ := x.ex
  exact ⟨C, f, fd, h1, h2, h3, h4.mono h⟩
theorem CalI.imp {I' : List D → Option (List (Str × D))} (x : CalI P w K mg base c ps k I) (h : ∀ ds fs, I' ds = some fs → I ds = some fs) : CalI P w K mg base c ps k I' := by
  obtain ⟨C, f, fd, h1, h2, h3, h4⟩ := x.ex
  refine ⟨C, f, fd, h1, h2, h3, h4.imp fun vs H Q E ⟨A, B, ω, ds, r, w, l, e, q⟩ => ⟨A, B, ω, ds, r, w, l, ?_, q⟩⟩
  unfold initFn at e ⊢
  split at e
  · split at e
    · split at e
      · rename_i k' ds' _ _ _ hc he
        split at e
        · rename_i fs' hf
          simp only [he, hc, if_true, h _ _ hf]
          exact e
        · cases e
      · cases e
    · cases e
  · cases e
end
/-- what the law promises -/
def spLaw (K : PySem.W.Frag) : Sp := fun vs H Q _ => ∃ (a : Addr) (ns : List Int), vs = [.ref a] ∧ SqL K H a (ns.map V.int) ∧ ns.length ≤ 63 ∧ ∀ H', Q (.bl true) H'
theorem wo0 {g : G} {H : Hp} : Wo g [] (fun _ => False) H [] := ⟨rfl, fun i j a e => (by simp at e), fun a h => (by cases h), fun a h => False.elim h, fun k c e => (by simp at e)⟩
end DL
/-! DL14: a def's function by its reading; values of readings. -/
namespace DL
open PySem L2
/-- the function that a reading is -/
def fnV (N : List Str) (k : Nat) (F : MS) : Fn := fun ds ω => if ds.length = k then (match F (startE N ds) ω with
  | some (.rt d ω') => some (.val d ω')
  | some (.nx _ ω') => some (.val .non ω')
  | _ => none) else none
theorem hf_V {N : List Str} {k : Nat} {F : MS} : ∀ ds ω r, fnV N k F ds ω = some r → ds.length = k ∧ ∃ d ω' rs, r = .val d ω' ∧ F (startE N ds) ω = some rs ∧ retOf rs = some r := by
  intro ds ω r h
  unfold fnV at h
  split at h
  · rename_i hl
    split at h
    · rename_i d ω' e
      cases h
      exact ⟨hl, d, ω', _, rfl, e, rfl⟩
    · rename_i ρ' ω' e
      cases h
      exact ⟨hl, .non, ω', _, rfl, e, rfl⟩
    · cases h
  · cases h
section
variable {N : List Str} {k : Nat} {F : MS} {ds : List D} {ω ω' : List Cell} {d : D} {ρ : Rho}
theorem fnV_rt (hl : ds.length = k) (h : F (startE N ds) ω = some (.rt d ω')) : fnV N k F ds ω = some (.val d ω') := by
  unfold fnV
  rw [if_pos hl, h]
theorem callM_of {Gf : Fn} (h : Gf ds ω = some (.val d ω')) : callM Gf ds ρ ω = some (.val d ω') := by unfold callM; rw [h]
theorem calM_ev {Gf : Fn} {fs : M (List D)} {ω1 : List Cell} (ha : fs ρ ω = some (.val ds ω1)) (h : Gf ds ω1 = some (.val d ω')) : calM Gf fs ρ ω = some (.val d ω') := by
  unfold calM
  rw [bind_ev ha, callM_of h]
end
/-- the law's own def -/
theorem law_fn {P : Program} {w : World} {K : PySem.W.Frag} {mg : Str → Option Value} {base : Heap} {f : Addr} {fd : FuncData} {y : Str} {k : Nat} {Gf : Fn} (F : FnOk P w K mg base CX0 k f fd [y] (spD ⟨K, mg⟩ Gf)) (h : ∀ ns : List Int, ns.length ≤ 63 → Gf [.scr ns] [] = some (.val (.bl true) [])) : FnOk P w K mg base CX0 k f fd [y] (spLaw K) := by
  refine F.imp fun vs H Q E ⟨b, ns, e, s, l, q⟩ => ?_
  subst e
  refine ⟨[], fun _ => False, [], [.scr ns], _, wo0, .cons ?_ .nil, h ns l, fun v A' B' H' t w dp => ?_⟩
  · rcases s with s | s
    · exact .scr (fun z => z) s
    · exact .scrK s
  · cases dp
    exact q H'

/-! ### values -/
theorem plainL_ints (xs : List Int) : plainL (xs.map D.int) = true := by
  induction xs with
  | nil => rfl
  | cons x xs ih => simp [plainL, plain, ih]
theorem depL_ints (xs : List Int) : depL (xs.map D.int) = 0 := by
  induction xs with
  | nil => rfl
  | cons x xs ih => simp [depL, dep, ih]
theorem fine_int (i : Int) : fine (.int i) = true := rfl
theorem fine_bl (b : Bool) : fine (.bl b) = true := rfl
theorem fine_ints (xs : List Int) : fine (.lst (xs.map D.int)) = true := by
  rw [fine_iff]
  exact ⟨by simp [plain, plainL_ints], by simp [dep, depL_ints]⟩
theorem any_eqb_ints (i : Int) (xs : List Int) : ((xs.map D.int).any fun z => eqb z (.int i)) = decide (i ∈ xs) := by
  induction xs with
  | nil => rfl
  | cons x xs ih =>
    rw [List.map_cons, List.any_cons, ih]
    by_cases h : x = i
    · subst h; simp [eqb]
    · have : ¬ i = x := fun e => h e.symm
      simp [eqb, h, this]
theorem inB_ints (i : Int) (xs : List Int) : inB (.int i) (.lst (xs.map D.int)) = some (decide (i ∈ xs)) := by
  show (if (fine (.int i) && fine (.lst (xs.map D.int))) = true then some ((xs.map D.int).any fun z => eqb z (.int i)) else none) = _
  rw [fine_int, fine_ints, any_eqb_ints]
  rfl
theorem inD_ints (i : Int) (xs : List Int) : inD (.int i) (.lst (xs.map D.int)) = some (.bl (decide (i ∈ xs))) := by unfold inD; rw [inB_ints]; rfl
theorem notInD_ints (i : Int) (xs : List Int) : notInD (.int i) (.lst (xs.map D.int)) = some (.bl !(decide (i ∈ xs))) := by unfold notInD; rw [inB_ints]; rfl
theorem anyD_bls (bs : List Bool) : anyD (.lst (bs.map D.bl)) = some (.bl (bs.any id)) := by show (boolsOf (bs.map D.bl)).map _ = _; rw [boolsOf_map]; rfl
theorem allD_bls (bs : List Bool) : allD (.lst (bs.map D.bl)) = some (.bl (bs.all id)) := by show (boolsOf (bs.map D.bl)).map _ = _; rw [boolsOf_map]; rfl
theorem ixD_lst {ds : List D} {i : Nat} {d : D} (h : ds[i]? = some d) : ixD (.lst ds) (.int i) = some d := by unfold ixD; exact atI_nat h
theorem ixD_tup {ds : List D} {i : Nat} {d : D} (h : ds[i]? = some d) : ixD (.tup ds) (.int i) = some d := by unfold ixD; exact atI_nat h
theorem ixD_lstI {ds : List D} {i : Int} {d : D} (h0 : 0 ≤ i) (h : ds[i.toNat]? = some d) : ixD (.lst ds) (.int i) = some d := by unfold ixD; exact atI_some h0 h
theorem ixD_t0 (a : D) (r : List D) : ixD (.tup (a :: r)) (.int 0) = some a := ixD_tup (i := 0) rfl
theorem ixD_t1 (a b : D) (r : List D) : ixD (.tup (a :: b :: r)) (.int 1) = some b := ixD_tup (i := 1) rfl
theorem ixD_t2 (a b c : D) (r : List D) : ixD (.tup (a :: b :: c :: r)) (.int 2) = some c := ixD_tup (i := 2) rfl
theorem ixD_t3 (a b c d : D) (r : List D) : ixD (.tup (a :: b :: c :: d :: r)) (.int 3) = some d := ixD_tup (i := 3) rfl
theorem ixD_l0 (a : D) (r : List D) : ixD (.lst (a :: r)) (.int 0) = some a := ixD_lst (i := 0) rfl
theorem ixD_l1 (a b : D) (r : List D) : ixD (.lst (a :: b :: r)) (.int 1) = some b := ixD_lst (i := 1) rfl
mutual
theorem eqb_refl : ∀ d : D, plain d = true → eqb d d = true
  | .non, _ => rfl
  | .bl b, _ => by simp [eqb]
  | .int b, _ => by simp [eqb]
  | .str b, _ => by simp [eqb]
  | .tup ds, h => by simp only [eqb]; exact eqbL_refl ds h
  | .lst ds, h => by simp only [eqb]; exact eqbL_refl ds h
  | .dic _, h => by cases h
  | .obj _ _, h => by cases h
  | .oid _, h => by cases h
  | .scr _, h => by cases h
theorem eqbL_refl : ∀ ds : List D, plainL ds = true → eqbL ds ds = true
  | [], _ => rfl
  | d :: ds, h => by
    simp only [plainL, Bool.and_eq_true] at h
    simp only [eqbL, Bool.and_eq_true]
    exact ⟨eqb_refl d h.1, eqbL_refl ds h.2⟩
end
theorem rng2_nat {a b : Nat} {ρ : Rho} {ω : List Cell} (h : a ≤ 16777216) (h2 : b ≤ 16777216) : rng2 (.int (a : Int)) (.int (b : Int)) ρ ω = some (.val (rangeD a (b - a)) ω) := by
  unfold rng2
  simp only
  rw [if_pos (by omega), show ((b : Int) - (a : Int)).toNat = b - a by omega]
theorem filter_tt {α : Type} (xs : List α) : xs.filter (fun _ => true) = xs := List.filter_eq_self.mpr fun _ _ => rfl
/-- a comprehension without tests -/
theorem lcM_map {α : Type} {vs : List Nat} {src : M (List D)} {T : TT1} {f : M D} {ρ : Rho} {ω ω1 : List Cell} {xs : List α} (enc h : α → D) (hsrc : src ρ ω = some (.val (xs.map enc) ω1)) (hz : xs.length ≤ sizeLine)
    (hs : ∀ x ∈ xs, ∃ ρ2, T (enc x) (wipeE ρ vs) ω1 = some ρ2 ∧ f ρ2 ω1 = some (.val (h x) ω1)) : lcM vs src T (M.pure true) f ρ ω = some (.val (xs.map h) ω1) := by
  have e := lcM_enc (t := M.pure true) enc (fun _ => true) h hsrc hz fun x hx => by
    obtain ⟨ρ2, h1, h2⟩ := hs x hx
    exact ⟨ρ2, h1, rfl, fun _ => h2⟩
  rw [filter_tt] at e
  exact e
section
variable {m c : Str} {T : List (Str × Fn)} {o d : D} {ds : List D} {ρ : Rho} {ω ω1 ω2 ω' : List Cell} {fl : List (Str × D)} {Gf : Fn} {fo fi : M D} {fs : M (List D)}
theorem ownM_ev (hv : view ω o = some (.obj c fl)) (hl : T.lookup c = some Gf) (h : Gf (o :: ds) ω = some (.val d ω')) : ownM m T o ds ρ ω = some (.val d ω') := by
  unfold ownM
  simp only [hv, hl]
  exact callM_of h
theorem lenO_ev {n : Nat} (ho : fo ρ ω = some (.val o ω1)) (hv : view ω1 o = some (.obj c fl)) (hl : T.lookup c = some Gf) (h : Gf [o] ω1 = some (.val (.int n) ω')) (hn : n ≤ 4611686018427387904) : lenO T fo ρ ω = some (.val (.int n) ω') := by
  unfold lenO
  rw [bind_ev ho, bind_ev (ownM_ev hv hl h)]
  unfold lenB
  simp only
  rw [if_pos (by omega)]
theorem ixO_ev {i : D} (ho : fo ρ ω = some (.val o ω1)) (hi : fi ρ ω1 = some (.val i ω2)) (hv : view ω2 o = some (.obj c fl)) (hl : T.lookup c = some Gf) (h : Gf [o, i] ω2 = some (.val d ω')) : ixO T fo fi ρ ω = some (.val d ω') := by
  unfold ixO
  rw [bind_ev ho, bind_ev hi]
  exact ownM_ev hv hl h
theorem methM_ev (ho : fo ρ ω = some (.val o ω1)) (hv : view ω1 o = some (.obj c fl)) (hn : fl.lookup m = none) (hl : T.lookup c = some Gf) (ha : fs ρ ω1 = some (.val ds ω2)) (h : Gf (o :: ds) ω2 = some (.val d ω')) : methM m T fo fs ρ ω = some (.val d ω') := by
  unfold methM
  rw [bind_ev ho, bind_ev (a := c) (ω1 := ω1) (by unfold clsM; simp only [hv, hn])]
  unfold selM
  simp only [hl]
  rw [bind_ev ha]
  exact callM_of h
theorem mkO_ev {I : List D → Option (List (Str × D))} (ha : fs ρ ω = some (.val ds ω1)) (h : I ds = some fl) (no : noOF fl = true) : (fs.bind (mkO c I)) ρ ω = some (.val (.obj c fl) ω1) := by
  rw [bind_ev ha]
  unfold mkO
  simp only [h]
  rw [if_pos no]
theorem setS_ev {i : Nat} (h : fo ρ ω = some (.val d ω')) : setS i fo ρ ω = some (.nx (ρ.set i (.fz d)) ω') := by unfold setS; rw [bindS_ev h]
theorem retS_ev (h : fo ρ ω = some (.val d ω')) : retS fo ρ ω = some (.rt d ω') := by unfold retS; rw [bindS_ev h]
theorem setO_ev {i : Nat} (h : fs ρ ω = some (.val ds ω')) : setO i fs ρ ω = some (.nx (ρ.set i (.ow ds)) ω') := by unfold setO; rw [bindS_ev h]
theorem appS_ev {i : Nat} {es : List D} (hi : ρ[i]? = some (.ow es)) (h : fo ρ ω = some (.val d ω')) (hz : es.length < sizeLine) : appS i fo ρ ω = some (.nx (ρ.set i (.ow (es ++ [d]))) ω') := by
  unfold appS
  simp only [hi]
  rw [bindS_ev h, if_pos hz]
theorem extS_ev {i : Nat} {es xs : List D} (hi : ρ[i]? = some (.ow es)) (h : fo ρ ω = some (.val d ω')) (hv : view ω' d = some (.lst xs)) (hz : es.length + xs.length ≤ sizeLine) : extS i fo ρ ω = some (.nx (ρ.set i (.ow (es ++ xs))) ω') := by
  unfold extS
  simp only [hi]
  rw [bindS_ev h]
  simp only [hv]
  rw [if_pos hz]
theorem tst_ev {b : Bool} (h : fo ρ ω = some (.val (.bl b) ω')) : tst fo ρ ω = some (.val b ω') := by unfold tst; rw [bind_ev h]; rfl
theorem truM_ev {b : Bool} (h : fo ρ ω = some (.val (.bl b) ω')) : truM fo ρ ω = some (.val b ω') := by unfold truM; rw [bind_ev h]; rfl
theorem cons_ev (h : fo ρ ω = some (.val d ω1)) (h2 : fs ρ ω1 = some (.val ds ω2)) : consM fo fs ρ ω = some (.val (d :: ds) ω2) := by unfold consM; rw [bind_ev h, bind_ev h2]; rfl
end
theorem lenOk_ev {ds : List D} {ρ : Rho} {ω : List Cell} (h : ds.length ≤ 1000) : lenOk ds ρ ω = some (.val ds ω) := by
  unfold lenOk
  rw [if_pos (by rw [sizeLine_eq]; omega)]
theorem mkTup_ev {ds : List D} {ρ : Rho} {ω : List Cell} (h : ds.length ≤ 1000) : mkTup ds ρ ω = some (.val (.tup ds) ω) := by
  unfold mkTup
  rw [if_pos (by rw [sizeLine_eq]; omega)]
theorem new0 {ρ : Rho} {ω : List Cell} : ((M.pure []).bind lenOk) ρ ω = some (.val [] ω) := by
  rw [bind_ev (a := []) (ω1 := ω) rfl]
  exact lenOk_ev (by simp)
mutual
theorem noO_plain : ∀ d : D, DL.plain d = true → noO d = true
  | .non, _ => rfl
  | .bl _, _ => rfl
  | .int _, _ => rfl
  | .str _, _ => rfl
  | .tup ds, h => by simp only [noO]; exact noOL_plain ds (by simpa [DL.plain] using h)
  | .lst ds, h => by simp only [noO]; exact noOL_plain ds (by simpa [DL.plain] using h)
  | .dic _, h => by cases h
  | .obj _ _, h => by cases h
  | .oid _, h => by cases h
  | .scr _, h => by cases h
theorem noOL_plain : ∀ ds : List D, plainL ds = true → noOL ds = true
  | [], _ => rfl
  | d :: ds, h => by
    simp only [plainL, Bool.and_eq_true] at h
    simp only [noOL, Bool.and_eq_true]
    exact ⟨noO_plain d h.1, noOL_plain ds h.2⟩
end
end DL
/-! DL15: operators and == by an own class's defs; isinstance with own classes. -/
namespace DL
open PySem L2
theorem back_cmp {X : Cx} {pins : List (Addr × Obj)} {σ : St} {Q : VK} {u : Value} {s' : Shared} (h : EP X pins σ Q u s') : PySem.W.CmpBack (EP X pins σ Q) u s' := by
  have h0 := h
  obtain ⟨v, H', I, r, q⟩ := h
  cases v with
  | non => cases (show u = Value.none from r); exact h0
  | bl b => cases (show u = Value.bool b from r); exact h0
  | int i => obtain ⟨t, e⟩ := (show ∃ t, u = Value.int i t from r); cases e; exact h0
  | str i => obtain ⟨t, e⟩ := (show ∃ t, u = Value.str i t from r); cases e; exact h0
  | byt i => obtain ⟨t, e⟩ := (show ∃ t, u = Value.bytes i t from r); cases e; exact h0
  | flt i => obtain ⟨t, e⟩ := (show ∃ t, u = Value.float i t from r); cases e; exact h0
  | ref a => cases (show u = Value.ref a from r); exact h0
  | ty n => cases (show u = Value.type n from r); exact h0
/-- what an operator asks of a class -/
structure OpC (K : PySem.W.Frag) (C : Addr) (op : Operator) : Prop where
  first : PySem.W.selfFirst K C = true
  refl : PySem.W.findIn K (.ref C) (PySem.dunderR op.info.2) = some none
  int1 : ∃ fo, PySem.W.findIn K (.type "int") (PySem.dunder op.info.2) = some fo
  int2 : ∃ ro, PySem.W.findIn K (.type "int") (PySem.dunderR op.info.2) = some ro
  sub : PySem.W.subIn K (.type "int") (.ref C) = some false
def OpF (K : PySem.W.Frag) (mg : Str → Option Value) (c : Str) (op : Operator) : Prop := ∃ C, mg c = some (.ref C) ∧ OpC K C op
def OpFs (K : PySem.W.Frag) (mg : Str → Option Value) (op : Operator) (T : List (Str × Fn)) : Prop := ∀ c Gf, T.lookup c = some Gf → OpF K mg c op
theorem opf_nil {K : PySem.W.Frag} {mg : Str → Option Value} {op : Operator} : OpFs K mg op [] := fun c Gf e => by cases e
theorem opf_cons {K : PySem.W.Frag} {mg : Str → Option Value} {op : Operator} {c : Str} {Gf : Fn} {T : List (Str × Fn)} (h : OpF K mg c op) (t : OpFs K mg op T) : OpFs K mg op ((c, Gf) :: T) := fun c' Gf' e => by
  rw [List.lookup_cons] at e
  cases q : c' == c with
  | true => rw [eq_of_beq q]; exact h
  | false => rw [q] at e; exact t c' Gf' e
/-- a thing and a thing of its class -/
def kdS (ω : List Cell) (x y : D) : Bool := match view ω x with
  | some (.obj c _) => match view ω y with
    | some (.obj c' _) => c == c'
    | _ => false
  | _ => false
/-- .. or a number -/
def kdI (ω : List Cell) (y : D) : Bool := match view ω y with
  | some (.int _) => true
  | _ => false
def binO (m : Str) (T : List (Str × Fn)) (fa fb : M D) : M D := fa.bind fun x => fb.bind fun y ρ ω => if (kdS ω x y || kdI ω y) = true then ownM m T x [y] ρ ω else none
def cmpO (m : Str) (T : List (Str × Fn)) (fa fb : M D) : M D := fa.bind fun x => fb.bind fun y ρ ω => if kdS ω x y = true then ownM m T x [y] ρ ω else none
section
variable {X : Cx} {W : WX} {a b : Expr} {fa fb : M D} {k j : Nat} {T : List (Str × Fn)} {pos : Pos} {m : Str}
def rSame (H : Hp) (x y : V) : Prop := ∃ a b C dx dy fs gs, x = .ref a ∧ y = .ref b ∧ H a = some (.ins C dx fs) ∧ H b = some (.ins C dy gs)
theorem kdS_ok {g : G} {A : Ad} {B : Addr → Prop} {H : Hp} {ω : List Cell} {d e : D} {x y : V} (w : Wo g A B H ω) (hx : Dp g A B H x d) (hy : Dp g A B H y e) (h : kdS ω d e = true) : rSame H x y := by
  unfold kdS at h
  split at h
  · rename_i c fs e1
    split at h
    · rename_i c' gs e2
      obtain ⟨a1, C1, dx1, vs1, rfl, h1, h2, h3⟩ := Vw.of hx w e1
      obtain ⟨a2, C2, dx2, vs2, rfl, h4, h5, h6⟩ := Vw.of hy w e2
      rw [eq_of_beq h] at h2
      rw [h2] at h5
      cases h5
      exact ⟨a1, a2, C1, dx1, dx2, vs1, vs2, rfl, rfl, h1, h4⟩
    · cases h
  · cases h
theorem kdI_ok {g : G} {A : Ad} {B : Addr → Prop} {H : Hp} {ω : List Cell} {e : D} {y : V} (w : Wo g A B H ω) (hy : Dp g A B H y e) (h : kdI ω e = true) : ∃ i, y = .int i := by
  unfold kdI at h
  split at h
  · rename_i i e1
    exact ⟨i, Vw.of hy w e1⟩
  · cases h
theorem op_binO {op : Operator} {m : Str} (tk : Takes X W) (hm : m = PySem.dunder op.info.2) : OpRS X (binaryOp op) (fun σ x y H Q => OwnR X W m (fun v H' Q => Q v H') σ [x, y] H Q ∧ (∀ a C dx fs, x = .ref a → H a = some (.ins C dx fs) → OpC X.K C op) ∧ (rSame H x y ∨ ∃ i, y = .int i)) := by
  subst hm
  intro pins s σ H x y v u Q I rx ry ⟨⟨a, C, dx, fs, f, fd, ps, sp, k, ys, e1, hp, ⟨hme, _⟩, hb, F, hr, q⟩, hop, hs⟩
  cases e1
  cases (show v = Value.ref a from rx)
  have o := hop a C dx fs rfl hp
  obtain ⟨mA, J, _⟩ := ins_get I.hok hp
  obtain ⟨od, J, _⟩ := J.look
  obtain ⟨mm, hF⟩ := I.fr
  have run := wpAny_mono (run_at tk F (hr.mono (Nat.le_succ _)) I.env0 hb I (.cons (show RelV (.ref a) (.ref a) from rfl) (.cons ry .nil)) q) (fun u s' z => back_cmp z) fun _ _ x => x
  rcases hs with ⟨a', b, C', _, dy, _, gs, ea, rfl, ha, hb'⟩ | ⟨i, rfl⟩
  · cases ea
    rw [hp] at ha
    cases ha
    cases (show u = Value.ref b from ry)
    obtain ⟨mB, J', _⟩ := ins_get I.hok hb'
    obtain ⟨od', J', _⟩ := J'.look
    exact PySem.W.binop_K hF I.ok.mod.kin J J'.type o.first hme.at_ hme.fn run
  · obtain ⟨t, rfl⟩ := (show ∃ t, u = Value.int i t from ry)
    obtain ⟨fo, h1⟩ := o.int1
    obtain ⟨ro, h2⟩ := o.int2
    exact PySem.W.ksp_binT hF I.ok.mod.kin J rfl o.first hme.at_ hme.fn o.refl (.inl rfl) h1 h2 o.sub run
theorem own_cls {x y : V} {H : Hp} {Q : VK} {op : Operator} {g : G} {A : Ad} {B : Addr → Prop} {ω : List Cell} {ρ : Rho} {d e : D} {r : R D} (hg : g = ⟨X.K, X.mg⟩) (w : Wo g A B H ω) (hx : Dp g A B H x d) (ho : OpFs X.K X.mg op T) (h : ownM m T d [e] ρ ω = some r) : ∀ a C dx fs, x = .ref a → H a = some (.ins C dx fs) → OpC X.K C op := by
  subst hg
  intro a C dx fs ex hp
  unfold ownM at h
  split at h
  · rename_i c fl ev
    cases q2 : T.lookup c with
    | none => simp only [q2] at h; cases h
    | some Gf =>
      obtain ⟨a', C', dx', vs, e1, h1, h2, _⟩ := Vw.of hx w ev
      rw [ex] at e1
      cases e1
      rw [hp] at h1
      cases h1
      obtain ⟨C2, h3, h4⟩ := ho c Gf q2
      have : (some (Value.ref C2) : Option Value) = some (.ref C) := h3.symm.trans h2
      cases this
      exact h4
  · cases h
theorem de_binO {op : Operator} (tk : Takes X W) (hm : m = PySem.dunder op.info.2) (cm : CalMs X.prog X.w X.K X.mg X.base m k T) (ho : OpFs X.K X.mg op T) (hr : Room j X.A) (hj : k + 1 ≤ j) (ha : PE X a (tM ⟨X.K, X.mg⟩ rD W fa)) (hb : PE X b (tM ⟨X.K, X.mg⟩ rD W fb)) : PE X (.BinOp a op b pos) (tM ⟨X.K, X.mg⟩ rD W (binO m T fa fb)) := by
  refine (pe_opS (op_binO tk hm) ha hb).dl ?_
  rintro σ H Q ⟨H0, A, B, ρ, ω, r, fm, e, res⟩
  refine tM_mono (tM_bind fm e res) fun x H1 ⟨A1, B1, ω1, d1, t1, fm1, r1, e1, res1⟩ => ?_
  refine tM_mono (tM_bind fm1 e1 res1) fun y H2 ⟨A2, B2, ω2, d2, t2, fm2, r2, e2, res2⟩ => ?_
  have hx := Dp.mv (fm1.wo.mv t2) _ _ r1
  split at e2
  · rename_i hk
    refine ⟨own_at (W := W) rfl cm hr hj fm2 hx (.cons r2 .nil) e2 res2, own_cls (Q := Q) (y := y) rfl fm2.wo hx ho e2, ?_⟩
    rcases Bool.or_eq_true_iff.mp hk with hk | hk
    · exact .inl (kdS_ok fm2.wo hx r2 hk)
    · exact .inr (kdI_ok fm2.wo r2 hk)
  · cases e2
theorem op_eqO (tk : Takes X W) (hu : X.A.units < cLine) : OpRS X (compareOp .Eq) (fun σ x y H Q => OwnR X W "__eq__" (fun v H' Q => Q v H') σ [x, y] H Q ∧ rSame H x y) := by
  intro pins s σ H x y v u Q I rx ry ⟨⟨a, C, dx, fs, f, fd, ps, sp, k, ys, e1, hp, ⟨hme, _⟩, hb, F, hr, q⟩, hs⟩
  cases e1
  cases (show v = Value.ref a from rx)
  obtain ⟨mA, J, _⟩ := ins_get I.hok hp
  obtain ⟨od, J, _⟩ := J.look
  obtain ⟨mm, hF⟩ := I.fr
  have run := wpAny_mono (run_at tk F (hr.mono (Nat.le_succ _)) I.env0 hb I (.cons (show RelV (.ref a) (.ref a) from rfl) (.cons ry .nil)) q) (fun u s' z => back_cmp z) fun _ _ x => x
  obtain ⟨a', b, C', _, dy, _, gs, ea, rfl, ha, hb'⟩ := hs
  cases ea
  rw [hp] at ha
  cases ha
  cases (show u = Value.ref b from ry)
  obtain ⟨mB, J', _⟩ := ins_get I.hok hb'
  obtain ⟨od', J', _⟩ := J'.look
  exact PySem.W.cmp_K (op := .Eq) (tb := .ref C) hu hF I.ok.mod.kin J J'.type (by simp [PySem.W.notFirst]) hme.at_ hme.fn run
theorem Room.u0 {k : Nat} {A : Around} (hr : Room k A) : A.units < cLine := by have := hr.un; omega
theorem tM_eqO (cm : CalMs X.prog X.w X.K X.mg X.base "__eq__" k T) (hr : Room j X.A) (hj : k + 1 ≤ j) : ∀ σ H Q, tM ⟨X.K, X.mg⟩ rD W (cmpO "__eq__" T fa fb) σ H Q → tOpS (fun σ x y H Q => OwnR X W "__eq__" (fun v H' Q => Q v H') σ [x, y] H Q ∧ rSame H x y) (tM ⟨X.K, X.mg⟩ rD W fa) (tM ⟨X.K, X.mg⟩ rD W fb) σ H Q := by
  rintro σ H Q ⟨H0, A, B, ρ, ω, r, fm, e, res⟩
  refine tM_mono (tM_bind fm e res) fun x H1 ⟨A1, B1, ω1, d1, t1, fm1, r1, e1, res1⟩ => ?_
  refine tM_mono (tM_bind fm1 e1 res1) fun y H2 ⟨A2, B2, ω2, d2, t2, fm2, r2, e2, res2⟩ => ?_
  have hx := Dp.mv (fm1.wo.mv t2) _ _ r1
  split at e2
  · rename_i hk
    exact ⟨own_at (W := W) rfl cm hr hj fm2 hx (.cons r2 .nil) e2 res2, kdS_ok fm2.wo hx r2 hk⟩
  · cases e2
theorem de_eqO (tk : Takes X W) (cm : CalMs X.prog X.w X.K X.mg X.base "__eq__" k T) (hr : Room j X.A) (hj : k + 1 ≤ j) (ha : PE X a (tM ⟨X.K, X.mg⟩ rD W fa)) (hb : PE X b (tM ⟨X.K, X.mg⟩ rD W fb)) : PE X (.Compare a [.Eq] [b] pos) (tM ⟨X.K, X.mg⟩ rD W (cmpO "__eq__" T fa fb)) :=
  (pe_cmpRS (op_eqO tk (Room.u0 hr)) ha hb (nomark _)).dl (tM_eqO cm hr hj)
theorem dt_eqO (tk : Takes X W) (cm : CalMs X.prog X.w X.K X.mg X.base "__eq__" k T) (hr : Room j X.A) (hj : k + 1 ≤ j) (ha : PE X a (tM ⟨X.K, X.mg⟩ rD W fa)) (hb : PE X b (tM ⟨X.K, X.mg⟩ rD W fb)) : PT X (.Compare a [.Eq] [b] pos) (tM ⟨X.K, X.mg⟩ rB W (tst (cmpO "__eq__" T fa fb))) :=
  (pt_cmpRS (op_eqO tk (Room.u0 hr)) ha hb (nomark _)).dl fun σ H Q ⟨H0, A, B, ρ, ω, r, fm, e, res⟩ => by
    refine tM_eqO cm hr hj σ H _ (tM_mono (tM_bind fm e res) fun x H1 ⟨A1, B1, ω1, d1, t1, fm1, r1, e1, res1⟩ => ?_)
    unfold asB at e1
    cases d1 with
    | bl k =>
      cases e1
      cases r1
      exact ⟨k, rfl, res1 k A1 B1 H1 (.refl _ _ _) fm1.wo rfl⟩
    | _ => cases e1
end

/-! ### isinstance with an own class -/
def IsF (K : PySem.W.Frag) (mg : Str → Option Value) (c c' : Str) (b : Bool) : Prop := ∃ C C', mg c = some (.ref C) ∧ mg c' = some (.ref C') ∧ ClT K C' ∧ PySem.W.kitOne K (.ref C') (.ref C) = some b
def IsFs (K : PySem.W.Frag) (mg : Str → Option Value) (c : Str) (T : List (Str × Bool)) : Prop := ∀ c' b, T.lookup c' = some b → IsF K mg c c' b
theorem isf_nil {K : PySem.W.Frag} {mg : Str → Option Value} {c : Str} : IsFs K mg c [] := fun c Gf e => by cases e
theorem isf_cons {K : PySem.W.Frag} {mg : Str → Option Value} {c c1 : Str} {b : Bool} {T : List (Str × Bool)} (h : IsF K mg c c1 b) (t : IsFs K mg c T) : IsFs K mg c ((c1, b) :: T) := fun c' b' e => by
  rw [List.lookup_cons] at e
  cases q : c' == c1 with
  | true =>
    rw [q] at e
    cases e
    rw [eq_of_beq q]; exact h
  | false => rw [q] at e; exact t c' b' e
def isiO (T : List (Str × Bool)) : D → Option D
  | .obj c _ => (T.lookup c).map D.bl
  | _ => none
section
variable {X : Cx} {W : WX} {e : Expr} {p pos np : Pos} {fa : M D} {c : Str} {T : List (Str × Bool)}
theorem de_isiO (hF : IsFs X.K X.mg c T) (hg : Gl X "isinstance") (hm : X.mg "isinstance" = none) (hgx : Gl X c) (hc0 : ∃ C, X.mg c = some (.ref C)) (ha : PE X e (tM ⟨X.K, X.mg⟩ rW W fa)) (hdx : (c == ("__debug__" : Str)) = false := by decide)
    (he : starEach [e, .Name c np] X.env = (false, eval e X.env) :: starEach [.Name c np] X.env := by rfl) (he2 : starEach [.Name c np] X.env = (false, eval (.Name c np) X.env) :: starEach [] X.env := by rfl) (hpl : (backTo pos (starEach [.Name c np] X.env)).any (·.1) = false := by rfl) :
    PE X (.Call (.Name "isinstance" p) [e, .Name c np] [] pos) (tM ⟨X.K, X.mg⟩ rD W (uo (isiO T) fa)) := by
  obtain ⟨C, hc⟩ := hc0
  exact (pe_callB call_isi hg hm (by decide +kernel) (pa_cons ha (pa_cons (pe_glob (v := .ref C) hgx hc rfl hdx) pa_nil he2) he) (by decide) (by decide) he hpl).dl fun σ H Q h => tM_op1 (r := fun x H Q => rIsi X.K [x, .ref C] H Q) (fun A B H ω x a d Q w hv e q => by
    cases a with
    | obj c' fs =>
      simp only [isiO] at e
      cases q1 : T.lookup c' with
      | none => rw [q1] at e; cases e
      | some b =>
        rw [q1] at e
        cases e
        obtain ⟨a, C2, dx, vs, rfl, hp, hm2, l⟩ := hv
        obtain ⟨C1, C3, h1, h2, h3, h4⟩ := hF c' b q1
        rw [hc] at h1
        cases h1
        have : (some (Value.ref C3) : Option Value) = some (.ref C2) := h2.symm.trans hm2
        cases this
        exact ⟨.ref a, .ref C, .ref C2, .ref C, b, rfl, .own C, .base (.ins hp h3.cl h3.ha h3.hn h3.ht h3.hm), h4, q.now w (.bl b)⟩
    | _ => cases e) σ H Q h
end
section
variable {m c : Str} {T : List (Str × Fn)} {x y d : D} {ρ : Rho} {ω ω1 ω2 ω' : List Cell} {fl gl : List (Str × D)} {Gf : Fn} {fa fb : M D}
theorem binO_ev (ha : fa ρ ω = some (.val x ω1)) (hb : fb ρ ω1 = some (.val y ω2)) (hk : (kdS ω2 x y || kdI ω2 y) = true) (hv : view ω2 x = some (.obj c fl)) (hl : T.lookup c = some Gf) (h : Gf [x, y] ω2 = some (.val d ω')) : binO m T fa fb ρ ω = some (.val d ω') := by
  unfold binO
  rw [bind_ev ha, bind_ev hb, if_pos hk]
  exact ownM_ev hv hl h
theorem cmpO_ev (ha : fa ρ ω = some (.val x ω1)) (hb : fb ρ ω1 = some (.val y ω2)) (hk : kdS ω2 x y = true) (hv : view ω2 x = some (.obj c fl)) (hl : T.lookup c = some Gf) (h : Gf [x, y] ω2 = some (.val d ω')) : cmpO m T fa fb ρ ω = some (.val d ω') := by
  unfold cmpO
  rw [bind_ev ha, bind_ev hb, if_pos hk]
  exact ownM_ev hv hl h
end
end DL
/-! DL16: exceptions of own classes: made, raised, caught. -/
namespace DL
open PySem L2

/-! ### defs that may raise -/
theorem hf_X {N : List Str} {k : Nat} {F : MS} : ∀ ds ω r, fnOf N k F ds ω = some r → ds.length = k ∧ ∃ rs, F (startE N ds) ω = some rs ∧ retOf rs = some r := by
  intro ds ω r h
  unfold fnOf at h
  split at h
  · rename_i hl
    split at h
    · rename_i rs e
      exact ⟨hl, rs, e, h⟩
    · cases h
  · cases h
theorem hf_VX {F : MS} {N : List Str} {k : Nat} {Gf : Fn} (h : ∀ ds ω r, Gf ds ω = some r → ds.length = k ∧ ∃ d ω' rs, r = .val d ω' ∧ F (startE N ds) ω = some rs ∧ retOf rs = some r) : ∀ ds ω r, Gf ds ω = some r → ds.length = k ∧ ∃ rs, F (startE N ds) ω = some rs ∧ retOf rs = some r := fun ds ω r e => by
  obtain ⟨h1, d, ω', rs, h2, h3, h4⟩ := h ds ω r e
  exact ⟨h1, rs, h3, h4⟩
section
variable {N : List Str} {k : Nat} {F : MS} {ds : List D} {ω ω' : List Cell} {d : D} {ρ : Rho} {x : Exc}
theorem fn_rt (hl : ds.length = k) (h : F (startE N ds) ω = some (.rt d ω')) : fnOf N k F ds ω = some (.val d ω') := by unfold fnOf; rw [if_pos hl, h]; rfl
theorem fn_nx (hl : ds.length = k) (h : F (startE N ds) ω = some (.nx ρ ω')) : fnOf N k F ds ω = some (.val .non ω') := by unfold fnOf; rw [if_pos hl, h]; rfl
theorem fn_ex (hl : ds.length = k) (h : F (startE N ds) ω = some (.exc x ρ ω')) : fnOf N k F ds ω = some (.exc x ω') := by unfold fnOf; rw [if_pos hl, h]; rfl
end

/-! ### C.__init__(self, ..) of a class over ValueError -/
/-- the base class: its __init__ is ValueError's -/
structure SeI (K : PySem.W.Frag) (mg : Str → Option Value) (c : Str) : Prop where
  ex : ∃ C mc, mg c = some (.ref C) ∧ PySem.W.readsIn K C mc = true ∧ PySem.W.specialIn K (.ref C) "__getattribute__" = some (some (.builtin "type.__getattribute__")) ∧ PySem.W.findCls K (.ref C) mc "__init__" = some (.val (.builtin "ValueError.__init__"))
theorem pe_seinit {X : Cx} {c : Str} {e : Expr} {es : List Expr} {ta : TA} {p1 p2 pos : Pos} {pl : Sem Bool} (S : SeI X.K X.mg c) (hg : Gl X c) (ha : PA X (e :: es) ta) (hdb : (c == ("__debug__" : Str)) = false := by decide)
    (hc : eval (.Call (.Attribute (.Name c p1) "__init__" p2) (e :: es) [] pos) X.env = (do
      let ov ← eval (.Name c p1) X.env
      standAt p2.atName
      let (f, first) ← holding [ov] (getMethod ov "__init__" pl)
      callWith pos f first (backTo pos (starEach (e :: es) X.env)) (backToKw pos (keywordEach [] X.env))) := by rfl)
    (he : starEach (e :: es) X.env = (false, eval e X.env) :: starEach es X.env := by rfl) (hpl : (backTo pos (starEach es X.env)).any (·.1) = false := by rfl) :
    PE X (.Call (.Attribute (.Name c p1) "__init__" p2) (e :: es) [] pos) (tVeI X.K ta) := by
  obtain ⟨C0, mc, hm, rd, ga, at_⟩ := S.ex
  refine ⟨fun pins s σ H Q I h => ?_⟩
  refine PySem.W.methodCall_KW (pl := pl) (ld_glob I hg hm ?_ hdb) hc
  refine PySem.W.method_cls I.kIn ga (PySem.W.cls_value I.kIn rd at_ rfl ?_)
  show wpAny _ _ (callWith pos (Value.builtin "ValueError.__init__") [] (backTo pos (starEach (e :: es) X.env)) []) _ _ _
  refine PyProof.Rows.callWith_method1 (thn (ha.run pos pins _ σ H _ (I.tok _) h) fun us s1 ⟨vs, H1, I1, r1, a, C, ws, ev, hl, T, ea, q⟩ => ?_) he hpl
  subst ev
  cases r1 with
  | @cons _ u0 _ ur ra rw' =>
    obtain rfl : u0 = Value.ref a := ra
    have hlen : ur.length ≤ sizeLine := by
      rw [← Paired.length rw', sizeLine_eq]
      omega
    exact oinit_ok T I1 ea hlen fun s' J => ⟨.non, H1, J, rfl, q⟩
/-- what __init__(self, v) does with a new exception -/
def spXI (K : PySem.W.Frag) (C : Addr) (f : Str) : Sp := fun vs H Q _ => ∃ (a : Addr) (v : V), vs = [.ref a, v] ∧ H a = some (exo a C none) ∧ ∀ dx, H dx = none → dx ≠ a → Q .non (upd (upd H dx (exd dx [(f, v)])) a (exo a C (some dx)))
theorem xi_ans {K : PySem.W.Frag} {C : Addr} {f m : Str} {N : List Str} (T : OexC K C) (hno : PySem.W.findIn K (.ref C) f = some none) {vs : List V} {H : Hp} {Q : VK} {E : XK} (hN : N.length = 2) (h : spXI K C f vs H Q E) :
    (tSeq (tDrop (tVeI K (tCons (tVar 0) (tCons (tC (.str m)) tNil)))) (tOst K f (tVar 0) (tVar 1))) { nx := fun _ H' => Q .non H', rt := Q } (L2.start N vs) H := by
  obtain ⟨a, v, rfl, ha, q⟩ := h
  have e0 : (L2.start N [.ref a, v])[0]? = some (some (.ref a)) := by unfold L2.start; rfl
  have e1 : (L2.start N [.ref a, v])[1]? = some (some v) := by unfold L2.start; rfl
  refine ⟨_, e0, ?_⟩
  refine ⟨a, C, [.str m], rfl, Nat.le_add_left 1 999, T, ha, ?_⟩
  exact ⟨v, e1, _, e0, a, C, rfl, T, hno, .inl ⟨ha, fun dx hd ne => q dx hd ne⟩⟩
/-- the class c of exceptions, with one field f -/
structure CalX (P : Program) (w : World) (K : PySem.W.Frag) (mg : Str → Option Value) (base : Heap) (c f : Str) (ps : List Str) (k : Nat) : Prop where
  ex : ∃ C fI fd, mg c = some (.ref C) ∧ OexC K C ∧ PySem.W.findIn K (.ref C) "__init__" = some (some (.ref fI)) ∧ PySem.W.typeIn K (.ref fI) = some (.type "function") ∧ Binds K fd ps [] ∧ FnOk P w K mg base CX0 k fI fd ps (spXI K C f)
/-- raise c(e) -/
def raiS (c f : Str) (fm : M D) : MS := bindS fm fun d ρ ω => some (.exc ⟨c, [(f, d)]⟩ ρ ω)
section
variable {X : Cx} {n : En} {W : WX} {c f : Str} {e : Expr} {fm : M D} {p p2 pos : Pos} {ps : List Str} {k j : Nat}
theorem ds_raise (tk : Takes X W) (hc : X.calm = true) (cx : CalX X.prog X.w X.K X.mg X.base c f ps k) (hr : Room j X.A) (hj : k + 1 ≤ j) (hg : Gl X c) (ha : PE X e (tM ⟨X.K, X.mg⟩ rD W fm)) (hdb : (c == ("__debug__" : Str)) = false := by decide)
    (he : starEach [e] X.env = (false, eval e X.env) :: starEach [] X.env := by rfl) (hpl : (backTo pos (starEach [] X.env)).any (·.1) = false := by rfl) :
    PS X (.Raise (some (.Call (.Name c p) [e] [] pos)) none p2) (tS ⟨X.K, X.mg⟩ n W (raiS c f fm)) := by
  obtain ⟨C, fI, fd, h1, h2, h3, h4, h5, h6⟩ := cx.ex
  refine (ps_raise hc tk (pmk_oex h2 h3 h4 h6 (hr.mono hj) h5 .nil pass0 hg h1 (pa_cons ha pa_nil he) hdb he hpl)).dl fun D σ H ⟨A, B, ρ, ω, r, s, fm0, e0, res⟩ => ?_
  refine tM_mono (tS_bind s fm0 e0 res) fun v H1 ⟨A1, B1, ω1, d, t1, m1, s1, fm1, r1, e1, res1⟩ => ?_
  cases e1
  refine ⟨Nat.le_add_left 1 999, fun a hn => ⟨a, v, rfl, upd_same, fun dx hd ne => ⟨rfl, dx, [(f, v)], upd_same, ?_, ?_, ?_⟩⟩⟩
  · rw [upd_ne ne, upd_same]
  · rw [upd_ne ne] at hd; exact hd
  · rw [upd_ne ne] at hd
    have eh : upd (del (upd (upd (upd H1 a (exo a C none)) dx (exd dx [(f, v)])) a (exo a C (some dx))) a) dx (.xd [(f, v)]) = upd H1 dx (.xd [(f, v)]) := by
      funext b
      by_cases hb : b = dx
      · rw [hb, upd_same, upd_same]
      · rw [upd_ne hb, upd_ne hb]
        by_cases hba : b = a
        · rw [hba, del_same, hn]
        · rw [del_ne hba, upd_ne hba, upd_ne hb, upd_ne hba]
    rw [eh]
    have t2 : Stp A1 B1 H1 A1 B1 (upd H1 dx (.xd [(f, v)])) := Stp.grow hd
    exact res1 (.ref C) (some dx) σ A1 B1 _ (Mv.grow hd) (s1.trans t2) (fm1.up t2 (fm1.wo.grow hd)) ⟨h1, .inl ⟨dx, [(f, v)], rfl, fm1.wo.nb hd, upd_same, .cons (Dp.mv (Mv.grow hd) _ _ r1) .nil⟩⟩
end
end DL
/-! DL17: try with several clauses, each with or without a name. -/
namespace DL
open PySem L2
open PyProof.Rows hiding St

abbrev SuT := Addr → Value → Option Addr → TS
/-- behind a suite its name is gone -/
def offD (oi : Option Nat) (D : Ends) : Ends := match oi with
  | none => D
  | some i => { nx := fun σ' H' => D.nx (σ'.set i none) H', rt := D.rt, bk := fun σ' H' => D.bk (σ'.set i none) H', ct := fun σ' H' => D.ct (σ'.set i none) H' }
def onS (oi : Option Nat) (a : Addr) (σ : St) : St := match oi with
  | none => σ
  | some i => σ.set i (some (.ref a))
/-- what the clauses ask, one after the other -/
def wCls (K : PySem.W.Frag) (Wo : WX) (D : Ends) : List (Value × Option Nat × SuT) → WX
  | [] => Wo
  | (c, oi, ts) :: r => fun cls d σ H => ∃ b, PySem.W.exmOne K cls c = some b ∧ (b = true → ∀ a, H a = none → ts a cls d (offD oi D) (onS oi a σ) H) ∧ (b = false → wCls K Wo D r cls d σ H)
inductive ClsOk (X : Cx) : List ExceptHandler → List (Value × Option Nat × SuT) → Prop
  | nil : ClsOk X [] []
  | one {x : Str} {c : Value} {ts : SuT} {b₀ : Stmt} {su : List Stmt} {np p : Pos} {hds : List ExceptHandler} {l : List (Value × Option Nat × SuT)} (hc : Names X x c)
      (hsu : ∀ (a : Addr) (oe : Obj) (cls : Value) (d : Option Addr) (pn : List (Addr × Obj)), Zc cls d oe → (∃ vs, oe.data = .fields vs) → PSs (X.suite a ((a, oe) :: pn)) (b₀ :: su) (ts a cls d)) (r : ClsOk X hds l) :
      ClsOk X (.ExceptHandler (some (.Name x np)) none (b₀ :: su) p :: hds) ((c, none, ts) :: l)
  | as {x n : Str} {i : Nat} {c : Value} {ts : SuT} {b₀ : Stmt} {su : List Stmt} {np p : Pos} {hds : List ExceptHandler} {l : List (Value × Option Nat × SuT)} (hN : X.N.Nodup) (hi : X.N[i]? = some n) (hln : X.env.kindOf n = some .local) (hc : Names X x c)
      (hsu : ∀ (a : Addr) (oe : Obj) (cls : Value) (d : Option Addr) (pn : List (Addr × Obj)), Zc cls d oe → (∃ vs, oe.data = .fields vs) → PSs (X.suite a ((a, oe) :: pn)) (b₀ :: su) (ts a cls d)) (r : ClsOk X hds l) :
      ClsOk X (.ExceptHandler (some (.Name x np)) (some n) (b₀ :: su) p :: hds) ((c, some i, ts) :: l)
section
variable {X : Cx} {body : List Stmt} {h₀ : ExceptHandler} {hds : List ExceptHandler} {l : List (Value × Option Nat × SuT)} {pos : Pos} {tb : WX → TS} {Wout : WX}
theorem ps_try_cls (hs : X.stack = X.env :: X.outer) (hf : X.env.frame = some X.env.locals) (tk : Takes X Wout)
    (hb : ∀ (W : WX) (pn : List (Addr × Obj)) (xe : Value → Shared → Prop), Takes (X.tr pn xe) W → PassesOwn (model X.prog X.w) X.A X.env xe → PSs (X.tr pn xe) body (tb W))
    (hh : ClsOk X (h₀ :: hds) l) : PS X (.Try body (h₀ :: hds) [] [] pos) (fun D σ H => tb (wCls X.K Wout D l) D σ H) := by
  refine ⟨fun pins s σ H D I h => ?_⟩
  have ok := I.ok
  have hfr : X.A.frames = some (X.env :: X.outer) := by rw [ok.frames, hs]
  refine wpAny_Try_except (wpAny_mono ((hb (wCls X.K Wout D l) (X.pn ++ pins) (fun e s₁ => wpAny (model X.prog X.w) X.A (noteFrame e X.env) (fun _ s₂ => wpAny (model X.prog X.w) X.A (setFlight e none) (fun _ s₃ =>
    wpAny (model X.prog X.w) X.A (handleBy e X.env (h₀ :: hds)) (SP X pins D) X.xe s₃) X.xe s₂) X.xe s₁) (fun u s' xx => ?_) PassesOwn.looking).run [] s σ H D (I.toTry _) h) (fun f s1 hsp => ?_) (fun e s1 he => he))
  · obtain ⟨a, B, sI, pins', σ', H', cls, d, rfl, J', nb, up, sky, na, os, ag, w⟩ := xx
    have J : Inv X pins σ' H' sI := J'.ofTry ok
    have sky' : Sky B (X.env :: X.outer) a (Zc cls d) X.env.locals s'.heap := by rw [← hs]; exact sky
    show wpAny (model X.prog X.w) X.A (noteFrame (.ref a) X.env) _ _ _
    refine Sky.land Zc.steady hfr hf sky' fun h3 fl3 up3 => ?_
    have J3 : Inv X pins σ' H' { s' with heap := h3 } := J.landed nb fl3.1 (up.trans up3) os ag
    obtain ⟨oe3, vs3, he3, hz3, hd3⟩ := fl3.there
    have nfr : a ∉ frs (X.env :: X.outer) := fun hm => by
      obtain ⟨_, o', e', hnf⟩ := fl3.2.2.1.mem hm
      rw [he3] at e'; cases e'
      exact hnf _ hd3
    have nL : a ≠ X.env.locals := fun z => nfr (List.mem_filterMap.mpr ⟨X.env, List.mem_cons_self, by rw [hf, z]⟩)
    have nF : a ∉ X.fs := fun hm => by
      obtain ⟨e, he, q⟩ := List.mem_filterMap.mp hm
      exact nfr (List.mem_filterMap.mpr ⟨e, List.mem_cons_of_mem _ he, q⟩)
    have S3 := J3.suite he3 hd3 na nL nF
    have LT : PySem.W.Looks (model X.prog X.w) h3 (typeOf (.ref a)) cls := fun A Q E s k q => wpAny_typeOf_ref (k _ _ he3) (by rw [hz3.1]; exact q)
    have test : ∀ {x : Str} {c : Value} {np : Pos} {Q : Value → Shared → Prop} {E : Value → Shared → Prop}, Names X x c → Q c { s' with heap := h3 } → wpAny (model X.prog X.w) (X.A.mark (some (.ref a))) (eval (.Name x np) X.env) Q E { s' with heap := h3 } := fun {x c np Q E} hc q => by
      obtain ⟨hg, hdbg, hm | ⟨hm, hv, hnn⟩⟩ := hc
      · exact ld_glob (X := X.suite a ((a, oe3) :: (X.pn ++ pins))) S3 hg hm q hdbg
      · exact ld_blt (X := X.suite a ((a, oe3) :: (X.pn ++ pins))) S3 hg hm hv q hnn hdbg
    have go : ∀ {hds' : List ExceptHandler} {l' : List (Value × Option Nat × SuT)}, ClsOk X hds' l' → wCls X.K Wout D l' cls d σ' H' → wpAny (model X.prog X.w) X.A (handleBy (.ref a) X.env hds') (SP X pins D) X.xe { s' with heap := h3 } := by
      intro hds' l' hk
      induction hk with
      | nil =>
        intro w
        refine wpAny_handleBy_nil ?_
        obtain ⟨k1, k2, k3, oe, vs, T, oT, ts', he, hz, hd, h1, hr⟩ := id fl3
        unfold PySem.passOn
        refine wpAny_bind (wpAny_field he hd h1 ?_)
        rw [if_neg (show ¬ ((Value.ref T == Value.none) = true) from by simp)]
        have fin : wpAny (model X.prog X.w) X.A (setFlight (.ref a) X.env.frame) (fun _ s4 => wpAny (model X.prog X.w) X.A (throw (.ref a) : Sem Flow) (SP X pins D) X.xe s4) X.xe { s' with heap := h3 } := by
          rw [hf]
          exact HandSPX.setFlight_upZ fl3 fun h4 hh4 up4 => wpAny_throw (tk _ _ ⟨a, B, sI, pins, σ', H', cls, d, rfl, J, nb, (up.trans up3).trans up4, .inr (.inr (by rw [hs]; exact hh4)), na, os, ag, w⟩)
        first
          | exact wpAny_bind (wpAny_pure (wpAny_bind fin))
          | exact wpAny_bind fin
      | @one x c ts b₀ su np p hds2 l2 hc hsu r ih =>
        rintro ⟨b, hb1, hyes, hno⟩
        refine wpAny_handleBy_cons (codeAny_handlers_test (test hc ((PySem.W.exm_one (M := model X.prog X.w) (J3.kIn) LT hb1).here ?_))) (by intro q; cases q)
        cases b with
        | true =>
          refine codeAny_handlers_suite (HandSPX.lands_againZ fl3 fun h4 fl4 up4 => ?_)
          have J4 : Inv X pins σ' H' { s' with heap := h4 } := J.landed nb fl4.1 ((up.trans up3).trans up4) os ag
          obtain ⟨oe4, vs4, he4, hz4, hd4⟩ := fl4.there
          refine wpAny_mono ((hsu a oe4 cls d (X.pn ++ pins) hz4 ⟨_, hd4⟩).run [] _ _ H' _ (J4.suite he4 hd4 na nL nF) (hyes rfl a na)) (fun f s6 hsp => ?_) (fun _ _ z => False.elim z)
          cases f with
          | next => obtain ⟨σ6, H6, S6, q6⟩ := hsp; exact ⟨_, _, S6.unsuite ok, q6⟩
          | brk => obtain ⟨σ6, H6, S6, q6⟩ := hsp; exact ⟨_, _, S6.unsuite ok, q6⟩
          | cont => obtain ⟨σ6, H6, S6, q6⟩ := hsp; exact ⟨_, _, S6.unsuite ok, q6⟩
          | ret u => obtain ⟨v6, σ6, H6, S6, r6, q6⟩ := hsp; exact ⟨_, _, _, S6.unsuite ok, r6, q6⟩
        | false => exact ih (hno rfl)
      | @as x n i c ts b₀ su np p hds2 l2 hN hi hln hc hsu r ih =>
        rintro ⟨b, hb1, hyes, hno⟩
        refine wpAny_handleBy_cons (codeAny_handlers_test (test hc ((PySem.W.exm_one (M := model X.prog X.w) (J3.kIn) LT hb1).here ?_))) (by intro q; cases q)
        cases b with
        | true =>
          refine codeAny_handlers_suite_as (HandSPX.lands_againZ fl3 fun h4 fl4 up4 => ?_)
          have J4 : Inv X pins σ' H' { s' with heap := h4 } := J.landed nb fl4.1 ((up.trans up3).trans up4) os ag
          obtain ⟨oe4, vs4, he4, hz4, hd4⟩ := fl4.there
          have S4 := J4.suite he4 hd4 na nL nF
          refine store_ok (X := X.suite a ((a, oe4) :: (X.pn ++ pins))) (v := .ref a) S4 hN hi (.inl hln) rfl (fun s5 S5 => ?_) (.inr hln)
          refine wpAny_mono ((hsu a oe4 cls d (X.pn ++ pins) hz4 ⟨_, hd4⟩).run [] s5 _ H' _ S5 (hyes rfl a na)) (fun f s6 hsp => ?_) (fun _ _ z => False.elim z)
          have end_ : ∀ {σ6 : St} {H6 : Hp} {Q : Shared → Prop}, Inv (X.suite a ((a, oe4) :: (X.pn ++ pins))) [] σ6 H6 s6 → (∀ s7, Inv X pins (σ6.set i none) H6 s7 → Q s7) →
              wpAny (model X.prog X.w) X.A (do bindName X.env n .none; unbindBehindTheSuite X.env n p) (fun _ s7 => Q s7) X.xe s6 := fun {σ6 H6 Q} S6 hq => gone_ok (S6.unsuite ok) hN hi hln hq
          cases f with
          | next => obtain ⟨σ6, H6, S6, q6⟩ := hsp; exact end_ S6 fun s7 J7 => ⟨_, _, J7, q6⟩
          | brk => obtain ⟨σ6, H6, S6, q6⟩ := hsp; exact end_ S6 fun s7 J7 => ⟨_, _, J7, q6⟩
          | cont => obtain ⟨σ6, H6, S6, q6⟩ := hsp; exact end_ S6 fun s7 J7 => ⟨_, _, J7, q6⟩
          | ret u => obtain ⟨v6, σ6, H6, S6, r6, q6⟩ := hsp; exact end_ S6 fun s7 J7 => ⟨_, _, _, J7, r6, q6⟩
        | false => exact ih (hno rfl)
    exact go hh w
  · cases f with
    | next => obtain ⟨σ', H', J', q⟩ := hsp; exact wpAny_execs_nil ⟨σ', H', J'.ofTry ok, q⟩
    | brk => obtain ⟨σ', H', J', q⟩ := hsp; exact ⟨σ', H', J'.ofTry ok, q⟩
    | cont => obtain ⟨σ', H', J', q⟩ := hsp; exact ⟨σ', H', J'.ofTry ok, q⟩
    | ret u => obtain ⟨v, σ', H', J', r, q⟩ := hsp; exact ⟨v, σ', H', J'.ofTry ok, r, q⟩
end
end DL
/-! DL18: try as a function. -/
namespace DL
open PySem L2

/-- alike for every place of the exception -/
noncomputable def forP (F : XP → Option RS) : Option RS := open Classical in if h : ∃ r, ∀ p, F p = some r then some (Classical.choose h) else none
theorem forP_some {F : XP → Option RS} {r : RS} (h : forP F = some r) (p : XP) : F p = some r := by
  unfold forP at h
  split at h
  · rename_i q
    cases h
    exact Classical.choose_spec q p
  · cases h
theorem forP_ev {F : XP → Option RS} {r : RS} (h : ∀ p, F p = some r) : forP F = some r := by
  have q : ∃ r, ∀ p, F p = some r := ⟨r, h⟩
  unfold forP
  rw [dif_pos q]
  have := Classical.choose_spec q (0, .none, none)
  rw [h] at this
  exact this.symm
def setX (oi : Option Nat) (p : XP) (x : Exc) (ρ : Rho) : Rho := match oi with
  | none => ρ
  | some i => ρ.set i (.ex p x)
def unS (oi : Option Nat) : Option RS → Option RS
  | some (.nx ρ ω) => some (.nx (match oi with | none => ρ | some i => ρ.set i .no) ω)
  | some (.bk ρ ω) => some (.bk (match oi with | none => ρ | some i => ρ.set i .no) ω)
  | some (.ct ρ ω) => some (.ct (match oi with | none => ρ | some i => ρ.set i .no) ω)
  | some (.rt d ω) => some (.rt d ω)
  | _ => none
abbrev Cls1 := List (Str × Bool) × Option Nat × (XP → MS)
noncomputable def catS : List Cls1 → Exc → MS
  | [], x => fun ρ ω => some (.exc x ρ ω)
  | (T, oi, K) :: r, x => fun ρ ω => match T.lookup x.c with
    | none => none
    | some true => forP fun p => unS oi (K p (setX oi p x ρ) ω)
    | some false => catS r x ρ ω
noncomputable def tryS (F : MS) (cs : List Cls1) : MS := fun ρ ω => match F ρ ω with
  | some (.exc x ρ' ω') => catS cs x ρ' ω'
  | r => r
/-- which classes the clause takes -/
def ExF (K : PySem.W.Frag) (mg : Str → Option Value) (cv : Value) (T : List (Str × Bool)) : Prop := ∀ c b, T.lookup c = some b → ∃ C, mg c = some C ∧ PySem.W.exmOne K C cv = some b
theorem exf_nil {K : PySem.W.Frag} {mg : Str → Option Value} {cv : Value} : ExF K mg cv [] := fun c b e => by cases e
theorem exf_cons {K : PySem.W.Frag} {mg : Str → Option Value} {cv : Value} {c1 : Str} {b1 : Bool} {T : List (Str × Bool)} (h : ∃ C, mg c1 = some C ∧ PySem.W.exmOne K C cv = some b1) (t : ExF K mg cv T) : ExF K mg cv ((c1, b1) :: T) := fun c' b' e => by
  rw [List.lookup_cons] at e
  cases q : c' == c1 with
  | true =>
    rw [q] at e
    cases e
    rw [eq_of_beq q]; exact h
  | false => rw [q] at e; exact t c' b' e
section
variable {g : G} {A : Ad} {B : Addr → Prop} {H H0 : Hp} {ω : List Cell} {σ : St} {ρ : Rho}
theorem Slots.setX {i : Nat} {p : XP} {x : Exc} (h : Slots g H0 A B H σ ρ) (hx : XOk g A B H p.2.1 p.2.2 x) : Slots g H0 A B H (σ.set i (some (.ref p.1))) (ρ.set i (.ex p x)) := by
  refine ⟨by simp [h.len], fun j s e => ?_, fun a b ds es q ea eb sa sb => ?_⟩
  · rcases getElem?_set_cases e with ⟨rfl, hi, rfl⟩ | ⟨ne, e⟩
    · exact ⟨by rw [List.getElem?_set_self (by rw [← h.len]; exact hi)], hx⟩
    · rw [List.getElem?_set_ne ne]
      exact h.val j s e
  · rcases getElem?_set_cases ea with ⟨_, _, z⟩ | ⟨na, ea⟩
    · cases z
    · rcases getElem?_set_cases eb with ⟨_, _, z⟩ | ⟨nb, eb⟩
      · cases z
      · rw [List.getElem?_set_ne na] at sa
        rw [List.getElem?_set_ne nb] at sb
        exact h.own a b ds es q ea eb sa sb
end
/-- the clauses of a try -/
inductive CsOk (X : Cx) (n : En) : List ExceptHandler → List Cls1 → Prop
  | nil : CsOk X n [] []
  | one {x : Str} {c : Value} {T : List (Str × Bool)} {K : XP → MS} {b₀ : Stmt} {su : List Stmt} {np p : Pos} {hds : List ExceptHandler} {l : List Cls1} (hc : Names X x c) (hT : ExF X.K X.mg c T)
      (hsu : ∀ (a : Addr) (oe : Obj) (cls : Value) (d : Option Addr) (pn : List (Addr × Obj)), Zc cls d oe → (∃ vs, oe.data = .fields vs) → PSs (X.suite a ((a, oe) :: pn)) (b₀ :: su) (tS ⟨X.K, X.mg⟩ n W0 (K (a, cls, d)))) (r : CsOk X n hds l) :
      CsOk X n (.ExceptHandler (some (.Name x np)) none (b₀ :: su) p :: hds) ((T, none, K) :: l)
  | as {x nm : Str} {i : Nat} {c : Value} {T : List (Str × Bool)} {K : XP → MS} {b₀ : Stmt} {su : List Stmt} {np p : Pos} {hds : List ExceptHandler} {l : List Cls1} (hN : X.N.Nodup) (hi : X.N[i]? = some nm) (hln : X.env.kindOf nm = some .local) (hc : Names X x c) (hT : ExF X.K X.mg c T)
      (hsu : ∀ (a : Addr) (oe : Obj) (cls : Value) (d : Option Addr) (pn : List (Addr × Obj)), Zc cls d oe → (∃ vs, oe.data = .fields vs) → PSs (X.suite a ((a, oe) :: pn)) (b₀ :: su) (tS ⟨X.K, X.mg⟩ n W0 (K (a, cls, d)))) (r : CsOk X n hds l) :
      CsOk X n (.ExceptHandler (some (.Name x np)) (some nm) (b₀ :: su) p :: hds) ((T, some i, K) :: l)
section
variable {X : Cx} {n : En} {W : WX} {body : List Stmt} {h₀ : ExceptHandler} {hds : List ExceptHandler} {cs : List Cls1} {F : MS} {pos : Pos}
theorem ResS.noexc {g : G} {W W' : WX} {A : Ad} {B : Addr → Prop} {H : Hp} {D : Ends} {r : RS} (h : ResS g n W A B H D r) (hr : ∀ x ρ ω, r ≠ .exc x ρ ω) : ResS g n W' A B H D r := by
  cases r with
  | exc x ρ ω => exact absurd rfl (hr x ρ ω)
  | _ => exact h
theorem unS_back {oi : Option Nat} {o : Option RS} {r : RS} {g : G} {A : Ad} {B : Addr → Prop} {H : Hp} {D : Ends} (h : unS oi o = some r) (res : ResS g n W A B H D r) : ∃ r0, o = some r0 ∧ ResS g n W0 A B H (offD oi D) r0 := by
  cases o with
  | none => cases h
  | some r0 =>
    refine ⟨r0, rfl, ?_⟩
    cases oi with
    | none =>
      cases r0 with
      | exc x ρ ω => cases h
      | nx ρ ω => cases h; exact res
      | bk ρ ω => cases h; exact res
      | ct ρ ω => cases h; exact res
      | rt d ω => cases h; exact res
    | some i =>
      cases r0 with
      | exc x ρ ω => cases h
      | nx ρ ω => cases h; exact fun σ' A' B' H' m s fm => res (σ'.set i none) A' B' H' m s ⟨fm.wo, fm.sl.drop⟩
      | bk ρ ω => cases h; exact fun σ' A' B' H' m s fm => res (σ'.set i none) A' B' H' m s ⟨fm.wo, fm.sl.drop⟩
      | ct ρ ω => cases h; exact fun σ' A' B' H' m s fm => res (σ'.set i none) A' B' H' m s ⟨fm.wo, fm.sl.drop⟩
      | rt d ω => cases h; exact res
/-- the clauses over the layer -/
theorem CsOk.cls {hs : List ExceptHandler} {cs : List Cls1} (h : CsOk X n hs cs) : ∃ l, ClsOk X hs l ∧ ∀ (D : Ends) (x : Exc) (ρ' : Rho) (ω' : List Cell) (r : RS) (A : Ad) (B : Addr → Prop) (H : Hp), catS cs x ρ' ω' = some r → ResS ⟨X.K, X.mg⟩ n W A B H D r →
    ResS ⟨X.K, X.mg⟩ n (wCls X.K W D l) A B H D (.exc x ρ' ω') := by
  induction h with
  | nil =>
    refine ⟨[], .nil, fun D x ρ' ω' r A B H e res => ?_⟩
    cases e
    exact res
  | @one x c T K b₀ su np p hds l hc hT hsu r ih =>
    obtain ⟨l', ok, q⟩ := ih
    refine ⟨(c, none, fun a cls d => tS ⟨X.K, X.mg⟩ n W0 (K (a, cls, d))) :: l', .one hc hsu ok, fun D x ρ' ω' r A B H e res => ?_⟩
    intro cls dd σ' A' B' H' m st fm xo
    unfold catS at e
    cases hb : T.lookup x.c with
    | none => simp only [hb] at e; cases e
    | some b =>
      obtain ⟨C, hC, hx⟩ := hT x.c b hb
      have : C = cls := by
        have := hC.symm.trans xo.1
        cases this; rfl
      subst this
      refine ⟨b, hx, fun eb a ha => ?_, fun eb => ?_⟩
      · subst eb
        simp only [hb] at e
        have e1 := forP_some e (a, C, dd)
        obtain ⟨r0, e2, r2⟩ := unS_back e1 (res.mv m)
        exact ⟨A', B', ρ', ω', r0, st, fm, e2, r2⟩
      · subst eb
        simp only [hb] at e
        exact q D x ρ' ω' r A B H e res C dd σ' A' B' H' m st fm xo
  | @as x nm i c T K b₀ su np p hds l hN hi hln hc hT hsu r ih =>
    obtain ⟨l', ok, q⟩ := ih
    refine ⟨(c, some i, fun a cls d => tS ⟨X.K, X.mg⟩ n W0 (K (a, cls, d))) :: l', .as hN hi hln hc hsu ok, fun D x ρ' ω' r A B H e res => ?_⟩
    intro cls dd σ' A' B' H' m st fm xo
    unfold catS at e
    cases hb : T.lookup x.c with
    | none => simp only [hb] at e; cases e
    | some b =>
      obtain ⟨C, hC, hx⟩ := hT x.c b hb
      have : C = cls := by
        have := hC.symm.trans xo.1
        cases this; rfl
      subst this
      refine ⟨b, hx, fun eb a ha => ?_, fun eb => ?_⟩
      · subst eb
        simp only [hb] at e
        have e1 := forP_some e (a, C, dd)
        obtain ⟨r0, e2, r2⟩ := unS_back e1 (res.mv m)
        exact ⟨A', B', ρ'.set i (.ex (a, C, dd) x), ω', r0, st, ⟨fm.wo, fm.sl.setX (p := (a, C, dd)) xo⟩, e2, r2⟩
      · subst eb
        simp only [hb] at e
        exact q D x ρ' ω' r A B H e res C dd σ' A' B' H' m st fm xo
theorem ds_try (hs : X.stack = X.env :: X.outer) (hf : X.env.frame = some X.env.locals) (tk : Takes X W)
    (hb : ∀ (W' : WX) (pn : List (Addr × Obj)) (xe : Value → Shared → Prop), Takes (X.tr pn xe) W' → PassesOwn (model X.prog X.w) X.A X.env xe → PSs (X.tr pn xe) body (tS ⟨X.K, X.mg⟩ n W' F)) (hh : CsOk X n (h₀ :: hds) cs) :
    PS X (.Try body (h₀ :: hds) [] [] pos) (tS ⟨X.K, X.mg⟩ n W (tryS F cs)) := by
  obtain ⟨l, ok, q⟩ := hh.cls (W := W)
  refine (ps_try_cls hs hf tk hb ok).dl fun D σ H ⟨A, B, ρ, ω, r, s, fm, e, res⟩ => ?_
  unfold tryS at e
  cases hF : F ρ ω with
  | none => rw [hF] at e; cases e
  | some r0 =>
    refine ⟨A, B, ρ, ω, r0, s, fm, hF, ?_⟩
    rw [hF] at e
    cases r0 with
    | exc x ρ' ω' => exact q D x ρ' ω' r A B H e res
    | nx ρ' ω' => cases e; exact res
    | rt d ω' => cases e; exact res
    | bk ρ' ω' => cases e; exact res
    | ct ρ' ω' => cases e; exact res
end
/-! ### e.f in a suite -/
structure XfF (K : PySem.W.Frag) (mg : Str → Option Value) (c f : Str) : Prop where
  ex : ∃ C, mg c = some (.ref C) ∧ XfC K C ∧ PySem.W.findIn K (.ref C) f = some none
noncomputable def xfM (i : Nat) (c f : Str) (p : XP) : M D := fun ρ ω => match ρ[i]? with
  | some (.ex q x) => open Classical in if q = p ∧ x.c = c then (match x.fs.lookup f with | some d => some (.val d ω) | none => none) else none
  | _ => none
theorem de_xf {X : Cx} {W : WX} {a : Addr} {oe : Obj} {cls : Value} {d : Option Addr} {pn : List (Addr × Obj)} {np pos : Pos} {c f x : Str} (i : Nat) (T : XfF X.K X.mg c f) (hz : Zc cls d oe) (hf : ∃ vs, oe.data = .fields vs)
    (hN : (X.suite a ((a, oe) :: pn)).N[i]? = some x := by rfl) (hv : Vis (X.suite a ((a, oe) :: pn)).env.scope x := by first | exact Or.inl rfl | exact Or.inr (Or.inl rfl) | exact Or.inr (Or.inr rfl)) (hd : (x == ("__debug__" : Str)) = false := by decide)
    (hcd : (x == ("__classdict__" : Str)) = false := by decide) (hb : attributeBase (.Name x np) f X.env (eval (.Name x np) X.env) = eval (.Name x np) X.env := by rfl) :
    PE (X.suite a ((a, oe) :: pn)) (.Attribute (.Name x np) f pos) (tM ⟨X.K, X.mg⟩ rD W (xfM i c f (a, cls, d))) := by
  obtain ⟨C, h1, h2, h3⟩ := T.ex
  refine (pe_xf h2 h3 hz hf (pe_var hN hv hd hcd) hb).dl ?_
  rintro σ H Q ⟨H0, A, B, ρ, ω, r, fm, e, res⟩
  unfold xfM at e
  split at e
  · rename_i q y hi
    split at e
    · rename_i hq
      obtain ⟨rfl, hc⟩ := hq
      split at e
      · rename_i v hl
        cases e
        obtain ⟨hs, hx⟩ := fm.sl.val i _ hi
        refine ⟨_, hs, rfl, ?_⟩
        obtain ⟨g1, ⟨dd, vs, g2, g3, g4, g5⟩ | ⟨g2, g3⟩⟩ := hx
        · have : cls = .ref C := by
            have e1 : X.mg y.c = some cls := g1
            rw [hc, h1] at e1
            cases e1; rfl
          obtain ⟨u, hu, du⟩ := g5.look hl
          exact ⟨this, dd, vs, u, g2, g4, hu, res u A B H (.refl _ _ _) fm.wo du⟩
        · rw [g3] at hl; cases hl
      · cases e
    · cases e
  · cases e
/-! ### values -/
theorem raiS_ev {c f : Str} {fm : M D} {d : D} {ρ : Rho} {ω ω' : List Cell} (h : fm ρ ω = some (.val d ω')) : raiS c f fm ρ ω = some (.exc ⟨c, [(f, d)]⟩ ρ ω') := by unfold raiS; rw [bindS_ev h]
theorem seqS_ex {F K : MS} {ρ ρ' : Rho} {ω ω' : List Cell} {x : Exc} (h : F ρ ω = some (.exc x ρ' ω')) : seqS F K ρ ω = some (.exc x ρ' ω') := by unfold seqS; rw [h]
theorem tryS_nx {F : MS} {cs : List Cls1} {ρ ρ' : Rho} {ω ω' : List Cell} (h : F ρ ω = some (.nx ρ' ω')) : tryS F cs ρ ω = some (.nx ρ' ω') := by unfold tryS; rw [h]
theorem tryS_rt {F : MS} {cs : List Cls1} {ρ : Rho} {ω ω' : List Cell} {d : D} (h : F ρ ω = some (.rt d ω')) : tryS F cs ρ ω = some (.rt d ω') := by unfold tryS; rw [h]
theorem tryS_ex {F : MS} {cs : List Cls1} {ρ ρ' : Rho} {ω ω' : List Cell} {x : Exc} (h : F ρ ω = some (.exc x ρ' ω')) : tryS F cs ρ ω = catS cs x ρ' ω' := by unfold tryS; rw [h]
theorem catS_no {T : List (Str × Bool)} {oi : Option Nat} {K : XP → MS} {r : List Cls1} {x : Exc} {ρ : Rho} {ω : List Cell} (h : T.lookup x.c = some false) : catS ((T, oi, K) :: r) x ρ ω = catS r x ρ ω := by
  show (match T.lookup x.c with | none => none | some true => _ | some false => _) = _
  rw [h]
theorem catS_rt {T : List (Str × Bool)} {oi : Option Nat} {K : XP → MS} {r : List Cls1} {x : Exc} {ρ : Rho} {ω ω' : List Cell} {d : D} (h : T.lookup x.c = some true) (hK : ∀ p, K p (setX oi p x ρ) ω = some (.rt d ω')) : catS ((T, oi, K) :: r) x ρ ω = some (.rt d ω') := by
  show (match T.lookup x.c with | none => none | some true => _ | some false => _) = _
  rw [h]
  exact forP_ev fun p => by rw [hK p]; rfl
theorem bind_ex {α β : Type} {ρ : Rho} {ω ω1 : List Cell} {f : M α} {k : α → M β} {x : Exc} (h : f ρ ω = some (.exc x ω1)) : (f.bind k) ρ ω = some (.exc x ω1) := by unfold M.bind; rw [h]
theorem bindS_ex {α : Type} {ρ : Rho} {ω ω1 : List Cell} {f : M α} {s : α → MS} {x : Exc} (h : f ρ ω = some (.exc x ω1)) : bindS f s ρ ω = some (.exc x ρ ω1) := by unfold bindS; rw [h]
end DL
namespace DL
open PySem L2
/-! ### what the printer names -/
/-- the class x of a clause, and which classes it takes -/
def CatF (K : PySem.W.Frag) (mg : Str → Option Value) (x : Str) (T : List (Str × Bool)) : Prop := ∃ c, mg x = some c ∧ ExF K mg c T
section
variable {X : Cx} {n : En} {x nm : Str} {i : Nat} {T : List (Str × Bool)} {K : XP → MS} {b₀ : Stmt} {su : List Stmt} {np p : Pos} {hds : List ExceptHandler} {l : List Cls1}
theorem cs_one (h : CatF X.K X.mg x T) (hg : Gl X x)
    (hsu : ∀ (a : Addr) (oe : Obj) (cls : Value) (d : Option Addr) (pn : List (Addr × Obj)), Zc cls d oe → (∃ vs, oe.data = .fields vs) → PSs (X.suite a ((a, oe) :: pn)) (b₀ :: su) (tS ⟨X.K, X.mg⟩ n W0 (K (a, cls, d)))) (r : CsOk X n hds l) (hdb : (x == ("__debug__" : Str)) = false := by decide) :
    CsOk X n (.ExceptHandler (some (.Name x np)) none (b₀ :: su) p :: hds) ((T, none, K) :: l) := by
  obtain ⟨c, h1, h2⟩ := h
  exact .one ⟨hg, hdb, .inl h1⟩ h2 hsu r
theorem cs_as (i : Nat) (h : CatF X.K X.mg x T) (hg : Gl X x) (hN : X.N.Nodup)
    (hsu : ∀ (a : Addr) (oe : Obj) (cls : Value) (d : Option Addr) (pn : List (Addr × Obj)), Zc cls d oe → (∃ vs, oe.data = .fields vs) → PSs (X.suite a ((a, oe) :: pn)) (b₀ :: su) (tS ⟨X.K, X.mg⟩ n W0 (K (a, cls, d)))) (r : CsOk X n hds l)
    (hi : X.N[i]? = some nm := by rfl) (hln : X.env.kindOf nm = some .local := by rfl) (hdb : (x == ("__debug__" : Str)) = false := by decide) :
    CsOk X n (.ExceptHandler (some (.Name x np)) (some nm) (b₀ :: su) p :: hds) ((T, some i, K) :: l) := by
  obtain ⟨c, h1, h2⟩ := h
  exact .as hN hi hln ⟨hg, hdb, .inl h1⟩ h2 hsu r
end
/-- the text of an exception class: its place, its __init__ -/
structure FX (K : PySem.W.Frag) (mg : Str → Option Value) (c f qual : Str) (st : Stmt) : Prop where
  ex : ∃ C fI fd, mg c = some (.ref C) ∧ OexC K C ∧ PySem.W.findIn K (.ref C) "__init__" = some (some (.ref fI)) ∧ PySem.W.typeIn K (.ref fI) = some (.type "function") ∧ PySem.W.findIn K (.ref C) f = some none ∧ Fun K "__init__" qual st fI fd
theorem calX_of {P : Program} {w : World} {K : PySem.W.Frag} {mg : Str → Option Value} {base : Heap} {c f qual m : Str} {st : Stmt} {N ps : List Str} (T : FX K mg c f qual st) (S : FnScope N ps (defScope st)) (hN : N.length = 2) (hps : ps.length = 2) (b : ∀ a fd, Fun K "__init__" qual st a fd → Binds K fd ps [])
    (h : ∀ (fI : Addr) (cdv : Value) (A : Around) (outer : List PySem.Env) (s : Shared) (H : Hp) (E : XK), PSs (cxOf CX0 P w K mg base N qual (defScope st) fI cdv A outer s H E).nox (defBody st) (tSeq (tDrop (tVeI K (tCons (tVar 0) (tCons (tC (.str m)) tNil)))) (tOst K f (tVar 0) (tVar 1)))) :
    CalX P w K mg base c f ps 1 := by
  obtain ⟨C, fI, fd, h1, h2, h3, h4, h5, h6⟩ := T.ex
  refine ⟨C, fI, fd, h1, h2, h3, h4, b fI fd h6, h6.ok S (fun vs H Q E ⟨a, v, e, _⟩ => by rw [e, hps]; rfl) fun cdv A outer s H vs Q E hr hs => ⟨_, h fI cdv A outer s H E, xi_ans h2 h5 hN hs⟩⟩
end DL
/-! DL19: x[i] = e of an own list; list(range(..)). -/
namespace DL
open PySem L2
section
variable {X : Cx} {g : G} {n : En} {W : WX} {e k : Expr} {f fk : M D} {pos : Pos}
theorem ds_put (i : Nat) {x : Str} {p1 p2 : Pos} (he : PE X e (tM g rD W f)) (hk : PE X k (tM g rD W fk)) (hN : X.N[i]? = some x := by rfl) (hv : Vis X.env.scope x := by first | exact Or.inl rfl | exact Or.inr (Or.inl rfl) | exact Or.inr (Or.inr rfl)) (hd : (x == ("__debug__" : Str)) = false := by decide)
    (hcd : (x == ("__classdict__" : Str)) = false := by decide) (hs : swapsWithSole [.Subscript (.Name x p1) k p2] e pos.line X.env = pure false := by rfl) (hw : swappedStores [.Subscript (.Name x p1) k p2] e X.env = pure none := by rfl)
    (h1 : (assignEach [.Subscript (.Name x p1) k p2] X.env).map (·.2) = [assign (.Subscript (.Name x p1) k p2) X.env] := by rfl)
    (ha : ∀ v, assign (.Subscript (.Name x p1) k p2) X.env v = (do
      let ov ← holding [v] (eval (.Name x p1) X.env)
      let iv ← holding [v, ov] (eval k X.env)
      standAt p2
      holding [v, ov, iv] (setItem ov iv v)
      release [v, ov, iv] []) := by intro _; rfl) :
    PS X (.Assign [.Subscript (.Name x p1) k p2] e pos) (tS g n W (putS i fk f)) :=
  (ps_asg he (pg_sub (pe_var hN hv hd hcd) hk set_list ha) hs hw h1).dl fun D σ H ⟨A, B, ρ, ω, r, s, fm, e, res⟩ => by
    refine tM_mono (tS_bind s fm e res) fun v H1 ⟨A1, B1, ω1, d, t1, m1, s1, fm1, r1, e1, res1⟩ => ?_
    split at e1
    · rename_i ds hi
      obtain ⟨p, vs, q1, hp, l, hb, nl, h0⟩ := fm1.sl.val i _ hi
      refine ⟨.ref p, q1, ?_⟩
      refine tM_mono (tS_bind s1 fm1 e1 res1) fun u H2 ⟨A2, B2, ω2, d2, t2, m2, s2, fm2, r2, e2, res2⟩ => ?_
      split at e2
      · rename_i z
        split at e2
        · rename_i j hj
          cases e2
          cases r2
          obtain ⟨p', vs2, q2, hp2, l2, hb2, nl2, h02⟩ := fm2.sl.val i _ hi
          rw [q1] at q2
          cases q2
          refine ⟨p, vs2, z, j, rfl, rfl, hp2, by rw [l2.length]; exact hj, ?_⟩
          obtain ⟨fm3, m3⟩ := fm2.write hi q1 hp2 hb2 nl2 h02 (l2.set j (Dp.mv (fm1.wo.mv t2) _ _ r1))
          exact res2.next m3 (s2.own h02 nl2) fm3
        · cases e2
      · cases e2
    · cases e1
/-- list(range(n)), list(range(a, b)) -/
def rgD (i j : Int) : List D := rangeD i (j - i).toNat
theorem rg_dp {A : Ad} {B : Addr → Prop} {H : Hp} (i j : Int) : DpL g A B H (rgV i j) (rgD i j) := by
  unfold rgV rgD rangeD
  generalize (j - i).toNat = m
  have : ∀ l : List Nat, DpL g A B H (l.map fun k => V.int (i + (k : Nat))) (l.map fun k => D.int (i + (k : Nat))) := by
    intro l
    induction l with
    | nil => exact .nil
    | cons a l ih => exact .cons (.int _) ih
  exact this _
instance (a b : Int) : Decidable (RgOk a b) := by unfold RgOk; infer_instance
def rgL1 (d : D) : M (List D) := fun _ ω => match d with
  | .int j => if RgOk 0 j then some (.val (rgD 0 j) ω) else none
  | _ => none
theorem dn_rg1 {p p1 p2 : Pos} (hc : X.calm = true) (hg : Gl X "list") (hm : X.mg "list" = none) (hg2 : Gl X "range") (hm2 : X.mg "range" = none) (ha : PE X e (tM g rD W f)) (na : starEach [e] X.env = (false, eval e X.env) :: starEach [] X.env := by rfl)
    (nb : starEach [.Call (.Name "range" p1) [e] [] p2] X.env = (false, eval (.Call (.Name "range" p1) [e] [] p2) X.env) :: starEach [] X.env := by rfl) : PE X (.Call (.Name "list" p) [.Call (.Name "range" p1) [e] [] p2] [] pos) (tN g W (f.bind rgL1)) := by
  refine (pe_listRg hc hg hm (prg_1 hg2 hm2 ha na) nb).dl fun σ H Q ⟨H0, A, B, ρ, ω, r, fm, e, res⟩ => ?_
  refine tM_mono (tN_bind fm e res) fun x H1 ⟨A1, B1, ω1, d1, t1, fm1, r1, e1⟩ => ?_
  unfold rgL1 at e1
  split at e1
  · rename_i j
    split at e1
    · rename_i ok
      cases e1
      cases r1
      exact ⟨j, rfl, ok, res.of t1 fm1.wo (rg_dp 0 j)⟩
    · cases e1
  · cases e1
theorem rgL1_nat {m : Nat} {ρ : Rho} {ω : List Cell} (h : m ≤ 16777216) : rgL1 (.int (m : Int)) ρ ω = some (.val (rangeD 0 m) ω) := by
  unfold rgL1
  simp only
  rw [if_pos (RgOk.of_le (by omega) (by omega) (by omega) (by omega))]
  simp [rgD]
end
section
variable {m c : Str} {T : List (Str × Fn)} {o : D} {ds : List D} {ρ : Rho} {ω ω1 ω2 ω' : List Cell} {fl : List (Str × D)} {Gf : Fn} {fo fi : M D} {fs : M (List D)} {x : Exc}
theorem methM_ex (ho : fo ρ ω = some (.val o ω1)) (hv : view ω1 o = some (.obj c fl)) (hn : fl.lookup m = none) (hl : T.lookup c = some Gf) (ha : fs ρ ω1 = some (.val ds ω2)) (h : Gf (o :: ds) ω2 = some (.exc x ω')) : methM m T fo fs ρ ω = some (.exc x ω') := by
  unfold methM
  rw [bind_ev ho, bind_ev (a := c) (ω1 := ω1) (by unfold clsM; simp only [hv, hn])]
  unfold selM
  simp only [hl]
  rw [bind_ev ha]
  exact h
theorem ixO_ex {i : D} (ho : fo ρ ω = some (.val o ω1)) (hi : fi ρ ω1 = some (.val i ω2)) (hv : view ω2 o = some (.obj c fl)) (hl : T.lookup c = some Gf) (h : Gf [o, i] ω2 = some (.exc x ω')) : ixO T fo fi ρ ω = some (.exc x ω') := by
  unfold ixO
  rw [bind_ev ho, bind_ev hi]
  unfold ownM
  simp only [hv, hl]
  exact h
end
theorem ltD_t {i j : Int} (h : i < j) : ltD (.int i) (.int j) = some (.bl true) := by show some (D.bl (decide _)) = _; rw [decide_eq_true h]
theorem ltD_f {i j : Int} (h : ¬ i < j) : ltD (.int i) (.int j) = some (.bl false) := by show some (D.bl (decide _)) = _; rw [decide_eq_false h]
theorem leD_t {i j : Int} (h : i ≤ j) : leD (.int i) (.int j) = some (.bl true) := by show some (D.bl (decide _)) = _; rw [decide_eq_true h]
theorem leD_f {i j : Int} (h : ¬ i ≤ j) : leD (.int i) (.int j) = some (.bl false) := by show some (D.bl (decide _)) = _; rw [decide_eq_false h]
theorem gtD_t {i j : Int} (h : j < i) : gtD (.int i) (.int j) = some (.bl true) := by show some (D.bl (decide _)) = _; rw [decide_eq_true h]
theorem gtD_f {i j : Int} (h : ¬ j < i) : gtD (.int i) (.int j) = some (.bl false) := by show some (D.bl (decide _)) = _; rw [decide_eq_false h]
theorem geD_t {i j : Int} (h : j ≤ i) : geD (.int i) (.int j) = some (.bl true) := by show some (D.bl (decide _)) = _; rw [decide_eq_true h]
theorem geD_f {i j : Int} (h : ¬ j ≤ i) : geD (.int i) (.int j) = some (.bl false) := by show some (D.bl (decide _)) = _; rw [decide_eq_false h]
/-- x[lo:], x[:hi] of a list -/
theorem sl_to {ds : List D} {k : Nat} {fx fk : M D} {ρ : Rho} {ω : List Cell} (hx : fx ρ ω = some (.val (.lst ds) ω)) (hk : fk ρ ω = some (.val (.int k) ω)) : (fx.bind fun x => (M.pure none).bind fun l => (fk.bind asI).bind fun h => slM x l h) ρ ω = some (.val (.lst (ds.take k)) ω) := by
  rw [bind_ev hx, bind_ev (a := none) (ω1 := ω) rfl, bind_ev (a := some (k : Int)) (ω1 := ω) (by rw [bind_ev hk]; rfl)]
  show some (R.val (D.lst (cutD ds none (some (k : Int)))) ω) = _
  unfold cutD
  rw [HT.sIx_nat, HT.sIx_none]
  simp [List.take_eq_take_iff, Nat.min_comm]
theorem sl_from {ds : List D} {k : Nat} {fx fk : M D} {ρ : Rho} {ω : List Cell} (hx : fx ρ ω = some (.val (.lst ds) ω)) (hk : fk ρ ω = some (.val (.int k) ω)) : (fx.bind fun x => (fk.bind asI).bind fun l => (M.pure none).bind fun h => slM x l h) ρ ω = some (.val (.lst (ds.drop k)) ω) := by
  rw [bind_ev hx, bind_ev (a := some (k : Int)) (ω1 := ω) (by rw [bind_ev hk]; rfl), bind_ev (a := none) (ω1 := ω) rfl]
  show some (R.val (D.lst (cutD ds (some (k : Int)) none)) ω) = _
  unfold cutD
  rw [HT.sIx_nat, HT.sIx_none]
  by_cases h : k ≤ ds.length
  · rw [Nat.min_eq_left h, List.take_of_length_le (by simp)]
  · rw [Nat.min_eq_right (by omega), List.drop_of_length_le (by omega), List.drop_of_length_le (l := ds) (i := k) (by omega)]
    simp
theorem addD_lst {xs ys : List D} (h : xs.length + ys.length ≤ 1000) : addD (.lst xs) (.lst ys) = some (.lst (xs ++ ys)) := if_pos (by rw [sizeLine_eq]; omega)
theorem notM_ev {t : M Bool} {b : Bool} {ρ : Rho} {ω ω1 : List Cell} (h : t ρ ω = some (.val b ω1)) : DL.notM t ρ ω = some (.val (!b) ω1) := by unfold DL.notM; rw [bind_ev h]; rfl
theorem orM_f {t u : M Bool} {ρ : Rho} {ω ω1 ω2 : List Cell} {b : Bool} (h : t ρ ω = some (.val false ω1)) (h2 : u ρ ω1 = some (.val b ω2)) : DL.orM t u ρ ω = some (.val b ω2) := by
  unfold DL.orM
  rw [bind_ev h]
  exact h2
theorem orM_t {t u : M Bool} {ρ : Rho} {ω ω1 : List Cell} (h : t ρ ω = some (.val true ω1)) : DL.orM t u ρ ω = some (.val true ω1) := by
  unfold DL.orM
  rw [bind_ev h]
  rfl
theorem andM_t {t u : M Bool} {ρ : Rho} {ω ω1 ω2 : List Cell} {b : Bool} (h : t ρ ω = some (.val true ω1)) (h2 : u ρ ω1 = some (.val b ω2)) : DL.andM t u ρ ω = some (.val b ω2) := by
  unfold DL.andM
  rw [bind_ev h]
  exact h2
theorem andM_f {t u : M Bool} {ρ : Rho} {ω ω1 : List Cell} (h : t ρ ω = some (.val false ω1)) : DL.andM t u ρ ω = some (.val false ω1) := by
  unfold DL.andM
  rw [bind_ev h]
  rfl
/-- x != x of plain data is false -/
theorem ne_same {d : D} {fa fb : M D} {ρ : Rho} {ω ω1 ω2 : List Cell} (hf : fine d = true) (hd : ∀ ω, view ω d = some d) (ha : fa ρ ω = some (.val d ω1)) (hb : fb ρ ω1 = some (.val d ω2)) : tst (bo neD fa fb) ρ ω = some (.val false ω2) :=
  tst_ev (bo_ev ha hb (hd _) (hd _) (by rw [neD_fine hf hf, eqb_refl _ (fine_iff.mp hf).1]; rfl))
theorem tup_ev {ds : List D} {fs : M (List D)} {ρ : Rho} {ω ω1 : List Cell} (h : fs ρ ω = some (.val ds ω1)) (hl : ds.length ≤ 1000) : (fs.bind mkTup) ρ ω = some (.val (.tup ds) ω1) := by rw [bind_ev h]; exact mkTup_ev hl
theorem asgS_ev {f : M D} {T : TT1} {d : D} {ρ ρ' : Rho} {ω ω' : List Cell} (h : f ρ ω = some (.val d ω')) (hT : T d ρ ω' = some ρ') : asgS f T ρ ω = some (.nx ρ' ω') := by unfold asgS; rw [bindS_ev h, hT]
end DL
/-! DL20: static methods, chains, written tuples, max and min of two, lists of the store. -/
namespace DL
open PySem L2

/-! ### static methods -/
/-- the place of a static method -/
structure StF (K : PySem.W.Frag) (mg : Str → Option Value) (c m : Str) (f : Addr) : Prop where
  ex : ∃ C p rest, mg c = some (.ref C) ∧ PySem.W.readsIn K C (.type "type") = true ∧ PySem.W.specialIn K (.ref C) "__getattribute__" = some (some (.builtin "type.__getattribute__")) ∧
    PySem.W.findCls K (.ref C) (.type "type") m = some (.get (.builtin "staticmethod.__get__") (.ref p) .none (.ref C)) ∧ PySem.W.recIn K p "staticmethod" = some (.ref f :: rest)
structure CalS (P : Program) (w : World) (K : PySem.W.Frag) (mg : Str → Option Value) (base : Heap) (c m : Str) (ps : List Str) (k : Nat) (Gf : Fn) : Prop where
  ex : ∃ f fd, StF K mg c m f ∧ PySem.W.keepIn K (.ref f) = true ∧ Binds K fd ps [] ∧ FnOk P w K mg base (L2.CX P w) k f fd ps (spD ⟨K, mg⟩ Gf)
theorem CalS.mono {P : Program} {w : World} {K : PySem.W.Frag} {mg : Str → Option Value} {base : Heap} {c m : Str} {ps : List Str} {k j : Nat} {Gf : Fn} (x : CalS P w K mg base c m ps k Gf) (h : k ≤ j) : CalS P w K mg base c m ps j Gf := by
  obtain ⟨f, fd, h1, h2, h3, h4⟩ := x.ex
  exact ⟨f, fd, h1, h2, h3, h4.mono h⟩
structure FS (K : PySem.W.Frag) (mg : Str → Option Value) (c m qual : Str) (st : Stmt) : Prop where
  ex : ∃ f fd, StF K mg c m f ∧ Fun K m qual st f fd
theorem calS_of {P : Program} {w : World} {K : PySem.W.Frag} {mg : Str → Option Value} {base : Heap} {c m qual : Str} {st : Stmt} {ps : List Str} {k : Nat} {Gf : Fn} (T : FS K mg c m qual st) (b : ∀ a fd, Fun K m qual st a fd → Binds K fd ps [])
    (h : ∀ a fd, Fun K m qual st a fd → FnOk P w K mg base (L2.CX P w) k a fd ps (spD ⟨K, mg⟩ Gf)) : CalS P w K mg base c m ps k Gf := by
  obtain ⟨f, fd, h1, F⟩ := T.ex
  exact ⟨f, fd, h1, F.kp, b f fd F, h f fd F⟩
section
variable {X : Cx} {W : WX} {c m : Str} {p1 p2 pos : Pos} {e : Expr} {es : List Expr} {fs : M (List D)} {k j : Nat} {ps : List Str} {Gf : Fn}
/-- C.m, m static, is read -/
theorem stat_get {A : Around} {pins : List (Addr × Obj)} {s : Shared} {σ : St} {H : Hp} {f : Addr} {pl : Sem Bool} {Q : Value × List Value → Shared → Prop} {E : Value → Shared → Prop} {C : Addr} {p : Addr} {rest : List Value} (I : Inv X pins σ H s)
    (rd : PySem.W.readsIn X.K C (.type "type") = true) (ga : PySem.W.specialIn X.K (.ref C) "__getattribute__" = some (some (.builtin "type.__getattribute__"))) (fc : PySem.W.findCls X.K (.ref C) (.type "type") m = some (.get (.builtin "staticmethod.__get__") (.ref p) .none (.ref C)))
    (hp : PySem.W.recIn X.K p "staticmethod" = some (.ref f :: rest)) (h : Q (.ref f, []) { s with toks := s.toks + 1 }) : wpAny (model X.prog X.w) A (getMethod (.ref C) m pl) Q E s :=
  PySem.W.method_cls I.kIn ga (PySem.W.cls_bind I.kIn rd fc (wpAny_call (PySem.W.sm_get (s := { s with toks := s.toks + 1 }) I.kIn hp (PySem.W.handed_on rfl h))))
theorem de_stat (tk : Takes X W) (cs : CalS X.prog X.w X.K X.mg X.base c m ps k Gf) (hr : Room j X.A) (hj : k ≤ j) (hg : Gl X c) {pl : Sem Bool} (ha : PA X (e :: es) (tM ⟨X.K, X.mg⟩ rL W fs)) (hdb : (c == ("__debug__" : Str)) = false := by decide)
    (he : starEach (e :: es) X.env = (false, eval e X.env) :: starEach es X.env := by rfl) (hpl : (backTo pos (starEach es X.env)).any (·.1) = false := by rfl)
    (ht : eval (.Call (.Attribute (.Name c p1) m p2) (e :: es) [] pos) X.env = (do
      let ov ← eval (.Name c p1) X.env
      standAt p2.atName
      let (f, first) ← holding [ov] (getMethod ov m pl)
      callWith pos f first (backTo pos (starEach (e :: es) X.env)) (backToKw pos (keywordEach [] X.env))) := by rfl) :
    PE X (.Call (.Attribute (.Name c p1) m p2) (e :: es) [] pos) (tM ⟨X.K, X.mg⟩ rD W (calM Gf fs)) := by
  obtain ⟨f, fd, hs, h2, h3, h4⟩ := cs.ex
  obtain ⟨C, p, rest, h5, h6, h7, h8, h9⟩ := hs.ex
  refine PE.dl (t := tCallS (spD ⟨X.K, X.mg⟩ Gf) (WE W) (tM ⟨X.K, X.mg⟩ rL W fs)) ⟨fun pins s σ H Q I h => ?_⟩ tM_call
  refine PySem.W.methodCall_KW (pl := pl) (ld_glob I hg h5 ?_ hdb) ht
  refine stat_get I h6 h7 h8 h9 ?_
  exact PySem.W.callWith_K (h₀ := X.base) I.ok.mod.kin h2 (thn (ha.run pos pins _ σ H _ (I.tok _) h) fun us s1 ⟨vs, H1, I1, r, q⟩ => ⟨I1.kIn, run_fnS (E := WE W) h4 (hr.mono hj) h3 (passAt tk σ) I1 r q⟩) he hpl
theorem de_stat0 (tk : Takes X W) (cs : CalS X.prog X.w X.K X.mg X.base c m ps k Gf) (hr : Room j X.A) (hj : k ≤ j) (hg : Gl X c) {pl : Sem Bool} (hdb : (c == ("__debug__" : Str)) = false := by decide)
    (ht : eval (.Call (.Attribute (.Name c p1) m p2) [] [] pos) X.env = (do
      let ov ← eval (.Name c p1) X.env
      standAt p2.atName
      let (f, first) ← holding [ov] (getMethod ov m pl)
      callWith pos f first (backTo pos (starEach [] X.env)) (backToKw pos (keywordEach [] X.env))) := by rfl) :
    PE X (.Call (.Attribute (.Name c p1) m p2) [] [] pos) (tM ⟨X.K, X.mg⟩ rD W (calM Gf (M.pure []))) := by
  obtain ⟨f, fd, hs, h2, h3, h4⟩ := cs.ex
  obtain ⟨C, p, rest, h5, h6, h7, h8, h9⟩ := hs.ex
  refine PE.dl (t := tCallS (spD ⟨X.K, X.mg⟩ Gf) (WE W) tNil) ⟨fun pins s σ H Q I h => ?_⟩ fun σ H Q h => by
    obtain ⟨H0, A, B, ρ, ω, r, fm, e, res⟩ := tM_call σ H Q h
    cases e
    exact res [] A B H (.refl _ _ _) fm.wo .nil
  refine PySem.W.methodCall_KW (pl := pl) (ld_glob I hg h5 ?_ hdb) ht
  refine stat_get I h6 h7 h8 h9 ?_
  exact PySem.W.callWith_K0 (I.tok _).kIn h2 (run_fnS (us := []) (E := WE W) h4 (hr.mono hj) h3 (passAt tk σ) (I.tok _) .nil h)
end

/-! ### a < b < c -/
def chainV (f f' : D → D → Option D) (fa fb fc : M D) : M D := fa.bind fun x => fb.bind fun y => (op2 f x y).bind fun z => (asB z).bind fun k => if k = true then fc.bind (fun u => op2 f' y u) else M.pure (.bl false)
section
variable {X : Cx} {g : G} {W : WX} {a b c : Expr} {fa fb fc : M D} {f f' : D → D → Option D} {pos : Pos}
theorem de_chain {op op' : CmpOp} {r r' : R2} (ho : OpR X (compareOp op) r) (ho' : OpR X (compareOp op') r') (hv : V2 g r f) (hv' : V2 g r' f') (ha : PE X a (tM g rW W fa)) (hb : PE X b (tM g rW W fb)) (hc : PE X c (tM g rW W fc))
    (hm : lastMarks [op, op'] [b, c] = false := by with_unfolding_all rfl) : PE X (.Compare a [op, op'] [b, c] pos) (tM g rD W (chainV f f' fa fb fc)) :=
  (pe_chain ho ho' ha hb hc hm).dl fun σ H Q ⟨H0, A, B, ρ, ω, r, fm, e, res⟩ => by
    refine tM_mono (tM_bind fm e res) fun x H1 ⟨A1, B1, ω1, d1, t1, fm1, r1, e1, res1⟩ => ?_
    refine tM_mono (tM_bind fm1 e1 res1) fun y H2 ⟨A2, B2, ω2, d2, t2, fm2, r2, e2, res2⟩ => ?_
    unfold M.bind at e2
    cases q : op2 f d1 d2 ρ ω2 with
    | none => rw [q] at e2; cases e2
    | some z =>
      rw [q] at e2
      obtain ⟨x', y', z', h1, h2, h3, rfl⟩ := op2_some q
      replace e2 : ((asB z').bind fun k => if k = true then fc.bind (fun u => op2 f' d2 u) else M.pure (.bl false)) ρ ω2 = some r := e2
      obtain ⟨k, rfl, e3⟩ := asB_some e2
      refine hv A2 B2 H2 ω2 x y x' y' _ _ fm2.wo (view_ok fm2.wo (r1.up fm1.wo t2) h1) (view_ok fm2.wo r2 h2) h3 fun v A' B' H' t w dp => ?_
      cases dp
      refine ⟨k, rfl, ?_⟩
      have fm3 := fm2.up t w
      cases k with
      | false =>
        rw [if_neg Bool.false_ne_true] at e3 ⊢
        cases e3
        exact res2 _ A' B' H' t w (.bl false)
      | true =>
        rw [if_pos rfl] at e3 ⊢
        refine tM_mono (tM_bind fm3 e3 (res2.up t)) fun u H4 ⟨A4, B4, ω4, d4, t4, fm4, r4, e4, res4⟩ => ?_
        obtain ⟨y2, u2, z2, g1, g2, g3, rfl⟩ := op2_some e4
        exact hv' A4 B4 H4 ω4 y u y2 u2 z2 Q fm4.wo (view_ok fm4.wo ((r2.up fm2.wo t).up fm3.wo t4) g1) (view_ok fm4.wo r4 g2) g3 res4
theorem de_ltlt (ha : PE X a (tM g rW W fa)) (hb : PE X b (tM g rW W fb)) (hc : PE X c (tM g rW W fc)) (hm : lastMarks [.Lt, .Lt] [b, c] = false := by with_unfolding_all rfl) : PE X (.Compare a [.Lt, .Lt] [b, c] pos) (tM g rD W (chainV ltD ltD fa fb fc)) := de_chain op_lt op_lt v_lt v_lt ha hb hc hm
theorem de_lele (ha : PE X a (tM g rW W fa)) (hb : PE X b (tM g rW W fb)) (hc : PE X c (tM g rW W fc)) (hm : lastMarks [.LtE, .LtE] [b, c] = false := by with_unfolding_all rfl) : PE X (.Compare a [.LtE, .LtE] [b, c] pos) (tM g rD W (chainV leD leD fa fb fc)) := de_chain op_le op_le v_le v_le ha hb hc hm
theorem de_lelt (ha : PE X a (tM g rW W fa)) (hb : PE X b (tM g rW W fb)) (hc : PE X c (tM g rW W fc)) (hm : lastMarks [.LtE, .Lt] [b, c] = false := by with_unfolding_all rfl) : PE X (.Compare a [.LtE, .Lt] [b, c] pos) (tM g rD W (chainV leD ltD fa fb fc)) := de_chain op_le op_lt v_le v_lt ha hb hc hm
end

/-! ### a module's tuple of texts -/
def GlT (K : PySem.W.Frag) (mg : Str → Option Value) (x : Str) (ss : List Str) : Prop := ∃ a, mg x = some (.ref a) ∧ KT K a (ss.map V.str)
theorem DpL.strs {g : G} {A : Ad} {B : Addr → Prop} {H : Hp} : ∀ ss : List Str, DpL g A B H (ss.map V.str) (ss.map D.str)
  | [] => .nil
  | s :: ss => .cons (.str s) (DpL.strs ss)
theorem de_globT {X : Cx} {W : WX} {x : Str} {ss : List Str} {pos : Pos} (h : GlT X.K X.mg x ss) (hg : Gl X x) (hdb : (x == ("__debug__" : Str)) = false := by decide) : PE X (.Name x pos) (tM ⟨X.K, X.mg⟩ rD W (M.pure (.tup (ss.map D.str)))) := by
  obtain ⟨a, h1, h2⟩ := h
  refine (pe_glob (v := .ref a) hg h1 rfl hdb).dl ?_
  rintro σ H Q ⟨H0, A, B, ρ, ω, r, fm, e, res⟩
  cases e
  exact res (.ref a) A B H (.refl _ _ _) fm.wo (.tupK h2 (DpL.strs ss))

/-! ### max, min of two -/
def max2D : D → D → Option D
  | .int i, .int j => some (.int (if j > i then j else i))
  | _, _ => none
def min2D : D → D → Option D
  | .int i, .int j => some (.int (if j < i then j else i))
  | _, _ => none
section
variable {X : Cx} {g : G} {W : WX} {e e2 : Expr} {fa fb : M D} {p pos : Pos}
theorem v_max2 : V2 g (fun x y H Q => ∃ i j, [x, y] = [.int i, .int j] ∧ Q (.int (if j > i then j else i)) H) max2D := by
  intro A B H ω x y a b c Q w ha hb e q
  cases a with
  | int i =>
    cases b with
    | int j => cases ha; cases hb; cases e; exact ⟨i, j, rfl, q.now w (.int _)⟩
    | _ => cases e
  | _ => cases e
theorem v_min2 : V2 g (fun x y H Q => ∃ i j, [x, y] = [.int i, .int j] ∧ Q (.int (if j < i then j else i)) H) min2D := by
  intro A B H ω x y a b c Q w ha hb e q
  cases a with
  | int i =>
    cases b with
    | int j => cases ha; cases hb; cases e; exact ⟨i, j, rfl, q.now w (.int _)⟩
    | _ => cases e
  | _ => cases e
theorem de_max2 (hc : X.calm = true) (hg : Gl X "max") (hm : X.mg "max" = none) (ha : PE X e (tM g rW W fa)) (hb : PE X e2 (tM g rW W fb)) (he : starEach [e, e2] X.env = (false, eval e X.env) :: starEach [e2] X.env := by rfl) (he2 : starEach [e2] X.env = (false, eval e2 X.env) :: starEach [] X.env := by rfl)
    (hpl : (backTo pos (starEach [e2] X.env)).any (·.1) = false := by rfl) : PE X (.Call (.Name "max" p) [e, e2] [] pos) (tM g rD W (bo max2D fa fb)) := de_callB2 (call_max2 hc) v_max2 hg hm (by decide +kernel) ha hb (he := he) (he2 := he2) (hpl := hpl)
theorem de_min2 (hc : X.calm = true) (hg : Gl X "min") (hm : X.mg "min" = none) (ha : PE X e (tM g rW W fa)) (hb : PE X e2 (tM g rW W fb)) (he : starEach [e, e2] X.env = (false, eval e X.env) :: starEach [e2] X.env := by rfl) (he2 : starEach [e2] X.env = (false, eval e2 X.env) :: starEach [] X.env := by rfl)
    (hpl : (backTo pos (starEach [e2] X.env)).any (·.1) = false := by rfl) : PE X (.Call (.Name "min" p) [e, e2] [] pos) (tM g rD W (bo min2D fa fb)) := de_callB2 (call_min2 hc) v_min2 hg hm (by decide +kernel) ha hb (he := he) (he2 := he2) (hpl := hpl)
/-! ### == and != where no call is made (in a suite) -/
theorem de_eqU (hK : X.K = g.K) (hu : X.A.units + 64 < cLine) (ha : PE X e (tM g rW W fa)) (hb : PE X e2 (tM g rW W fb)) : PE X (.Compare e [.Eq] [e2] pos) (tM g rD W (bo eqD fa fb)) := de_cmp (op_eqD hu) (by rw [hK]; exact v_eq g) ha hb (nomark _)
theorem de_neU (hK : X.K = g.K) (hu : X.A.units + 64 < cLine) (ha : PE X e (tM g rW W fa)) (hb : PE X e2 (tM g rW W fb)) : PE X (.Compare e [.NotEq] [e2] pos) (tM g rD W (bo neD fa fb)) := de_cmp (op_neD hu) (by rw [hK]; exact v_ne g) ha hb (nomark _)
theorem dt_eqU (hK : X.K = g.K) (hu : X.A.units + 64 < cLine) (ha : PE X e (tM g rW W fa)) (hb : PE X e2 (tM g rW W fb)) : PT X (.Compare e [.Eq] [e2] pos) (tM g rB W (tst (bo eqD fa fb))) := dt_cmp (op_eqD hu) (by rw [hK]; exact v_eq g) ha hb (nomark _)
theorem dt_neU (hK : X.K = g.K) (hu : X.A.units + 64 < cLine) (ha : PE X e (tM g rW W fa)) (hb : PE X e2 (tM g rW W fb)) : PT X (.Compare e [.NotEq] [e2] pos) (tM g rB W (tst (bo neD fa fb))) := dt_cmp (op_neD hu) (by rw [hK]; exact v_ne g) ha hb (nomark _)
end

/-! ### lists of the store -/
/-- a list that has just been made becomes a thing of the store -/
theorem store_lst {g : G} {A : Ad} {B : Addr → Prop} {H : Hp} {ω : List Cell} {p : Addr} {vs : List V} {ds : List D} (w : Wo g A B H ω) (hp : H p = some (.lst vs)) (l : DpL g A B H vs ds) (hb : B p) (nl : ¬ Liv A p) :
    Wo g (A ++ [some p]) B H (ω ++ [.lst ds]) ∧ Mv A B H (A ++ [some p]) B H ∧ ∀ (A0 : Ad) (B0 : Addr → Prop) (H0 : Hp), Stp A0 B0 H0 A B H → H0 p = none → Stp A0 B0 H0 (A ++ [some p]) B H := by
  have ap : ∀ (k : Nat) (x : Option Addr), A[k]? = some x → (A ++ [some p])[k]? = some x := fun k x e => by rw [List.getElem?_append_left (List.getElem?_eq_some_iff.mp e).1]; exact e
  have m : Mv A B H (A ++ [some p]) B H := ⟨fun a o n e => ⟨e, n⟩, fun k x e => .inl (ap k x e), fun _ _ _ h => h⟩
  refine ⟨⟨by simp [w.len], fun i j a ei ej => ?_, fun a z => ?_, w.bnd, fun k c e => ?_⟩, m, fun A0 B0 H0 s h0 => ⟨s.keep, s.old, fun a z => ?_, fun k x e => ?_, s.trk, s.frz⟩⟩
  · have fix : ∀ (i : Nat) (a : Addr), (A ++ [some p])[i]? = some (some a) → (A[i]? = some (some a)) ∨ (i = A.length ∧ a = p) := fun i a e => by
      by_cases h : i < A.length
      · rw [List.getElem?_append_left h] at e; exact .inl e
      · rw [List.getElem?_append_right (Nat.le_of_not_lt h)] at e
        have hi : i - A.length = 0 := by
          cases q : i - A.length with
          | zero => rfl
          | succ n => rw [q] at e; simp at e
        rw [hi] at e
        have : p = a := by simpa using e
        exact .inr ⟨by omega, this.symm⟩
    rcases fix i a ei with h1 | ⟨h1, h2⟩
    · rcases fix j a ej with h3 | ⟨h3, h4⟩
      · exact w.inj i j a h1 h3
      · exact (nl (by rw [← h4]; exact Liv.of h1)).elim
    · rcases fix j a ej with h3 | ⟨h3, h4⟩
      · exact (nl (by rw [← h2]; exact Liv.of h3)).elim
      · rw [h1, h3]
  · rcases List.mem_append.mp z with z | z
    · exact w.liv a z
    · have : a = p := by simpa using z
      rw [this]; exact hb
  · by_cases h : k < ω.length
    · rw [List.getElem?_append_left h] at e
      rcases w.cell k c e with ⟨h1, h2⟩ | ⟨a, h1, h2⟩
      · exact .inl ⟨h1, ap _ _ h2⟩
      · exact .inr ⟨a, ap _ _ h1, h2.mv m fun o e => e⟩
    · rw [List.getElem?_append_right (Nat.le_of_not_lt h)] at e
      have hk : k - ω.length = 0 := by
        cases q : k - ω.length with
        | zero => rfl
        | succ n => rw [q] at e; simp at e
      rw [hk] at e
      have ec : Cell.lst ds = c := by simpa using e
      subst ec
      have ek : k = A.length := by rw [w.len]; omega
      exact .inr ⟨p, by rw [ek]; simp, vs, hp, DpL.mv m _ _ l⟩
  · rcases List.mem_append.mp z with z | z
    · exact s.new a z
    · have : a = p := by simpa using z
      exact .inr (by rw [this]; exact h0)
  · rcases s.ids k x e with q | q
    · exact .inl (ap _ _ q)
    · exact .inr (ap _ _ q)
/-- x = a new list, kept in the store -/
def setN (i : Nat) (f : M (List D)) : MS := bindS f fun ds ρ ω => some (.nx (ρ.set i (.fz (.oid ω.length))) (ω ++ [.lst ds]))
section
variable {X : Cx} {g : G} {n : En} {W : WX} {e : Expr} {f : M D} {fs : M (List D)} {pos : Pos}
theorem tN_setN {i : Nat} {D : Ends} {σ : St} {H : Hp} (h : tS g n W (setN i fs) D σ H) : tN g W fs σ H fun x H1 => gName i x σ H1 D.nx := by
  obtain ⟨A, B, ρ, ω, r, s, fm, e, res⟩ := h
  unfold setN bindS at e
  cases q : fs ρ ω with
  | none => rw [q] at e; cases e
  | some z =>
    rw [q] at e
    cases z with
    | exc x ω' =>
      cases e
      exact ⟨n.H, A, B, ρ, ω, _, fm, q, fun cls dd A' B' H' t w x => res cls dd σ A' B' H' (fm.wo.mv t) (s.trans t) (fm.up t w) x⟩
    | val ds ω' =>
      cases e
      refine ⟨n.H, A, B, ρ, ω, _, fm, q, fun p vs A' B' H' t w hp l hb nl h1 => ?_⟩
      obtain ⟨w2, m2, s2⟩ := store_lst w hp l hb nl
      have st := s2 n.A n.B n.H (s.trans t) (s.none h1)
      have t2 : Stp A B H (A' ++ [some p]) B' H' := s2 A B H t h1
      refine res.next (fm.wo.mv t2) st ((fm.up t2 w2).setF (.oid ?_))
      rw [← w.len]
      simp
theorem ds_setN {i : Nat} {x : Str} {pos' : Pos} (hN : X.N.Nodup) (he : PE X e (tN g W fs)) (hi : X.N[i]? = some x := by rfl) (hx : Loc X.env.scope x := by first | exact Or.inl rfl | exact Or.inr rfl) (hs : swapsWith e (some (.Name x pos')) pos.line X.env = pure false := by rfl)
    (hf : X.fn x = true ∨ X.env.scope.names.lookup x = some .local := by first | exact .inl rfl | exact .inr rfl | assumption) : PS X (.Assign [.Name x pos'] e pos) (tS g n W (setN i fs)) :=
  (ps_set hN hi hx he hs hf).dl fun D σ H h => tN_setN h
/-- x + y, a new list -/
def catL (x y : D) : M (List D) := fun _ ω => match view ω x, view ω y with
  | some (.lst xs), some (.lst ys) => if xs.length + ys.length ≤ sizeLine then some (.val (xs ++ ys) ω) else none
  | _, _ => none
theorem dn_cat {a b : Expr} {fa fb : M D} (ha : PE X a (tM g rW W fa)) (hb : PE X b (tM g rW W fb)) : PE X (.BinOp a .Add b pos) (tN g W (fa.bind fun x => fb.bind fun y => catL x y)) :=
  (pe_op op_cat ha hb).dl fun σ H Q ⟨H0, A, B, ρ, ω, r, fm, e, res⟩ => by
    refine tM_mono (tN_bind fm e res) fun x H1 ⟨A1, B1, ω1, d1, t1, fm1, r1, e1⟩ => ?_
    have res1 : ResN g W σ A1 B1 H1 Q r := by
      cases r with
      | val ds ω' => exact fun p vs A' B' H' t w h1 h2 h3 h4 h5 => res p vs A' B' H' (t1.trans t) w h1 h2 h3 h4 (t1.none h5)
      | exc x ω' => exact fun cls dd A' B' H' t => res cls dd A' B' H' (t1.trans t)
    refine tM_mono (tN_bind fm1 e1 res1) fun y H2 ⟨A2, B2, ω2, d2, t2, fm2, r2, e2⟩ => ?_
    unfold catL at e2
    split at e2
    · rename_i xs ys v1 v2
      split at e2
      · rename_i hz
        cases e2
        obtain ⟨p, vs, rfl, hp, l⟩ := view_ok fm2.wo (r1.up fm1.wo t2) v1
        obtain ⟨p', ws, rfl, hp', l'⟩ := view_ok fm2.wo r2 v2
        exact ⟨p, p', vs, ws, rfl, rfl, hp, hp', by rw [l.length, l'.length]; exact hz, res1.of t2 fm2.wo (l.append l')⟩
      · cases e2
    · cases e2
/-- x.append(e), x a list of the store -/
def appO (i : Nat) (f : M D) : MS := fun ρ ω => match ρ[i]? with
  | some (.fz (.oid k)) => (match ω[k]? with
    | some (.lst _) => bindS f (fun d ρ ω => match ω[k]? with
      | some (.lst ds) => if ds.length < sizeLine then some (.nx ρ (ω.set k (.lst (ds ++ [d])))) else none
      | _ => none) ρ ω
    | _ => none)
  | _ => none
theorem ds_appO {i : Nat} {x : Str} {p1 p2 p3 : Pos} (he : PE X e (tM g rD W f)) (hN : X.N[i]? = some x := by rfl) (hv : Vis X.env.scope x := by first | exact Or.inl rfl | exact Or.inr (Or.inl rfl) | exact Or.inr (Or.inr rfl)) (hd : (x == ("__debug__" : Str)) = false := by decide)
    (hcd : (x == ("__classdict__" : Str)) = false := by decide) (hbase : attributeBase (.Name x p1) "append" X.env (eval (.Name x p1) X.env) = eval (.Name x p1) X.env := by rfl)
    (hfew : ((backTo p3 (starEach [e] X.env)).all (fun x => !x.1) && (backToKw p3 (keywordEach [] X.env)).all (fun x => x.1.isSome)
      && decide ([e].length + ([] : List Keyword).length + (if ([] : List Keyword).isEmpty then 0 else 1) < 30)) = true := by rfl)
    (hline : (p2.endLine == p3.line) = true := by rfl) (hst : starEach [e] X.env = (false, eval e X.env) :: starEach [] X.env := by rfl) (hplain : (backTo p3 (starEach [] X.env)).any (·.1) = false := by rfl)
    (hs : swapsWith (.Call (.Attribute (.Name x p1) "append" p2) [e] [] p3) none pos.line X.env = pure false := by rfl) :
    PS X (.Expr (.Call (.Attribute (.Name x p1) "append" p2) [e] [] p3) pos) (tS g n W (appO i f)) :=
  (ps_expr (pe_bm PySem.F.plainAttrs_list PySem.F.slot_list_append PySem.F.type_list_append mt_append (pe_var hN hv hd hcd) (pa_cons he pa_nil hst) hbase hfew hline hst hplain) hs).dl fun D σ H ⟨A, B, ρ, ω, r, s, fm, e, res⟩ => by
    unfold appO at e
    split at e
    · rename_i k hi
      split at e
      · rename_i ds0 hk
        have cellAt : ∀ {A : Ad} {B : Addr → Prop} {H : Hp} {ω : List Cell} {ds : List DL.D} {v : V}, Wo g A B H ω → ω[k]? = some (.lst ds) → Dp g A B H v (.oid k) → ∃ a vs, v = .ref a ∧ A[k]? = some (some a) ∧ H a = some (.lst vs) ∧ DpL g A B H vs ds := by
          intro A B H ω ds v w hw dv
          rcases w.cell k _ hw with ⟨z, _⟩ | ⟨a, ha, vs, h1, h2⟩
          · cases z
          · cases dv with
            | oid e => rw [ha] at e; cases e; exact ⟨a, vs, rfl, ha, h1, h2⟩
            | ded e => rw [ha] at e; cases e
        obtain ⟨v, hv1, dv⟩ := fm.sl.val i _ hi
        obtain ⟨a, vs, rfl, ha, hp, l⟩ := cellAt fm.wo hk dv
        refine ⟨.ref a, hv1, .inl ⟨rfl, vs, SqL.of hp⟩, ?_⟩
        refine tM_mono (tS_bind s fm e res) fun u H1 ⟨A1, B1, ω1, d, t1, m1, s1, fm1, r1, e2, res1⟩ => ?_
        split at e2
        · rename_i ds1 hk1
          split at e2
          · rename_i hz
            cases e2
            obtain ⟨v', hv2, dv'⟩ := fm1.sl.val i _ hi
            rw [hv1] at hv2
            cases hv2
            obtain ⟨a', vs1, ea, ha1, hp1, l1⟩ := cellAt fm1.wo hk1 dv'
            cases ea
            refine ⟨a, vs1, u, rfl, rfl, hp1, by rw [l1.length]; exact hz, ?_⟩
            obtain ⟨fm2, m2⟩ := fm1.cellW (u := .lst (vs1 ++ [u])) (c := .lst (ds1 ++ [d])) ha1 (frz_not hp1) fun H' _ hu m => ⟨_, hu, DpL.mv m _ _ (l1.append (.cons r1 .nil))⟩
            exact res1.next m2 (s1.cellW (Liv.of ha1) (frz_not hp1)) fm2
          · cases e2
        · cases e2
      · cases e
    · cases e
end
end DL
/-! DL21: things made by their own __init__, which is read like any def. -/
namespace DL
open PySem L2

structure CalG (P : Program) (w : World) (K : PySem.W.Frag) (mg : Str → Option Value) (base : Heap) (c : Str) (ps : List Str) (k : Nat) (Gf : Fn) : Prop where
  ex : ∃ C f fd, mg c = some (.ref C) ∧ Mk K C f ∧ Binds K fd ps [] ∧ FnOk P w K mg base (L2.CX P w) k f fd ps (spD ⟨K, mg⟩ Gf)
theorem calG_of {P : Program} {w : World} {K : PySem.W.Frag} {mg : Str → Option Value} {base : Heap} {c qual : Str} {st : Stmt} {ps : List Str} {k : Nat} {Gf : Fn} (T : FI K mg c qual st) (b : ∀ a fd, Fun K "__init__" qual st a fd → Binds K fd ps [])
    (h : ∀ a fd, Fun K "__init__" qual st a fd → FnOk P w K mg base (L2.CX P w) k a fd ps (spD ⟨K, mg⟩ Gf)) : CalG P w K mg base c ps k Gf := by
  obtain ⟨C, f, fd, h1, h2, F⟩ := T.ex
  exact ⟨C, f, fd, h1, h2, b f fd F, h f fd F⟩
/-- a thing that does not change: made by __init__, then a datum -/
noncomputable def mkG (c : Str) (Gf : Fn) (ds : List D) : M D := fun _ ω => open Classical in match Gf (.oid ω.length :: ds) (ω ++ [.obj c []]) with
  | some (.val .non ω') => if h : ∃ fs, ω' = ω ++ [.obj c fs] ∧ noOF fs = true then some (.val (.obj c (Classical.choose h)) ω) else none
  | some (.exc x ω') => if ∃ fs, ω' = ω ++ [.obj c fs] ∧ noOF fs = true ∧ noOF x.fs = true then some (.exc x ω) else none
  | _ => none
/-- a thing of the store -/
def mkN (c : Str) (Gf : Fn) (ds : List D) : M D := fun _ ω => match Gf (.oid ω.length :: ds) (ω ++ [.obj c []]) with
  | some (.val .non ω') => some (.val (.oid ω.length) ω')
  | some (.exc x ω') => some (.exc x ω')
  | _ => none
section
variable {X : Cx} {W : WX} {c x : Str} {p pos : Pos} {e : Expr} {es : List Expr} {fs : M (List D)} {k j : Nat} {ps : List Str} {Gf : Fn} {C f : Addr} {fd : FuncData} {sp : Sp}
theorem run_makeS {pins : List (Addr × Obj)} {σ : St} {H : Hp} {s : Shared} {Q : VK} {us : List Value} {vs : List V} (tk : Takes X W) (Mm : Mk X.K C f) (F : FnOk X.prog X.w X.K X.mg X.base (L2.CX X.prog X.w) k f fd ps sp) (hr : Room (k + 1) X.A) (hb : Binds X.K fd ps [])
    (I : Inv X pins σ H s) (r : Vals vs us) (h : ∀ x dx, H x = none → H dx = none → dx ≠ x → sp (.ref x :: vs) (upd (upd H dx (.own x)) x (.ins C dx [])) (fun v H2 => v = .non ∧ Q (.ref x) H2) (WE W σ)) :
    wpAny (model X.prog X.w) X.A (call (.ref C) us) (EP X pins σ Q) X.xe s := by
  have hq := h (s.heap.objs.size + 1) s.heap.objs.size (I.hok.fresh (Nat.le_succ _)) (I.hok.fresh (Nat.le_refl _)) (Nat.ne_of_lt (Nat.lt_succ_self _))
  have I2 := Inv.made (C := C) I
  have r2 : Vals (V.ref (s.heap.objs.size + 1) :: vs) (Value.ref (s.heap.objs.size + 1) :: us) := .cons rfl r
  have hl : (Value.ref (s.heap.objs.size + 1) :: us ++ []).length = ps.length := by
    rw [List.append_nil, ← r2.length]
    exact F.len _ _ _ _ hq
  have bb := hb _ (Value.ref (s.heap.objs.size + 1) :: us) I2.kIn hl
  rw [List.append_nil] at bb
  refine wpAny_call (make_map (f := f) I.kIn Mm.makes Mm.init (beq_iff_eq.mp Mm.fn) (codeAny_mono (F.run _ X.stack _ _ ⟨Value.ref (s.heap.objs.size + 1) :: us, []⟩ (Value.ref (s.heap.objs.size + 1) :: us) _ _ (WE W σ) (hr.make C us []) (I2.env0.make C us []) bb r2 hq) fun r s' hq' => ?_))
  cases r with
  | error e => exact passAt tk σ pins _ _ e s' I2 hq'
  | ok fl =>
    cases fl with
    | ret u =>
      obtain ⟨v, H', I3, rv, ev, q3⟩ := I2.after hq'
      subst ev
      exact ⟨rv, ⟨V.ref (s.heap.objs.size + 1), H', I3, rfl, q3⟩⟩
    | next => exact False.elim hq'
    | brk => exact False.elim hq'
    | cont => exact False.elim hq'
def tMakeS (C : Addr) (sp : Sp) (W : WX) (t : TA) : TE := fun σ H Q => t σ H fun vs H1 => ∀ x dx, H1 x = none → H1 dx = none → dx ≠ x → sp (.ref x :: vs) (upd (upd H1 dx (.own x)) x (.ins C dx [])) (fun v H2 => v = .non ∧ Q (.ref x) H2) (WE W σ)
theorem pe_makeS {t : TA} (tk : Takes X W) (Mm : Mk X.K C f) (F : FnOk X.prog X.w X.K X.mg X.base (L2.CX X.prog X.w) k f fd ps sp) (hr : Room (k + 1) X.A) (hg : Gl X x) (hm : X.mg x = some (.ref C)) (hb : Binds X.K fd ps []) (ha : PA X (e :: es) t) (hdb : (x == ("__debug__" : Str)) = false := by decide)
    (he : starEach (e :: es) X.env = (false, eval e X.env) :: starEach es X.env := by rfl) (hpl : (backTo pos (starEach es X.env)).any (·.1) = false := by rfl) : PE X (.Call (.Name x p) (e :: es) [] pos) (tMakeS C sp W t) :=
  ⟨fun pins s σ H Q I h => wpAny_Call_Name_kw (ld_glob I hg hm (PySem.W.callWith_K (h₀ := X.base) I.ok.mod.kin Mm.kp (thn (ha.run pos pins s σ H _ I h) fun us s1 ⟨vs, H1, I1, r, q⟩ => ⟨I1.kIn, run_makeS tk Mm F hr hb I1 r q⟩) he hpl) hdb)⟩
theorem pe_makeS0 (tk : Takes X W) (Mm : Mk X.K C f) (F : FnOk X.prog X.w X.K X.mg X.base (L2.CX X.prog X.w) k f fd ps sp) (hr : Room (k + 1) X.A) (hg : Gl X x) (hm : X.mg x = some (.ref C)) (hb : Binds X.K fd ps []) (hdb : (x == ("__debug__" : Str)) = false := by decide) : PE X (.Call (.Name x p) [] [] pos) (tMakeS C sp W tNil) :=
  ⟨fun pins s σ H Q I h => wpAny_Call_Name_kw (ld_glob I hg hm (PySem.W.callWith_K0 I.kIn Mm.kp (run_makeS (us := []) tk Mm F hr hb I .nil h)) hdb)⟩
theorem XOk.cut {g : G} {A : Ad} {B B' : Addr → Prop} {H : Hp} {cls : Value} {dd : Option Addr} {y : Exc} {n : Nat} (hB : ∀ a, B' a → B a) (no : noOF y.fs = true) (h : XOk g A B H cls dd y) : XOk g (A.take n) B' H cls dd y := by
  obtain ⟨h1, ⟨d, vs, h2, h3, h4, h5⟩ | h⟩ := h
  · exact ⟨h1, .inl ⟨d, vs, h2, fun z => h3 (hB _ z), h4, DpF.cut hB _ _ (noOF_bel _ no) h5⟩⟩
  · exact ⟨h1, .inr h⟩
theorem tM_makeG (hC : X.mg c = some (.ref C)) : ∀ σ H Q, tM ⟨X.K, X.mg⟩ rD W (fs.bind (mkG c Gf)) σ H Q → tMakeS C (spD ⟨X.K, X.mg⟩ Gf) W (tM ⟨X.K, X.mg⟩ rL W fs) σ H Q := by
  rintro σ H Q ⟨H0, A, B, ρ, ω, r, fm, e, res⟩
  refine tM_mono (tM_bind fm e res) fun vs H1 ⟨A1, B1, ω1, ds, t1, fm1, r1, e1, res1⟩ => ?_
  intro y dy hy hd ne
  obtain ⟨st, wo⟩ := store_new (c := c) fm1.wo hy hd ne hC
  have hlen : A1.length = ω1.length := fm1.wo.len
  have hid : (A1 ++ [some y])[ω1.length]? = some (some y) := by rw [← hlen]; simp
  have keepId : ∀ {A' : Ad} {B' : Addr → Prop} {H' : Hp} {fl : List (Str × D)}, Stp (A1 ++ [some y]) (fun a => B1 a ∨ a = y) (upd (upd H1 dy (.own y)) y (.ins C dy [])) A' B' H' → Wo ⟨X.K, X.mg⟩ A' B' H' (ω1 ++ [.obj c fl]) → A'[ω1.length]? = some (some y) := fun {A' B' H' fl} t w => by
    rcases t.ids _ _ hid with z | z
    · exact z
    · rcases w.cell ω1.length (.obj c fl) (by simp) with ⟨z', _⟩ | ⟨a, h, _⟩
      · cases z'
      · rw [z] at h; cases h
  unfold mkG at e1
  cases q : Gf (.oid ω1.length :: ds) (ω1 ++ [.obj c []]) with
  | none => simp only [q] at e1; cases e1
  | some z =>
    refine ⟨_, _, ω1 ++ [.obj c []], .oid ω1.length :: ds, z, wo, .cons (.oid hid) (DpL.mv (fm1.wo.mv st) _ _ r1), q, ?_⟩
    cases z with
    | val d ω2 =>
      cases d with
      | non =>
        simp only [q] at e1
        split at e1
        · rename_i h
          cases e1
          obtain ⟨hw, no⟩ := Classical.choose_spec h
          intro v A' B' H' t w dp
          have ev : v = .non := by cases dp; rfl
          rw [hw] at w
          obtain ⟨s9, w9, d9⟩ := store_take fm1.wo (st.trans t) w (keepId t w) hy no
          exact ⟨ev, res1 (.ref y) _ _ H' s9 w9 d9⟩
        · cases e1
      | _ => simp only [q] at e1; cases e1
    | exc x' ω2 =>
      simp only [q] at e1
      split at e1
      · rename_i h
        cases e1
        obtain ⟨fl, hw, no, nx⟩ := h
        intro cls dd A' B' H' t w xo
        rw [hw] at w
        obtain ⟨s9, w9, d9⟩ := store_take fm1.wo (st.trans t) w (keepId t w) hy no
        exact res1 cls dd _ _ H' s9 w9 (xo.cut (fun _ z => z.1) nx)
      · cases e1
theorem tM_makeN (hC : X.mg c = some (.ref C)) : ∀ σ H Q, tM ⟨X.K, X.mg⟩ rD W (fs.bind (mkN c Gf)) σ H Q → tMakeS C (spD ⟨X.K, X.mg⟩ Gf) W (tM ⟨X.K, X.mg⟩ rL W fs) σ H Q := by
  rintro σ H Q ⟨H0, A, B, ρ, ω, r, fm, e, res⟩
  refine tM_mono (tM_bind fm e res) fun vs H1 ⟨A1, B1, ω1, ds, t1, fm1, r1, e1, res1⟩ => ?_
  intro y dy hy hd ne
  obtain ⟨st, wo⟩ := store_new (c := c) fm1.wo hy hd ne hC
  have hlen : A1.length = ω1.length := fm1.wo.len
  have hid : (A1 ++ [some y])[ω1.length]? = some (some y) := by rw [← hlen]; simp
  unfold mkN at e1
  cases q : Gf (.oid ω1.length :: ds) (ω1 ++ [.obj c []]) with
  | none => simp only [q] at e1; cases e1
  | some z =>
    refine ⟨_, _, ω1 ++ [.obj c []], .oid ω1.length :: ds, z, wo, .cons (.oid hid) (DpL.mv (fm1.wo.mv st) _ _ r1), q, ?_⟩
    cases z with
    | val d ω2 =>
      cases d with
      | non =>
        simp only [q] at e1
        cases e1
        intro v A' B' H' t w dp
        have ev : v = .non := by cases dp; rfl
        refine ⟨ev, res1 (.ref y) A' B' H' (st.trans t) w ?_⟩
        rcases t.ids _ _ hid with z | z
        · exact .oid z
        · exact .ded z
      | _ => simp only [q] at e1; cases e1
    | exc x' ω2 =>
      simp only [q] at e1
      cases e1
      exact fun cls dd A' B' H' t w xo => res1 cls dd A' B' H' (st.trans t) w xo
theorem de_makeG (tk : Takes X W) (cg : CalG X.prog X.w X.K X.mg X.base c ps k Gf) (hr : Room j X.A) (hj : k + 1 ≤ j) (hg : Gl X c) (ha : PA X (e :: es) (tM ⟨X.K, X.mg⟩ rL W fs)) (hdb : (c == ("__debug__" : Str)) = false := by decide)
    (he : starEach (e :: es) X.env = (false, eval e X.env) :: starEach es X.env := by rfl) (hpl : (backTo pos (starEach es X.env)).any (·.1) = false := by rfl) : PE X (.Call (.Name c p) (e :: es) [] pos) (tM ⟨X.K, X.mg⟩ rD W (fs.bind (mkG c Gf))) := by
  obtain ⟨C, f, fd, h1, h2, h3, h4⟩ := cg.ex
  exact (pe_makeS tk h2 h4 (hr.mono hj) hg h1 h3 ha hdb he hpl).dl (tM_makeG h1)
theorem de_makeN (tk : Takes X W) (cg : CalG X.prog X.w X.K X.mg X.base c ps k Gf) (hr : Room j X.A) (hj : k + 1 ≤ j) (hg : Gl X c) (ha : PA X (e :: es) (tM ⟨X.K, X.mg⟩ rL W fs)) (hdb : (c == ("__debug__" : Str)) = false := by decide)
    (he : starEach (e :: es) X.env = (false, eval e X.env) :: starEach es X.env := by rfl) (hpl : (backTo pos (starEach es X.env)).any (·.1) = false := by rfl) : PE X (.Call (.Name c p) (e :: es) [] pos) (tM ⟨X.K, X.mg⟩ rD W (fs.bind (mkN c Gf))) := by
  obtain ⟨C, f, fd, h1, h2, h3, h4⟩ := cg.ex
  exact (pe_makeS tk h2 h4 (hr.mono hj) hg h1 h3 ha hdb he hpl).dl (tM_makeN h1)
end
/-! ### values -/
theorem mkG_ev {c : Str} {Gf : Fn} {fs : M (List D)} {ds : List D} {fl : List (Str × D)} {ρ : Rho} {ω ω1 : List Cell} (ha : fs ρ ω = some (.val ds ω1)) (h : Gf (.oid ω1.length :: ds) (ω1 ++ [.obj c []]) = some (.val .non (ω1 ++ [.obj c fl]))) (no : noOF fl = true) : (fs.bind (mkG c Gf)) ρ ω = some (.val (.obj c fl) ω1) := by
  rw [bind_ev ha]
  unfold mkG
  simp only [h]
  have q : ∃ fs, ω1 ++ [Cell.obj c fl] = ω1 ++ [.obj c fs] ∧ noOF fs = true := ⟨fl, rfl, no⟩
  rw [dif_pos q]
  have e := (Classical.choose_spec q).1
  have e2 := List.append_cancel_left e
  simp only [List.cons.injEq, Cell.obj.injEq, true_and, and_true] at e2
  rw [← e2]
theorem mkG_ex {c : Str} {Gf : Fn} {fs : M (List D)} {ds : List D} {fl : List (Str × D)} {x : Exc} {ρ : Rho} {ω ω1 : List Cell} (ha : fs ρ ω = some (.val ds ω1)) (h : Gf (.oid ω1.length :: ds) (ω1 ++ [.obj c []]) = some (.exc x (ω1 ++ [.obj c fl]))) (no : noOF fl = true) (nx : noOF x.fs = true) : (fs.bind (mkG c Gf)) ρ ω = some (.exc x ω1) := by
  rw [bind_ev ha]
  unfold mkG
  simp only [h]
  rw [if_pos ⟨fl, rfl, no, nx⟩]
theorem last_cell (ω : List Cell) (c : Cell) : (ω ++ [c])[ω.length]? = some c := by simp
theorem set_last (ω : List Cell) (c d : Cell) : (ω ++ [c]).set ω.length d = ω ++ [d] := by simp
/-- the law's own def, whatever is left in the store -/
theorem law_fnE {P : Program} {w : World} {K : PySem.W.Frag} {mg : Str → Option Value} {base : Heap} {f : Addr} {fd : FuncData} {y : Str} {k : Nat} {Gf : Fn} (F : FnOk P w K mg base CX0 k f fd [y] (spD ⟨K, mg⟩ Gf)) (h : ∀ ns : List Int, ns.length ≤ 63 → ∃ ω', Gf [.scr ns] [] = some (.val (.bl true) ω')) : FnOk P w K mg base CX0 k f fd [y] (spLaw K) := by
  refine F.imp fun vs H Q E ⟨b, ns, e, s, l, q⟩ => ?_
  subst e
  obtain ⟨ω', hg⟩ := h ns l
  refine ⟨[], fun _ => False, [], [.scr ns], _, wo0, .cons ?_ .nil, hg, fun v A' B' H' t w dp => ?_⟩
  · rcases s with s | s
    · exact .scr (fun z => z) s
    · exact .scrK s
  · cases dp
    exact q H'
/-! ### a module's ints and texts -/
theorem de_globI {X : Cx} {g : G} {W : WX} {x : Str} {i : Int} {pos : Pos} (h : ∃ t, X.mg x = some (.int i t)) (hg : Gl X x) (hdb : (x == ("__debug__" : Str)) = false := by decide) : PE X (.Name x pos) (tM g rD W (M.pure (.int i))) := by
  obtain ⟨t, h⟩ := h
  exact de_glob (v := .int i) hg h ⟨t, rfl⟩ (fun _ _ _ _ => .int i) hdb
theorem de_globS {X : Cx} {g : G} {W : WX} {x z : Str} {pos : Pos} (h : ∃ t, X.mg x = some (.str z t)) (hg : Gl X x) (hdb : (x == ("__debug__" : Str)) = false := by decide) : PE X (.Name x pos) (tM g rD W (M.pure (.str z))) := by
  obtain ⟨t, h⟩ := h
  exact de_glob (v := .str z) hg h ⟨t, rfl⟩ (fun _ _ _ _ => .str z) hdb
theorem u64_mk {k : Nat} {A : Around} {v : Option Value} (hr : Room k A) : (A.mark v).units + 64 < cLine := hr.units
end DL
/-! DL22: values of readings, more of them. -/
namespace DL
open PySem L2
section
variable {fa fb fc : M D} {ρ : Rho} {ω ω1 ω2 ω3 : List Cell} {d : D}
theorem andV_t (h : fa ρ ω = some (.val (.bl true) ω1)) : andV fa fb ρ ω = fb ρ ω1 := by unfold andV; rw [bind_ev (bind_ev h)]; rfl
theorem andV_f (h : fa ρ ω = some (.val (.bl false) ω1)) : andV fa fb ρ ω = some (.val (.bl false) ω1) := by unfold andV; rw [bind_ev (bind_ev h)]; rfl
theorem orV_t (h : fa ρ ω = some (.val (.bl true) ω1)) : orV fa fb ρ ω = some (.val (.bl true) ω1) := by unfold orV; rw [bind_ev (bind_ev h)]; rfl
theorem orV_f (h : fa ρ ω = some (.val (.bl false) ω1)) : orV fa fb ρ ω = fb ρ ω1 := by unfold orV; rw [bind_ev (bind_ev h)]; rfl
theorem notV_ev {b : Bool} (h : fa ρ ω = some (.val (.bl b) ω1)) : notV fa ρ ω = some (.val (.bl !b) ω1) := by unfold notV; rw [bind_ev (bind_ev h)]; rfl
theorem andV_ev {b c : Bool} (h : fa ρ ω = some (.val (.bl b) ω)) (h2 : fb ρ ω = some (.val (.bl c) ω)) : andV fa fb ρ ω = some (.val (.bl (b && c)) ω) := by
  cases b with
  | true => rw [andV_t h, h2]; rfl
  | false => rw [andV_f h]; rfl
theorem orV_ev {b c : Bool} (h : fa ρ ω = some (.val (.bl b) ω)) (h2 : fb ρ ω = some (.val (.bl c) ω)) : orV fa fb ρ ω = some (.val (.bl (b || c)) ω) := by
  cases b with
  | true => rw [orV_t h]; rfl
  | false => rw [orV_f h, h2]; rfl
theorem orM_ev {t u : M Bool} {b c : Bool} (h : t ρ ω = some (.val b ω)) (h2 : u ρ ω = some (.val c ω)) : DL.orM t u ρ ω = some (.val (b || c) ω) := by
  cases b with
  | true => exact orM_t h
  | false => exact orM_f h h2
theorem andM_ev {t u : M Bool} {b c : Bool} (h : t ρ ω = some (.val b ω)) (h2 : u ρ ω = some (.val c ω)) : DL.andM t u ρ ω = some (.val (b && c) ω) := by
  cases b with
  | true => exact andM_t h h2
  | false => exact andM_f h
theorem chain_int {i j k : Int} (ha : fa ρ ω = some (.val (.int i) ω)) (hb : fb ρ ω = some (.val (.int j) ω)) (hc : fc ρ ω = some (.val (.int k) ω)) : chainV ltD ltD fa fb fc ρ ω = some (.val (.bl (decide (i < j) && decide (j < k))) ω) := by
  unfold chainV
  rw [bind_ev ha, bind_ev hb, bind_ev (a := .bl (decide (i < j))) (ω1 := ω) rfl, bind_ev (a := decide (i < j)) (ω1 := ω) rfl]
  cases decide (i < j) with
  | true => rw [if_pos rfl, bind_ev hc]; rfl
  | false => rfl
end
theorem kit_ss : kitB "str" "str" = some true := by decide +kernel
theorem kit_si : kitB "str" "int" = some false := by decide +kernel
theorem kit_ii : kitB "int" "int" = some true := by decide +kernel
theorem kit_is : kitB "int" "str" = some false := by decide +kernel
theorem kit_ib : kitB "int" "bool" = some false := by decide +kernel
theorem kit_tt : kitB "tuple" "tuple" = some true := by decide +kernel
theorem isi_ss (x : Str) : isiB "str" (.str x) = some (.bl true) := by show (kitB "str" "str").map D.bl = _; rw [kit_ss]; rfl
theorem isi_si (x : Str) : isiB "int" (.str x) = some (.bl false) := by show (kitB "str" "int").map D.bl = _; rw [kit_si]; rfl
theorem isi_ii (x : Int) : isiB "int" (.int x) = some (.bl true) := by show (kitB "int" "int").map D.bl = _; rw [kit_ii]; rfl
theorem isi_is (x : Int) : isiB "str" (.int x) = some (.bl false) := by show (kitB "int" "str").map D.bl = _; rw [kit_is]; rfl
theorem isi_ib (x : Int) : isiB "bool" (.int x) = some (.bl false) := by show (kitB "int" "bool").map D.bl = _; rw [kit_ib]; rfl
theorem isi_tt (x : List D) : isiB "tuple" (.tup x) = some (.bl true) := by show (kitB "tuple" "tuple").map D.bl = _; rw [kit_tt]; rfl
theorem eqD_int (i j : Int) : eqD (.int i) (.int j) = some (.bl (decide (i = j))) := by
  rw [eqD_fine rfl rfl]
  by_cases h : i = j <;> simp [eqb, h]
theorem neD_int (i j : Int) : neD (.int i) (.int j) = some (.bl !(decide (i = j))) := by
  rw [neD_fine rfl rfl]
  by_cases h : i = j <;> simp [eqb, h]
theorem fineS {x : Str} (h : PySem.PyData.strOk x = true) : fine (.str x) = true := by
  rw [fine_iff]
  exact ⟨h, Nat.zero_le _⟩
theorem eqD_str {x y : Str} (hx : PySem.PyData.strOk x = true) (hy : PySem.PyData.strOk y = true) : eqD (.str x) (.str y) = some (.bl (x == y)) := by rw [eqD_fine (fineS hx) (fineS hy)]; rfl
theorem neD_str {x y : Str} (hx : PySem.PyData.strOk x = true) (hy : PySem.PyData.strOk y = true) : neD (.str x) (.str y) = some (.bl !(x == y)) := by rw [neD_fine (fineS hx) (fineS hy)]; rfl
/-! ### texts -/
theorem in_sign (z : Str) (c : Nat) : inD (.str ⟨#[c]⟩) (.str z) = some (.bl (decide (c ∈ z.cps.toList))) := by
  show (some (!(Builtin.Str.occurrences z ⟨#[c]⟩ 0 z.length 1).isEmpty)).map D.bl = _
  have e : (!(Builtin.Str.occurrences z ⟨#[c]⟩ 0 z.length 1).isEmpty) = decide (c ∈ z.cps.toList) := StrLaws.found_one z c
  rw [e]
  rfl
theorem notin_sign (z : Str) (c : Nat) : notInD (.str ⟨#[c]⟩) (.str z) = some (.bl !(decide (c ∈ z.cps.toList))) := by
  show (some (!(Builtin.Str.occurrences z ⟨#[c]⟩ 0 z.length 1).isEmpty)).map (fun b => D.bl !b) = _
  have e : (!(Builtin.Str.occurrences z ⟨#[c]⟩ 0 z.length 1).isEmpty) = decide (c ∈ z.cps.toList) := StrLaws.found_one z c
  rw [e]
  rfl
theorem any_strs (x : Str) (ss : List Str) : ((ss.map D.str).any fun z => eqb z (.str x)) = ss.contains x := by
  induction ss with
  | nil => rfl
  | cons s ss ih =>
    rw [List.map_cons, List.any_cons, ih]
    show ((s == x) || _) = _
    rw [List.contains_cons, Bool.beq_comm]
theorem flat_strs (ss : List Str) : (ss.map D.str).all flat = true := by
  induction ss with
  | nil => rfl
  | cons s ss ih => rw [List.map_cons, List.all_cons, ih]; rfl
theorem in_strs (x : Str) (ss : List Str) : inD (.str x) (.tup (ss.map D.str)) = some (.bl (ss.contains x)) := by
  show (if (flat (.str x) && (ss.map D.str).all flat) = true then some ((ss.map D.str).any fun z => eqb z (.str x)) else none).map D.bl = _
  rw [flat_strs, any_strs]
  rfl
theorem len_cps (x : Str) : x.length = x.cps.toList.length := by simp [Str.length]
theorem len_str {x : Str} (h : x.length ≤ 1000) : lenD (.str x) = some (.int x.length) := if_pos (by rw [sizeLine_eq]; omega)
theorem ix_strN {x : Str} {i : Nat} {c : Nat} (h : x.length ≤ 1000) (hc : x.cps.toList[i]? = some c) : ixD (.str x) (.int i) = some (.str ⟨#[c]⟩) := by
  show (if x.length ≤ sizeLine then (atI x.cps.toList i).map fun c => D.str ⟨#[c]⟩ else none) = _
  rw [if_pos (by rw [sizeLine_eq]; omega), atI_nat hc]
  rfl
theorem ix_str0 {x : Str} (h : x.length ≤ 1000) (h0 : 1 ≤ x.length) : ixD (.str x) (.int 0) = some (.str ⟨#[x.cps.toList.headD 0]⟩) := by
  rw [len_cps] at h0
  exact ix_strN (i := 0) h (by
    cases hx : x.cps.toList with
    | nil => rw [hx] at h0; simp at h0
    | cons a l => rfl)
/-- all(f(c) for the signs c of a text) -/
theorem all_signs {x : Str} {p : Nat → Bool} {f : M D} {i j : Nat} {ρ : Rho} {ω : List Cell} (h : x.length ≤ 1000) (hx : vW i ρ ω = some (.val (.str x) ω)) (hf : ∀ c ∈ x.cps.toList, f ((wipeE ρ [j]).set j (.fz (.str ⟨#[c]⟩))) ω = some (.val (.bl (p c)) ω)) :
    (uo allD ((lcM [j] ((vW i).bind itemsOf) (nmT j) (M.pure true) f).bind fun ds => M.pure (.lst ds))) ρ ω = some (.val (.bl (x.cps.toList.all p)) ω) := by
  have e := lcM_map (vs := [j]) (src := (vW i).bind itemsOf) (T := nmT j) (f := f) (ρ := ρ) (ω := ω) (ω1 := ω) (xs := x.cps.toList) (fun c => D.str ⟨#[c]⟩) (fun c => .bl (p c))
    (by rw [bind_ev hx]; rfl) (by rw [sizeLine_eq, ← len_cps]; omega) (fun c hc => ⟨_, rfl, hf c hc⟩)
  refine uo_ev (bind_ev e) rfl ?_
  rw [show x.cps.toList.map (fun c => D.bl (p c)) = (x.cps.toList.map p).map D.bl by simp, allD_bls]
  simp [List.all_map, Function.comp_def]
theorem addD_str {x y : Str} (h : x.length + y.length ≤ 1000) : addD (.str x) (.str y) = some (.str (x ++ y)) := if_pos (by rw [sizeLine_eq]; omega)
/-- a thing's field -/
theorem fld_ev {cs : List Str} {c f : Str} {fl : List (Str × D)} {d : D} {fa : M D} {ρ : Rho} {ω ω1 : List Cell} (h : fa ρ ω = some (.val (.obj c fl) ω1)) (hc : cs.contains c = true) (hl : fl.lookup f = some d) : (uo (fldD cs f) fa) ρ ω = some (.val d ω1) :=
  uo_ev h rfl (by show (if _ then _ else _) = _; rw [if_pos hc, hl])
theorem exprS_ev {f : M D} {d : D} {ρ : Rho} {ω ω1 : List Cell} (h : f ρ ω = some (.val d ω1)) : exprS f ρ ω = some (.nx ρ ω1) := by unfold exprS; rw [bindS_ev h]
theorem exprS_ex {f : M D} {x : Exc} {ρ : Rho} {ω ω1 : List Cell} (h : f ρ ω = some (.exc x ω1)) : exprS f ρ ω = some (.exc x ρ ω1) := by unfold exprS; rw [bindS_ex h]
theorem setS_ex {f : M D} {i : Nat} {x : Exc} {ρ : Rho} {ω ω1 : List Cell} (h : f ρ ω = some (.exc x ω1)) : setS i f ρ ω = some (.exc x ρ ω1) := by unfold setS; rw [bindS_ex h]
theorem retS_ex {f : M D} {x : Exc} {ρ : Rho} {ω ω1 : List Cell} (h : f ρ ω = some (.exc x ω1)) : retS f ρ ω = some (.exc x ρ ω1) := by unfold retS; rw [bindS_ex h]
theorem calM_ex {Gf : Fn} {fs : M (List D)} {ds : List D} {x : Exc} {ρ : Rho} {ω ω1 ω' : List Cell} (ha : fs ρ ω = some (.val ds ω1)) (h : Gf ds ω1 = some (.exc x ω')) : calM Gf fs ρ ω = some (.exc x ω') := by
  unfold calM
  rw [bind_ev ha]
  exact h
theorem catS_nx {T : List (Str × Bool)} {i : Nat} {K : XP → MS} {r : List Cls1} {x : Exc} {ρ ρ' : Rho} {ω ω' : List Cell} (h : T.lookup x.c = some true) (hK : ∀ p, ∃ q, K p (ρ.set i (.ex p x)) ω = some (.nx q ω') ∧ q.set i .no = ρ') : catS ((T, some i, K) :: r) x ρ ω = some (.nx ρ' ω') := by
  show (match T.lookup x.c with | none => none | some true => _ | some false => _) = _
  rw [h]
  refine forP_ev fun p => ?_
  obtain ⟨q, e1, e2⟩ := hK p
  show unS (some i) (K p (ρ.set i (.ex p x)) ω) = _
  rw [e1, ← e2]
  rfl
theorem xfM_ev {i : Nat} {c f : Str} {p : XP} {x : Exc} {d : D} {ρ : Rho} {ω : List Cell} (h : ρ[i]? = some (.ex p x)) (hc : x.c = c) (hl : x.fs.lookup f = some d) : xfM i c f p ρ ω = some (.val d ω) := by
  unfold xfM
  simp [h, hc, hl]
end DL
/-! DL23: len(set(xs)), xs a list or a tuple of texts or of ints. -/
namespace DL
open PySem L2
open PyProof.Rows hiding St

/-! ### unlike ones, in the order in which they come -/
def addNew {K : Type} [DecidableEq K] (acc : List K) (k : K) : List K := if k ∈ acc then acc else acc ++ [k]
def unlike {K : Type} [DecidableEq K] (ks : List K) : List K := ks.foldl addNew []
section
variable {K : Type} [DecidableEq K]
theorem addNew_mem (acc : List K) (k x : K) : x ∈ addNew acc k ↔ x ∈ acc ∨ x = k := by
  unfold addNew
  split
  · rename_i h
    exact ⟨.inl, fun z => z.elim id fun e => e ▸ h⟩
  · simp
theorem unlike_snoc (ks : List K) (k : K) : unlike (ks ++ [k]) = addNew (unlike ks) k := by simp [unlike]
theorem unlike_take {ks : List K} {i : Nat} {k : K} (h : ks[i]? = some k) : unlike (ks.take (i + 1)) = addNew (unlike (ks.take i)) k := by
  rw [← unlike_snoc, List.take_succ, h]
  rfl
theorem addNew_le (acc : List K) (k : K) : (addNew acc k).length ≤ acc.length + 1 := by
  unfold addNew
  split
  · omega
  · simp
theorem foldl_le : ∀ (ks acc : List K), (ks.foldl addNew acc).length ≤ acc.length + ks.length
  | [], acc => by simp
  | k :: ks, acc => by
    have h1 := foldl_le ks (addNew acc k)
    have h2 := addNew_le acc k
    simp only [List.foldl_cons, List.length_cons]
    omega
theorem unlike_le (ks : List K) : (unlike ks).length ≤ ks.length := by
  have := foldl_le ks []
  simpa [unlike] using this
theorem foldl_nodup : ∀ (ks acc : List K), (acc ++ ks).Nodup → ks.foldl addNew acc = acc ++ ks
  | [], acc, _ => by simp
  | k :: ks, acc, h => by
    have hk : k ∉ acc := fun z => by
      have := (List.nodup_append.mp h).2.2 k z k List.mem_cons_self
      exact this rfl
    simp only [List.foldl_cons]
    rw [show addNew acc k = acc ++ [k] from if_neg hk, foldl_nodup ks (acc ++ [k]) (by simpa using h)]
    simp
theorem unlike_nodup {ks : List K} (h : ks.Nodup) : unlike ks = ks := by
  have := foldl_nodup ks [] (by simpa using h)
  simpa [unlike] using this
theorem addNew_nodup {acc : List K} (h : acc.Nodup) (k : K) : (addNew acc k).Nodup := by
  unfold addNew
  split
  · exact h
  · rename_i hk
    rw [List.nodup_append]
    exact ⟨h, by simp, fun a ha b hb e => hk (by rw [← List.mem_singleton.mp hb, ← e]; exact ha)⟩
theorem foldl_lt : ∀ (ks acc : List K), acc.Nodup → ¬ (acc ++ ks).Nodup → (ks.foldl addNew acc).length < acc.length + ks.length
  | [], acc, h, n => (n (by simpa using h)).elim
  | k :: ks, acc, h, n => by
    simp only [List.foldl_cons, List.length_cons]
    by_cases hk : k ∈ acc
    · rw [show addNew acc k = acc from if_pos hk]
      have := foldl_le ks acc
      omega
    · rw [show addNew acc k = acc ++ [k] from if_neg hk]
      have h2 : (acc ++ [k]).Nodup := by
        have := addNew_nodup h k
        rwa [show addNew acc k = acc ++ [k] from if_neg hk] at this
      have := foldl_lt ks (acc ++ [k]) h2 (by simpa using n)
      simp only [List.length_append, List.length_cons, List.length_nil] at this
      omega
theorem unlike_iff (ks : List K) : (unlike ks).length = ks.length ↔ ks.Nodup := by
  constructor
  · intro h
    by_cases n : ks.Nodup
    · exact n
    · have := foldl_lt ks [] (by simp) (by simpa using n)
      simp only [List.length_nil, Nat.zero_add] at this
      have e : (unlike ks).length = (ks.foldl addNew []).length := rfl
      omega
  · intro h
    rw [unlike_nodup h]
end

/-! ### the machine's loop -/
section
variable {prog : Program} {w : World} {K : Type} [DecidableEq K] (knd : KeyKind prog w K)
theorem upd_loop {A : Around} {R : Result → Shared → Prop} {I : Addr} {fp wr : List Addr} {Gn : Array GenState → Array GenState → Prop} {n : Nat} {P : Nat → Value → Prop} {Sn : Nat → Shared → Prop} (Wk : WalksS prog w A.in1 I fp wr Gn n P Sn) (S : Addr) (hSf : S ∉ fp) (ks : List K) (hb : n + 1 < scanBound)
    (hval : ∀ i v, P i v → ∃ k, ks[i]? = some k ∧ knd.is k v = true ∧ v.scannable = true) : ∀ (m i : Nat) (s : Shared), n - i = m → i ≤ n → Sn i s →
      s.heap.SetOf knd S (fun x => decide (x ∈ unlike (ks.take i))) (unlike (ks.take i)).length →
      (∀ s', Moved (S :: wr) Gn s s' → s'.heap.SetOf knd S (fun x => decide (x ∈ unlike (ks.take n))) (unlike (ks.take n)).length → R (.ok (.ret .none)) s') →
      codeAny (model prog w) A (.builtin "set.update.loop" ⟨[.ref S, .ref I], []⟩) R s := by
  have hSw : S ∉ wr := fun h => hSf (Wk.sub _ h)
  have more : ∀ b ∈ wr, b ∈ S :: wr := fun b z => List.mem_cons_of_mem _ z
  have still : ∀ {s s' : Shared} {T : K → Bool} {c : Nat}, Moved wr Gn s s' → s.heap.SetOf knd S T c → s'.heap.SetOf knd S T c := fun hm ⟨o, es, ep, t, ho, q⟩ => ⟨o, es, ep, t, hm.heap S _ hSw ho, q⟩
  intro m
  induction m with
  | zero =>
    intro i s hk hi st hS hR
    obtain rfl : i = n := by omega
    refine codeAny_builtin PyProof.Rows.F.entry_set_update_loop ?_
    rw [Around.under_plainId PyProof.Rows.F.plain_set_update_loop _]
    exact wpAny_bind (Wk.done s _ _ st fun s' hm => wpAny_pure (hR s' (hm.mono more) (still hm hS)))
  | succ m ih =>
    intro i s hk hi st hS hR
    have lt : i < n := by omega
    refine codeAny_builtin PyProof.Rows.F.entry_set_update_loop ?_
    rw [Around.under_plainId PyProof.Rows.F.plain_set_update_loop _]
    refine wpAny_bind (Wk.item i s _ _ lt st fun v s' hP st' hm => ?_)
    obtain ⟨k, hki, is_, sc⟩ := hval i v hP
    show wpAny _ A.in1 (holding [v] (setAdd S v) >>= _) _ _ s'
    refine wpAny_bind (wpAny_holding ?_)
    unfold setAdd
    refine wpAny_holding (wpAny_bind (knd.pyHash is_ ?_))
    have room : (unlike (ks.take i)).length + 1 < scanBound := by
      have h1 := unlike_le (ks.take i)
      have h2 : (ks.take i).length ≤ i := by rw [List.length_take]; exact Nat.min_le_left _ _
      omega
    have hS1 := still hm hS
    refine wpAny_setAddHashed_of (knd := knd) (s := { s' with toks := s'.toks + 1 }) is_ sc hS1 room fun h' hsb hS2 => ?_
    have hSi : h'.SetOf knd S (fun x => decide (x ∈ unlike (ks.take (i + 1)))) (unlike (ks.take (i + 1))).length := by
      rw [unlike_take hki]
      have e1 : (fun x => decide (x ∈ addNew (unlike (ks.take i)) k)) = fun x => decide (x ∈ unlike (ks.take i)) || decide (x = k) := by
        funext x
        rw [Bool.eq_iff_iff]
        simp [addNew_mem]
      have e2 : (addNew (unlike (ks.take i)) k).length = if decide (k ∈ unlike (ks.take i)) = true then (unlike (ks.take i)).length else (unlike (ks.take i)).length + 1 := by
        unfold addNew
        by_cases h : k ∈ unlike (ks.take i) <;> simp [h]
      rw [e1, e2]
      exact hS2
    refine wpAny_pure ⟨plainId_quiet PyProof.Rows.F.plain_set_update_loop _, ih (i + 1) _ (by omega) lt (Wk.frame _ s' _ _ st' (Nat.le_succ _) fun b hb o e => ?_) hSi fun s2 hm2 hS3 => ?_⟩
    · rw [hsb.2 b (fun z : b = S => hSf (by rw [← z]; exact hb))]; exact e
    · refine hR s2 (Moved.trans Wk.gtrans ((hm.mono more).then_heap (Nat.le_succ _) fun b o hb e => ?_) hm2) hS3
      rw [hsb.2 b (fun z : b = S => hb (by rw [z]; exact List.mem_cons_self))]; exact e
/-- set(xs), xs a list -/
theorem set_of_list {A : Around} {E : Value → Shared → Prop} {s : Shared} {l : Addr} {items : Array Value} (ks : List K) {Q : Value → Shared → Prop} (hh : A.handled = none) (hl : s.heap.IsList l items) (hn : items.size + 1 < scanBound)
    (hv : ∀ (i : Nat) (v : Value), items[i]? = some v → ∃ k, ks[i]? = some k ∧ knd.is k v = true ∧ v.scannable = true)
    (h : ∀ (h' : Heap) (tk : Nat), h'.SetOf knd s.heap.objs.size (fun x => decide (x ∈ unlike (ks.take items.size))) (unlike (ks.take items.size)).length → (∀ b o, b < s.heap.objs.size → s.heap.get? b = some o → h'.get? b = some o) → Q (.ref s.heap.objs.size) { s with heap := h', toks := tk }) :
    wpAny (model prog w) A (call (.type "set") [.ref l]) Q E s := by
  obtain ⟨c, tl, hmro⟩ := PySem.F.called_set.mro
  have hmade := PySem.F.called_set.made
  have hsub := PySem.F.called_set.sub
  have h1 := PySem.F.called_set.notType
  have h2 := PySem.F.called_set.canCreate
  have hct := PySem.F.typeCall_set_1 (.ref l)
  refine wpAny_call (codeAny_of_tree ?_)
  show wpAny _ _ (callAny (.type "set") _) _ _ _
  refine wpAny_pure ⟨Code.quiet_builtin _ (by decide +kernel), codeAny_builtin PySem.F.entry_type_call ?_⟩
  rw [Around.under_plain (weight_type_call_type "set" [.ref l] []) rfl]
  repeat (any_goals (first | assumption | wp_step))
  refine codeAny_mono (code_set_new_1 (.ref l) (E := E) (Q₁ := fun ob s₁ => ∃ led : Bool, ob = .ref s.heap.objs.size ∧ s₁ = { s with heap := s.heap.push { cls := .type "set", dict := none, data := .set #[] 0 (.fresh 0 0 led) } }) fun led => ⟨led, rfl, rfl⟩) fun r s₁ hr => ?_
  cases r with
  | error e => exact hr
  | ok fl =>
    cases fl with
    | ret ob =>
      obtain ⟨led, rfl, rfl⟩ := hr
      have hS : (s.heap.push { cls := .type "set", dict := none, data := .set #[] 0 (.fresh 0 0 led) }).get? s.heap.objs.size = some { cls := .type "set", dict := none, data := .set #[] 0 (.fresh 0 0 led) } := Heap.get?_push_size _ rfl
      have hT : Shared.TypeIs { s with heap := s.heap.push { cls := .type "set", dict := none, data := .set #[] 0 (.fresh 0 0 led) } } (.ref s.heap.objs.size) "set" := ⟨_, hS, rfl⟩
      have hli := PySem.F.called_set.init.lookup
      have hbi := PySem.F.called_set.init.bind (.ref s.heap.objs.size)
      repeat (any_goals (first | assumption | wp_step))
      refine codeAny_mono (codeAny_call_builtin (R := wants (fun r s₂ => r = .none ∧ ∃ h' tk, s₂ = { s with heap := h', toks := tk } ∧ h'.SetOf knd s.heap.objs.size (fun x => decide (x ∈ unlike (ks.take items.size))) (unlike (ks.take items.size)).length ∧
          (∀ b o, b < s.heap.objs.size → s.heap.get? b = some o → h'.get? b = some o)) E) PySem.F.called_set.init.plain PySem.F.entry_set_init (check_set_init_1 hT ?_)) fun r₂ s₂ hr₂ => ?_
      · obtain ⟨⟨oc, od, odt, osl⟩, hol, hcl, nl, hdl⟩ := hl
        simp only at hcl hdl
        subst hcl; subst hdl
        have hol' : (s.heap.push { cls := .type "set", dict := none, data := .set #[] 0 (.fresh 0 0 led) }).get? l = some { cls := .type "list", dict := od, data := .seq items nl, slots := osl } := Heap.get?_push_of_some _ hol
        have hsls := PySem.F.sub_list_set
        have hslf := PySem.F.sub_list_frozenset
        have hne : (Value.type "list" == Value.type "dict") = false := by decide
        have hl1 : (s.heap.push { cls := .type "set", dict := none, data := .set #[] 0 (.fresh 0 0 led) }).IsList l items := ⟨_, hol', rfl, nl, rfl⟩
        unfold Builtin.«set.__init__» noKeywords Builtin.Frozenset.updateFrom
        generalize hPI : pyIter = PI
        wp_walk
        subst hPI
        refine wpAny_pyIter_list hl1 ?_
        refine wpAny_bind (wpAny_runValue ?_)
        have lS : l < s.heap.objs.size := Heap.lt_size hol
        have sz : (s.heap.push { cls := .type "set", dict := none, data := .set #[] 0 (.fresh 0 0 led) }).objs.size = s.heap.objs.size + 1 := Heap.size_push _ _
        have hneI : l ≠ (s.heap.push { cls := .type "set", dict := none, data := .set #[] 0 (.fresh 0 0 led) }).objs.size := by rw [sz]; exact Nat.ne_of_lt (Nat.lt_succ_of_lt lS)
        have hSf : s.heap.objs.size ∉ [(s.heap.push { cls := .type "set", dict := none, data := .set #[] 0 (.fresh 0 0 led) }).objs.size, l] := fun z => by
          rcases List.mem_cons.mp z with z | z
          · rw [sz] at z; exact absurd z (Nat.ne_of_lt (Nat.lt_succ_self _))
          · exact absurd (List.mem_singleton.mp z) (Nat.ne_of_gt lS)
        refine upd_loop knd ((Walks.list (show A.in1.in1.in1.handled = none by simp [hh]) _ l hneI items).toS) s.heap.objs.size hSf ks hn (fun i v hP => hv i v hP) (items.size - 0) 0 _ (by omega) (Nat.zero_le _) ⟨⟨_, Heap.get?_push_size _ rfl, rfl, rfl⟩, hl1.push _⟩ ?start ?stop
        case start =>
          exact PyProof.Rows.SetOf_congr ((PyProof.Rows.setObjOf_fresh (knd := knd) led).setOf (Heap.get?_push_of_some _ hS) (by unfold scanBound; omega)) (fun _ => rfl) rfl
        case stop =>
          rintro ⟨h', g', d', tk', os'⟩ hm hS'
          obtain rfl : g' = s.gens := hm.gens
          obtain rfl : d' = s.drawn := hm.drawn
          obtain rfl : os' = s.os := hm.os
          refine wpAny_pure (wpAny_pure ⟨rfl, h', tk', rfl, hS', fun b o hb e => hm.heap b o (fun z => ?_) (Heap.get?_push_of_some _ (Heap.get?_push_of_some _ e))⟩)
          rcases List.mem_cons.mp z with z | z
          · exact absurd z (Nat.ne_of_lt hb)
          · have := List.mem_singleton.mp z
            rw [this, sz] at hb
            exact absurd hb (Nat.not_lt.mpr (Nat.le_succ _))
      · cases r₂ with
        | error e => exact hr₂
        | ok fl₂ =>
          cases fl₂ with
          | ret r =>
            obtain ⟨rfl, h', tk, rfl, hS', hk'⟩ := hr₂
            repeat (any_goals (first | assumption | wp_step))
            exact h _ _ hS' hk'
          | _ => exact hr₂.elim
    | _ => exact hr.elim
/-- set(xs), xs a tuple -/
theorem set_of_tuple {A : Around} {E : Value → Shared → Prop} {s : Shared} {l : Addr} {items : Array Value} (ks : List K) {Q : Value → Shared → Prop} (hh : A.handled = none) (hl : s.heap.IsTuple l items) (hn : items.size + 1 < scanBound)
    (hv : ∀ (i : Nat) (v : Value), items[i]? = some v → ∃ k, ks[i]? = some k ∧ knd.is k v = true ∧ v.scannable = true)
    (h : ∀ (h' : Heap) (tk : Nat), h'.SetOf knd s.heap.objs.size (fun x => decide (x ∈ unlike (ks.take items.size))) (unlike (ks.take items.size)).length → (∀ b o, b < s.heap.objs.size → s.heap.get? b = some o → h'.get? b = some o) → Q (.ref s.heap.objs.size) { s with heap := h', toks := tk }) :
    wpAny (model prog w) A (call (.type "set") [.ref l]) Q E s := by
  obtain ⟨c, tl, hmro⟩ := PySem.F.called_set.mro
  have hmade := PySem.F.called_set.made
  have hsub := PySem.F.called_set.sub
  have h1 := PySem.F.called_set.notType
  have h2 := PySem.F.called_set.canCreate
  have hct := PySem.F.typeCall_set_1 (.ref l)
  refine wpAny_call (codeAny_of_tree ?_)
  show wpAny _ _ (callAny (.type "set") _) _ _ _
  refine wpAny_pure ⟨Code.quiet_builtin _ (by decide +kernel), codeAny_builtin PySem.F.entry_type_call ?_⟩
  rw [Around.under_plain (weight_type_call_type "set" [.ref l] []) rfl]
  repeat (any_goals (first | assumption | wp_step))
  refine codeAny_mono (code_set_new_1 (.ref l) (E := E) (Q₁ := fun ob s₁ => ∃ led : Bool, ob = .ref s.heap.objs.size ∧ s₁ = { s with heap := s.heap.push { cls := .type "set", dict := none, data := .set #[] 0 (.fresh 0 0 led) } }) fun led => ⟨led, rfl, rfl⟩) fun r s₁ hr => ?_
  cases r with
  | error e => exact hr
  | ok fl =>
    cases fl with
    | ret ob =>
      obtain ⟨led, rfl, rfl⟩ := hr
      have hS : (s.heap.push { cls := .type "set", dict := none, data := .set #[] 0 (.fresh 0 0 led) }).get? s.heap.objs.size = some { cls := .type "set", dict := none, data := .set #[] 0 (.fresh 0 0 led) } := Heap.get?_push_size _ rfl
      have hT : Shared.TypeIs { s with heap := s.heap.push { cls := .type "set", dict := none, data := .set #[] 0 (.fresh 0 0 led) } } (.ref s.heap.objs.size) "set" := ⟨_, hS, rfl⟩
      have hli := PySem.F.called_set.init.lookup
      have hbi := PySem.F.called_set.init.bind (.ref s.heap.objs.size)
      repeat (any_goals (first | assumption | wp_step))
      refine codeAny_mono (codeAny_call_builtin (R := wants (fun r s₂ => r = .none ∧ ∃ h' tk, s₂ = { s with heap := h', toks := tk } ∧ h'.SetOf knd s.heap.objs.size (fun x => decide (x ∈ unlike (ks.take items.size))) (unlike (ks.take items.size)).length ∧
          (∀ b o, b < s.heap.objs.size → s.heap.get? b = some o → h'.get? b = some o)) E) PySem.F.called_set.init.plain PySem.F.entry_set_init (check_set_init_1 hT ?_)) fun r₂ s₂ hr₂ => ?_
      · obtain ⟨⟨oc, od, odt, osl⟩, hol, hcl, nl, hdl⟩ := hl
        simp only at hcl hdl
        subst hcl; subst hdl
        have hol' : (s.heap.push { cls := .type "set", dict := none, data := .set #[] 0 (.fresh 0 0 led) }).get? l = some { cls := .type "tuple", dict := od, data := .seq items nl, slots := osl } := Heap.get?_push_of_some _ hol
        have hsls := PySem.F.sub_tuple_set
        have hslf := PySem.F.sub_tuple_frozenset
        have hne : (Value.type "tuple" == Value.type "dict") = false := by decide
        have hl1 : (s.heap.push { cls := .type "set", dict := none, data := .set #[] 0 (.fresh 0 0 led) }).IsTuple l items := ⟨_, hol', rfl, nl, rfl⟩
        unfold Builtin.«set.__init__» noKeywords Builtin.Frozenset.updateFrom
        generalize hPI : pyIter = PI
        wp_walk
        subst hPI
        refine wpAny_pyIter_tuple hl1 ?_
        refine wpAny_bind (wpAny_runValue ?_)
        have lS : l < s.heap.objs.size := Heap.lt_size hol
        have sz : (s.heap.push { cls := .type "set", dict := none, data := .set #[] 0 (.fresh 0 0 led) }).objs.size = s.heap.objs.size + 1 := Heap.size_push _ _
        have hneI : l ≠ (s.heap.push { cls := .type "set", dict := none, data := .set #[] 0 (.fresh 0 0 led) }).objs.size := by rw [sz]; exact Nat.ne_of_lt (Nat.lt_succ_of_lt lS)
        have hSf : s.heap.objs.size ∉ [(s.heap.push { cls := .type "set", dict := none, data := .set #[] 0 (.fresh 0 0 led) }).objs.size, l] := fun z => by
          rcases List.mem_cons.mp z with z | z
          · rw [sz] at z; exact absurd z (Nat.ne_of_lt (Nat.lt_succ_self _))
          · exact absurd (List.mem_singleton.mp z) (Nat.ne_of_gt lS)
        refine upd_loop knd ((Walks.tuple (show A.in1.in1.in1.handled = none by simp [hh]) _ l hneI items).toS) s.heap.objs.size hSf ks hn (fun i v hP => hv i v hP) (items.size - 0) 0 _ (by omega) (Nat.zero_le _) ⟨⟨_, Heap.get?_push_size _ rfl, rfl, rfl⟩, hl1.push _⟩ ?start ?stop
        case start =>
          exact PyProof.Rows.SetOf_congr ((PyProof.Rows.setObjOf_fresh (knd := knd) led).setOf (Heap.get?_push_of_some _ hS) (by unfold scanBound; omega)) (fun _ => rfl) rfl
        case stop =>
          rintro ⟨h', g', d', tk', os'⟩ hm hS'
          obtain rfl : g' = s.gens := hm.gens
          obtain rfl : d' = s.drawn := hm.drawn
          obtain rfl : os' = s.os := hm.os
          refine wpAny_pure (wpAny_pure ⟨rfl, h', tk', rfl, hS', fun b o hb e => hm.heap b o (fun z => ?_) (Heap.get?_push_of_some _ (Heap.get?_push_of_some _ e))⟩)
          rcases List.mem_cons.mp z with z | z
          · exact absurd z (Nat.ne_of_lt hb)
          · have := List.mem_singleton.mp z
            rw [this, sz] at hb
            exact absurd hb (Nat.not_lt.mpr (Nat.le_succ _))
      · cases r₂ with
        | error e => exact hr₂
        | ok fl₂ =>
          cases fl₂ with
          | ret r =>
            obtain ⟨rfl, h', tk, rfl, hS', hk'⟩ := hr₂
            repeat (any_goals (first | assumption | wp_step))
            exact h _ _ hS' hk'
          | _ => exact hr₂.elim
    | _ => exact hr.elim
end
/-! ### len(set(xs)) -/
def strsOf : List D → Option (List Str)
  | [] => some []
  | .str x :: r => (strsOf r).map (x :: ·)
  | _ :: _ => none
theorem strsOf_map (xs : List Str) : strsOf (xs.map D.str) = some xs := by
  induction xs with
  | nil => rfl
  | cons x xs ih => simp [strsOf, ih]
theorem strsOf_dp {g : G} {A : Ad} {B : Addr → Prop} {H : Hp} : ∀ {ds : List D} {vs : List V} {xs : List Str}, strsOf ds = some xs → DpL g A B H vs ds → vs = xs.map V.str
  | [], _, _, e, l => by cases e; cases l; rfl
  | d :: ds, _, xs, e, l => by
    cases l with
    | cons h1 h2 =>
      cases d with
      | str x =>
        simp only [strsOf] at e
        cases q : strsOf ds with
        | none => rw [q] at e; cases e
        | some ys =>
          rw [q] at e
          cases e
          cases h1
          simp [strsOf_dp q h2]
      | _ => simp [strsOf] at e
/-- len(set(xs)) of texts -/
def lenSetD : D → Option D
  | .tup ds => match strsOf ds with
    | some xs => if xs.length ≤ 1000 then some (.int (unlike xs).length) else none
    | none => none
  | .lst ds => match strsOf ds with
    | some xs => if xs.length ≤ 1000 then some (.int (unlike xs).length) else none
    | none => none
  | _ => none
def tLenSetS (K : PySem.W.Frag) (ta : TE) : TE := fun σ H Q => ta σ H fun x H1 => ∃ (l : Addr) (xs : List Str), x = .ref l ∧ (SqL K H1 l (xs.map V.str) ∨ SqT K H1 l (xs.map V.str)) ∧ xs.length ≤ 1000 ∧ Q (.int (unlike xs).length) H1
theorem strs_vals : ∀ {xs : List Str} {us : List Value}, Vals (xs.map V.str) us → ∀ (i : Nat) (v : Value), us[i]? = some v → ∃ k t, xs[i]? = some k ∧ v = .str k t
  | [], _, .nil, i, v, h => by simp at h
  | x :: xs, _, .cons r t, 0, v, h => by
    obtain ⟨tk, rfl⟩ := r
    simp at h
    exact ⟨x, tk, rfl, h.symm⟩
  | x :: xs, _, .cons r t, i + 1, v, h => by
    obtain ⟨k, tk, h1, h2⟩ := strs_vals t i v (by simpa using h)
    exact ⟨k, tk, by simpa using h1, h2⟩
theorem pe_lenSetS {X : Cx} {a : Expr} {ta : TE} {p p2 q pos : Pos} (hc : X.calm = true) (hg : Gl X "len") (hm : X.mg "len" = none) (hg2 : Gl X "set") (hm2 : X.mg "set" = none) (ha : PE X a ta)
    (na : starEach [a] X.env = (false, eval a X.env) :: starEach [] X.env := by rfl) : PE X (.Call (.Name "len" p) [.Call (.Name "set" p2) [a] [] q] [] pos) (tLenSetS X.K ta) := by
  refine ⟨fun pins s σ H Q I h => ?_⟩
  refine Call_ (ld_blt I hg hm boot_len (PyProof.Rows.callWith_builtin1 (PyProof.Rows.args_cons ?_ rfl) rfl rfl))
  refine Call_ (ld_blt I hg2 hm2 boot_set (PyProof.Rows.callWith_type1 (PyProof.Rows.args_cons (thn (ha.run pins s σ H _ I h) fun v s1 ⟨x, H1, I1, r1, q1⟩ => PyProof.Rows.args_nil ?_) na) na rfl))
  obtain ⟨l, xs, rfl, hq, hl, q1⟩ := q1
  cases (show v = Value.ref l from r1)
  have fin : ∀ (its : List Value), Vals (xs.map V.str) its → ∀ (h' : Heap) (tk : Nat), h'.SetOf (PySem.strKind X.prog X.w) s1.heap.objs.size (fun x => decide (x ∈ unlike (xs.take its.toArray.size))) (unlike (xs.take its.toArray.size)).length →
      (∀ b o, b < s1.heap.objs.size → s1.heap.get? b = some o → h'.get? b = some o) → wpAny (model X.prog X.w) X.A (evalAll []) (fun us s₂ => wpAny (model X.prog X.w) X.A (call (.builtin "len") (.ref s1.heap.objs.size :: us)) (EP X pins σ Q) X.xe s₂) X.xe { s1 with heap := h', toks := tk } := by
    intro its r h' tk hS hk
    have e : its.toArray.size = xs.length := by rw [List.size_toArray, ← r.length, List.length_map]
    rw [e, List.take_length] at hS
    obtain ⟨o, es, ep, t, ho, hex, hd, _, _, _, hf, hn⟩ := hS
    have I2 : Inv X pins σ H1 { s1 with heap := h', toks := tk } := I1.kept fun b o e => hk b o (Heap.lt_size e) e
    have hu := unlike_le xs
    exact wpAny_evalAll_nil (call_len_set ho hex hd hf (by rw [hn]; omega) ⟨.int (unlike xs).length, H1, I2.tok _, ⟨_, by rw [hn]⟩, q1⟩)
  have vl : ∀ (its : List Value), Vals (xs.map V.str) its → ∀ (i : Nat) (v : Value), its.toArray[i]? = some v → ∃ k, xs[i]? = some k ∧ (PySem.strKind X.prog X.w).is k v = true ∧ v.scannable = true := fun its r i v h => by
    obtain ⟨k, t, h1, rfl⟩ := strs_vals r i v (by simpa using h)
    exact ⟨k, h1, strKind_is _ _ _ _, rfl⟩
  rcases hq with hq | hq
  · obtain ⟨its, r, pl, hz⟩ := I1.list hq
    have e : its.toArray.size = xs.length := by rw [List.size_toArray, ← r.length, List.length_map]
    exact set_of_list (PySem.strKind X.prog X.w) xs (I1.ok.hd hc) pl.isList (by rw [e]; unfold scanBound; omega) (vl its r) (fin its r)
  · obtain ⟨its, r, pl, hz⟩ := I1.tuple hq
    have e : its.toArray.size = xs.length := by rw [List.size_toArray, ← r.length, List.length_map]
    exact set_of_tuple (PySem.strKind X.prog X.w) xs (I1.ok.hd hc) (show s1.heap.IsTuple l its.toArray from pl) (by rw [e]; unfold scanBound; omega) (vl its r) (fin its r)
theorem de_lenSet {X : Cx} {W : WX} {a : Expr} {fa : M D} {p p2 q pos : Pos} {g : G} (hK : X.K = g.K) (hc : X.calm = true) (hg : Gl X "len") (hm : X.mg "len" = none) (hg2 : Gl X "set") (hm2 : X.mg "set" = none) (ha : PE X a (tM g rW W fa))
    (na : starEach [a] X.env = (false, eval a X.env) :: starEach [] X.env := by rfl) : PE X (.Call (.Name "len" p) [.Call (.Name "set" p2) [a] [] q] [] pos) (tM g rD W (uo lenSetD fa)) :=
  (pe_lenSetS hc hg hm hg2 hm2 ha na).dl fun σ H Q h => by
    rw [hK]
    refine tM_op1 (r := fun x H1 Q => ∃ (l : Addr) (xs : List Str), x = .ref l ∧ (SqL g.K H1 l (xs.map V.str) ∨ SqT g.K H1 l (xs.map V.str)) ∧ xs.length ≤ 1000 ∧ Q (.int (unlike xs).length) H1) ?_ σ H Q h
    intro A B H ω x a c Q w ha e q
    cases a with
    | tup ds =>
      simp only [lenSetD] at e
      split at e
      · rename_i xs hx
        split at e
        · rename_i hl
          cases e
          obtain ⟨l, vs, rfl, hs, ll⟩ := Dp.seq ha
          rw [strsOf_dp hx ll] at hs
          exact ⟨l, xs, rfl, .inr hs, hl, q.now w (.int _)⟩
        · cases e
      · cases e
    | lst ds =>
      simp only [lenSetD] at e
      split at e
      · rename_i xs hx
        split at e
        · rename_i hl
          cases e
          obtain ⟨l, vs, rfl, hs, ll⟩ := ha
          rw [strsOf_dp hx ll] at hs
          exact ⟨l, xs, rfl, .inl (SqL.of hs), hl, q.now w (.int _)⟩
        · cases e
      · cases e
    | _ => cases e
theorem lenSet_strs {xs : List Str} (h : xs.length ≤ 1000) : lenSetD (.tup (xs.map D.str)) = some (.int (unlike xs).length) := by
  show (match strsOf (xs.map D.str) with | some xs => _ | none => _) = _
  rw [strsOf_map]
  exact if_pos h
end DL
/-! DL24: a slice as a new list. -/
namespace DL
open PySem L2
section
variable {X : Cx} {g : G} {W : WX} {e : Expr} {lo hi : Option Expr} {f : M D} {fl fh : M (Option Int)} {pos p2 : Pos}
def slL (x : D) (lo hi : Option Int) : M (List D) := fun _ ω => match view ω x with
  | some (.lst ds) => some (.val (cutD ds lo hi) ω)
  | _ => none
theorem ResN.up {A A1 : Ad} {B B1 : Addr → Prop} {H H1 : Hp} {σ : St} {Q : VK} {r : R (List D)} (res : ResN g W σ A B H Q r) (t1 : Stp A B H A1 B1 H1) : ResN g W σ A1 B1 H1 Q r := by
  cases r with
  | val ds ω' => exact fun p vs A' B' H' t w h1 h2 h3 h4 h5 => res p vs A' B' H' (t1.trans t) w h1 h2 h3 h4 (t1.none h5)
  | exc x ω' => exact fun cls dd A' B' H' t => res cls dd A' B' H' (t1.trans t)
theorem dn_slice (hK : X.K = g.K) (he : PE X e (tM g rW W f)) (hl : PO X lo (tM g rO W fl)) (hh : PO X hi (tM g rO W fh)) :
    PE X (.Subscript e (.Slice lo hi none p2) pos) (tN g W (f.bind fun x => fl.bind fun l => fh.bind fun h => slL x l h)) :=
  (pe_slice sl_list he hl hh).dl fun σ H Q ⟨H0, A, B, ρ, ω, r, fm, e, res⟩ => by
    refine tM_mono (tN_bind fm e res) fun x H1 ⟨A1, B1, ω1, d1, t1, fm1, r1, e1⟩ => ?_
    have res1 := res.up t1
    refine tM_mono (tN_bind fm1 e1 res1) fun l H2 ⟨A2, B2, ω2, l2, t2, fm2, r2, e2⟩ => ?_
    have res2 := res1.up t2
    refine tM_mono (tN_bind fm2 e2 res2) fun u H3 ⟨A3, B3, ω3, u3, t3, fm3, r3, e3⟩ => ?_
    have res3 := res2.up t3
    cases r2
    cases r3
    unfold slL at e3
    split at e3
    · rename_i ds q
      cases e3
      obtain ⟨p, vs, rfl, hp, ll⟩ := view_ok fm3.wo ((r1.up fm1.wo t2).up fm2.wo t3) q
      rw [hK]
      exact ⟨p, vs, rfl, SqL.of hp, res3.of (.refl _ _ _) fm3.wo (cut_dp ll l u)⟩
    · cases e3
theorem slL_to {ds : List D} {k : Nat} {fx fk : M D} {ρ : Rho} {ω : List Cell} (hx : fx ρ ω = some (.val (.lst ds) ω)) (hk : fk ρ ω = some (.val (.int k) ω)) : (fx.bind fun x => (M.pure none).bind fun l => (fk.bind asI).bind fun h => slL x l h) ρ ω = some (.val (ds.take k) ω) := by
  rw [bind_ev hx, bind_ev (a := none) (ω1 := ω) rfl, bind_ev (a := some (k : Int)) (ω1 := ω) (by rw [bind_ev hk]; rfl)]
  show some (R.val (cutD ds none (some (k : Int))) ω) = _
  unfold cutD
  rw [HT.sIx_nat, HT.sIx_none]
  simp [List.take_eq_take_iff, Nat.min_comm]
end
/-- a comprehension of two turns, the store going along -/
theorem lcM_two {vs : List Nat} {src : M (List D)} {T : TT1} {f : M D} {ρ ρ1 ρ2 : Rho} {ω ω1 ω2 ω3 : List Cell} {a b x y : D} (hs : src ρ ω = some (.val [a, b] ω1)) (h1 : T a (wipeE ρ vs) ω1 = some ρ1) (e1 : f ρ1 ω1 = some (.val x ω2)) (h2 : T b (wipeE ρ vs) ω2 = some ρ2) (e2 : f ρ2 ω2 = some (.val y ω3)) :
    lcM vs src T (M.pure true) f ρ ω = some (.val [x, y] ω3) := by
  unfold lcM
  rw [bind_ev hs]
  simp only [lcGo, h1, h2, e1, e2, M.pure]
  rw [if_pos (by rw [sizeLine_eq]; simp), if_pos (by rw [sizeLine_eq]; simp)]
  rfl
end DL
/-! DL25: max and min of a list of numbers. -/
namespace DL
open PySem L2
def intsOf : List D → Option (List Int)
  | [] => some []
  | .int b :: r => (intsOf r).map (b :: ·)
  | _ => none
section
variable {X : Cx} {g : G} {W : WX} {e : Expr} {fa : M D} {p pos : Pos}
theorem intsOf_dp {A : Ad} {B : Addr → Prop} {H : Hp} : ∀ {ds : List D} {vs : List V} {bs : List Int}, intsOf ds = some bs → DpL g A B H vs ds → vs = bs.map V.int
  | [], _, _, e, h => by cases h; cases e; rfl
  | d :: ds, _, bs, e, h => by
    cases h with
    | cons h1 h2 =>
      cases d with
      | int b =>
        cases h1
        simp only [intsOf] at e
        cases q : intsOf ds with
        | none => rw [q] at e; cases e
        | some bs' =>
          rw [q] at e
          cases e
          simp [intsOf_dp q h2]
      | _ => simp [intsOf] at e
theorem intsOf_map (bs : List Int) : intsOf (bs.map D.int) = some bs := by
  induction bs with
  | nil => rfl
  | cons b bs ih => simp [intsOf, ih]
def maxI : List Int → Option Int
  | [] => none
  | i :: r => some (r.foldl (fun a b => if b > a then b else a) i)
def minI : List Int → Option Int
  | [] => none
  | i :: r => some (r.foldl (fun a b => if b < a then b else a) i)
theorem fold_max : ∀ (r : List Int) (i : Int), (r.foldl (fun a b => if b > a then b else a) i ∈ i :: r) ∧ ∀ y ∈ i :: r, y ≤ r.foldl (fun a b => if b > a then b else a) i
  | [], i => ⟨by simp, by simp⟩
  | b :: r, i => by
    obtain ⟨h1, h2⟩ := fold_max r (if b > i then b else i)
    refine ⟨?_, fun y hy => ?_⟩
    · rcases List.mem_cons.mp h1 with h | h
      · show List.foldl _ (if b > i then b else i) r ∈ _
        rw [h]
        split <;> simp
      · exact List.mem_cons_of_mem _ (List.mem_cons_of_mem _ h)
    · show y ≤ List.foldl _ (if b > i then b else i) r
      have h3 := h2 _ List.mem_cons_self
      rcases List.mem_cons.mp hy with h | h
      · subst h; exact Int.le_trans (by split <;> omega) h3
      · rcases List.mem_cons.mp h with h | h
        · subst h; exact Int.le_trans (by split <;> omega) h3
        · exact h2 y (List.mem_cons_of_mem _ h)
theorem fold_min : ∀ (r : List Int) (i : Int), (r.foldl (fun a b => if b < a then b else a) i ∈ i :: r) ∧ ∀ y ∈ i :: r, r.foldl (fun a b => if b < a then b else a) i ≤ y
  | [], i => ⟨by simp, by simp⟩
  | b :: r, i => by
    obtain ⟨h1, h2⟩ := fold_min r (if b < i then b else i)
    refine ⟨?_, fun y hy => ?_⟩
    · rcases List.mem_cons.mp h1 with h | h
      · show List.foldl _ (if b < i then b else i) r ∈ _
        rw [h]
        split <;> simp
      · exact List.mem_cons_of_mem _ (List.mem_cons_of_mem _ h)
    · show List.foldl _ (if b < i then b else i) r ≤ y
      have h3 := h2 _ List.mem_cons_self
      rcases List.mem_cons.mp hy with h | h
      · subst h; exact Int.le_trans h3 (by split <;> omega)
      · rcases List.mem_cons.mp h with h | h
        · subst h; exact Int.le_trans h3 (by split <;> omega)
        · exact h2 y (List.mem_cons_of_mem _ h)
def maxLD : D → Option D
  | .lst ds => ((intsOf ds).bind maxI).map D.int
  | _ => none
def minLD : D → Option D
  | .lst ds => ((intsOf ds).bind minI).map D.int
  | _ => none
theorem v_maxL (g : G) : V1 g (fun x H Q => rMax g.K [x] H Q) maxLD := by
  intro A B H ω x a c Q w ha e q
  cases a with
  | lst ds =>
    obtain ⟨p, vs, rfl, hp, l⟩ := ha
    simp only [maxLD] at e
    cases k : intsOf ds with
    | none => rw [k] at e; cases e
    | some bs =>
      rw [k] at e
      have := intsOf_dp k l
      subst this
      cases bs with
      | nil => cases e
      | cons i r =>
        cases e
        refine ⟨p, i :: r, rfl, SqL.of hp, by simp, fun m h1 h2 => ?_⟩
        obtain ⟨h3, h4⟩ := fold_max r i
        have : m = r.foldl (fun a b => if b > a then b else a) i := Int.le_antisymm (h4 m h1) (h2 _ h3)
        rw [this]
        exact q.now w (.int _)
  | _ => cases e
theorem v_minL (g : G) : V1 g (fun x H Q => rMin g.K [x] H Q) minLD := by
  intro A B H ω x a c Q w ha e q
  cases a with
  | lst ds =>
    obtain ⟨p, vs, rfl, hp, l⟩ := ha
    simp only [minLD] at e
    cases k : intsOf ds with
    | none => rw [k] at e; cases e
    | some bs =>
      rw [k] at e
      have := intsOf_dp k l
      subst this
      cases bs with
      | nil => cases e
      | cons i r =>
        cases e
        refine ⟨p, i :: r, rfl, SqL.of hp, by simp, fun m h1 h2 => ?_⟩
        obtain ⟨h3, h4⟩ := fold_min r i
        have : m = r.foldl (fun a b => if b < a then b else a) i := Int.le_antisymm (h2 _ h3) (h4 m h1)
        rw [this]
        exact q.now w (.int _)
  | _ => cases e
theorem de_maxL (hK : X.K = g.K) (hc : X.calm = true) (hg : Gl X "max") (hm : X.mg "max" = none) (ha : PE X e (tM g rW W fa)) (he : starEach [e] X.env = (false, eval e X.env) :: starEach [] X.env := by rfl) : PE X (.Call (.Name "max" p) [e] [] pos) (tM g rD W (uo maxLD fa)) :=
  de_callB1 (cr_max hc) (by rw [hK]; exact v_maxL g) hg hm (by decide +kernel) ha (he := he)
theorem de_minL (hK : X.K = g.K) (hc : X.calm = true) (hg : Gl X "min") (hm : X.mg "min" = none) (ha : PE X e (tM g rW W fa)) (he : starEach [e] X.env = (false, eval e X.env) :: starEach [] X.env := by rfl) : PE X (.Call (.Name "min" p) [e] [] pos) (tM g rD W (uo minLD fa)) :=
  de_callB1 (cr_min hc) (by rw [hK]; exact v_minL g) hg hm (by decide +kernel) ha (he := he)
end
end DL
/-! DL26: steps of readings in the form that a stepper applies. -/
namespace DL
open PySem L2
section
variable {F K A B : MS} {ρ ρ' ρ1 : Rho} {ω ω' ω1 ω2 : List Cell} {r : Option RS} {f fa fb : M D} {fs : M (List D)} {d : D} {ds es xs : List D} {i : Nat} {t u : M Bool} {b c : Bool}
theorem z_nx (h : F ρ ω = some (.nx ρ' ω')) (k : K ρ' ω' = r) : seqS F K ρ ω = r := (seqS_nx h).trans k
theorem z_asc (k : seqS F (seqS A K) ρ ω = r) : seqS (seqS F A) K ρ ω = r := by
  rw [← k]
  unfold seqS
  cases F ρ ω with
  | none => rfl
  | some x => cases x <;> rfl
theorem z_skp (k : K ρ ω = r) : seqS (fun ρ ω => some (.nx ρ ω)) K ρ ω = r := k
theorem z_set (h : f ρ ω = some (.val d ω')) (s : ρ.set i (.fz d) = ρ') (k : K ρ' ω' = r) : seqS (setS i f) K ρ ω = r := (seqS_nx (setS_ev h)).trans (s ▸ k)
theorem e_set (h : f ρ ω = some (.val d ω')) (s : ρ.set i (.fz d) = ρ') : setS i f ρ ω = some (.nx ρ' ω') := s ▸ setS_ev h
theorem z_setO (h : fs ρ ω = some (.val ds ω')) (s : ρ.set i (.ow ds) = ρ') (k : K ρ' ω' = r) : seqS (setO i fs) K ρ ω = r := (seqS_nx (setO_ev h)).trans (s ▸ k)
theorem e_setO (h : fs ρ ω = some (.val ds ω')) (s : ρ.set i (.ow ds) = ρ') : setO i fs ρ ω = some (.nx ρ' ω') := s ▸ setO_ev h
theorem z_app (hi : ρ[i]? = some (.ow es)) (h : f ρ ω = some (.val d ω')) (hz : es.length ≤ 1000000) (s : ρ.set i (.ow (es ++ [d])) = ρ') (k : K ρ' ω' = r) : seqS (appS i f) K ρ ω = r := (seqS_nx (appS_ev hi h (by rw [sizeLine_eq]; omega))).trans (s ▸ k)
theorem e_app (hi : ρ[i]? = some (.ow es)) (h : f ρ ω = some (.val d ω')) (hz : es.length ≤ 1000000) (s : ρ.set i (.ow (es ++ [d])) = ρ') : appS i f ρ ω = some (.nx ρ' ω') := s ▸ appS_ev hi h (by rw [sizeLine_eq]; omega)
theorem z_ext (hi : ρ[i]? = some (.ow es)) (h : f ρ ω = some (.val d ω')) (hv : view ω' d = some (.lst xs)) (hz : es.length + xs.length ≤ 1000) (s : ρ.set i (.ow (es ++ xs)) = ρ') (k : K ρ' ω' = r) : seqS (extS i f) K ρ ω = r := (seqS_nx (extS_ev hi h hv (by rw [sizeLine_eq]; omega))).trans (s ▸ k)
theorem e_ext (hi : ρ[i]? = some (.ow es)) (h : f ρ ω = some (.val d ω')) (hv : view ω' d = some (.lst xs)) (hz : es.length + xs.length ≤ 1000) (s : ρ.set i (.ow (es ++ xs)) = ρ') : extS i f ρ ω = some (.nx ρ' ω') := s ▸ extS_ev hi h hv (by rw [sizeLine_eq]; omega)
theorem z_asg {T : TT1} (h : f ρ ω = some (.val d ω')) (s : T d ρ ω' = some ρ') (k : K ρ' ω' = r) : seqS (asgS f T) K ρ ω = r := (seqS_nx (asgS_ev h s)).trans k
theorem z_exp (h : f ρ ω = some (.val d ω')) (k : K ρ ω' = r) : seqS (exprS f) K ρ ω = r := (seqS_nx (exprS_ev h)).trans k
theorem z_ret (h : f ρ ω = some (.val d ω')) (k : some (.rt d ω') = r) : seqS (retS f) K ρ ω = r := (seqS_rt (retS_ev h)).trans k
theorem z_retR (h : f ρ ω = some (.val d ω')) (k : some (.rt d ω') = r) : retS f ρ ω = r := (retS_ev h).trans k
theorem z_rai {cl fl : Str} (h : f ρ ω = some (.val d ω')) (k : some (.exc ⟨cl, [(fl, d)]⟩ ρ ω') = r) : seqS (raiS cl fl f) K ρ ω = r := (seqS_ex (raiS_ev h)).trans k
theorem z_raiR {cl fl : Str} (h : f ρ ω = some (.val d ω')) (k : some (.exc ⟨cl, [(fl, d)]⟩ ρ ω') = r) : raiS cl fl f ρ ω = r := (raiS_ev h).trans k
theorem z_if (h : t ρ ω = some (.val b ω')) (k : seqS (cond b A B) K ρ ω' = r) : seqS (ifS t A B) K ρ ω = r := by
  rw [← k]
  cases b with
  | true => unfold seqS; rw [ifS_t h]; rfl
  | false => unfold seqS; rw [ifS_f h]; rfl
theorem z_ifR (h : t ρ ω = some (.val b ω')) (k : (cond b A B) ρ ω' = r) : ifS t A B ρ ω = r := by
  rw [← k]
  cases b with
  | true => rw [ifS_t h]; rfl
  | false => rw [ifS_f h]; rfl
theorem z_ct (hb : b = true) (k : seqS A K ρ ω = r) : seqS (cond b A B) K ρ ω = r := by rw [hb]; exact k
theorem z_cf (hb : b = false) (k : seqS B K ρ ω = r) : seqS (cond b A B) K ρ ω = r := by rw [hb]; exact k
theorem z_ctR (hb : b = true) (k : A ρ ω = r) : (cond b A B) ρ ω = r := by rw [hb]; exact k
theorem z_cfR (hb : b = false) (k : B ρ ω = r) : (cond b A B) ρ ω = r := by rw [hb]; exact k
theorem z_for {src : M (List D)} {T : TT1} {items : List D} (h1 : src ρ ω = some (.val items ω1)) (h2 : forGo T F items ρ ω1 = some (.nx ρ' ω')) (k : K ρ' ω' = r) : seqS (forS src T F) K ρ ω = r := (seqS_nx (forS_nx h1 h2)).trans k
theorem e_for {src : M (List D)} {T : TT1} {items : List D} (h1 : src ρ ω = some (.val items ω1)) (h2 : forGo T F items ρ ω1 = some (.nx ρ' ω')) : forS src T F ρ ω = some (.nx ρ' ω') := forS_nx h1 h2
theorem z_forE {src : M (List D)} {T : TT1} {items : List D} {s : RS} (h1 : src ρ ω = some (.val items ω1)) (h2 : forGo T F items ρ ω1 = some s) (k : seqS (fun _ _ => unbk (some s)) K ρ ω = r) : seqS (forS src T F) K ρ ω = r := by
  rw [← k]
  unfold seqS forS
  rw [bindS_ev h1, h2]
/-- bind with what comes behind -/
theorem y_bind {α β : Type} {f : M α} {k : α → M β} {a : α} {r : Option (R β)} (h : f ρ ω = some (.val a ω1)) (h2 : k a ρ ω1 = r) : (f.bind k) ρ ω = r := (bind_ev h).trans h2
theorem y_andF (h : t ρ ω = some (.val b ω1)) (hb : b = false) : DL.andM t u ρ ω = some (.val false ω1) := andM_f (hb ▸ h)
theorem y_andT (h : t ρ ω = some (.val b ω1)) (hb : b = true) (h2 : u ρ ω1 = some (.val c ω2)) : DL.andM t u ρ ω = some (.val c ω2) := andM_t (hb ▸ h) h2
theorem y_orT (h : t ρ ω = some (.val b ω1)) (hb : b = true) : DL.orM t u ρ ω = some (.val true ω1) := orM_t (hb ▸ h)
theorem y_orF (h : t ρ ω = some (.val b ω1)) (hb : b = false) (h2 : u ρ ω1 = some (.val c ω2)) : DL.orM t u ρ ω = some (.val c ω2) := orM_f (hb ▸ h) h2
theorem y_andVF (h : fa ρ ω = some (.val (.bl b) ω1)) (hb : b = false) : andV fa fb ρ ω = some (.val (.bl false) ω1) := andV_f (hb ▸ h)
theorem y_andVT (h : fa ρ ω = some (.val (.bl b) ω1)) (hb : b = true) (h2 : fb ρ ω1 = some (.val d ω2)) : andV fa fb ρ ω = some (.val d ω2) := (andV_t (hb ▸ h)).trans h2
theorem y_orVT (h : fa ρ ω = some (.val (.bl b) ω1)) (hb : b = true) : orV fa fb ρ ω = some (.val (.bl true) ω1) := orV_t (hb ▸ h)
theorem y_orVF (h : fa ρ ω = some (.val (.bl b) ω1)) (hb : b = false) (h2 : fb ρ ω1 = some (.val d ω2)) : orV fa fb ρ ω = some (.val d ω2) := (orV_f (hb ▸ h)).trans h2
theorem y_ifT {α : Type} {x y : M α} {r : Option (R α)} (h : t ρ ω = some (.val b ω1)) (hb : b = true) (k : x ρ ω1 = r) : DL.ifM t x y ρ ω = r := by
  subst hb; unfold DL.ifM; rw [bind_ev h]; exact k
theorem y_ifF {α : Type} {x y : M α} {r : Option (R α)} (h : t ρ ω = some (.val b ω1)) (hb : b = false) (k : y ρ ω1 = r) : DL.ifM t x y ρ ω = r := by
  subst hb; unfold DL.ifM; rw [bind_ev h]; exact k
theorem y_fz (h : ρ[i]? = some (.fz d)) : vW i ρ ω = some (.val d ω) := by unfold vW; rw [h]
theorem y_ow (h : ρ[i]? = some (.ow ds)) : vW i ρ ω = some (.val (.lst ds) ω) := by unfold vW; rw [h]
theorem y_fF (h : ρ[i]? = some (.fz d)) : vF i ρ ω = some (.val d ω) := by unfold vF; rw [h]
theorem y_lenOk (h : ds.length ≤ 1000) : lenOk ds ρ ω = some (.val ds ω) := lenOk_ev h
theorem y_mkTup (h : ds.length ≤ 1000) : mkTup ds ρ ω = some (.val (.tup ds) ω) := mkTup_ev h
theorem y_mkLst (h : ds.length ≤ 1000) : mkLst ds ρ ω = some (.val (.lst ds) ω) := by unfold mkLst; rw [if_pos (by rw [sizeLine_eq]; omega)]
end
/-! ### operators -/
theorem ltD_d (i j : Int) : ltD (.int i) (.int j) = some (.bl (decide (i < j))) := rfl
theorem leD_d (i j : Int) : leD (.int i) (.int j) = some (.bl (decide (i ≤ j))) := rfl
theorem gtD_d (i j : Int) : gtD (.int i) (.int j) = some (.bl (decide (j < i))) := rfl
theorem geD_d (i j : Int) : geD (.int i) (.int j) = some (.bl (decide (j ≤ i))) := rfl
theorem addD_int (i j : Int) : addD (.int i) (.int j) = some (.int (i + j)) := rfl
theorem intD_int (i : Int) : intD (.int i) = some (.int i) := rfl
theorem intD_bl (b : Bool) : intD (.bl b) = some (.int (if b then 1 else 0)) := by cases b <;> rfl
theorem fldD_ev {cs : List Str} {c f : Str} {fl : List (Str × D)} {d : D} (hc : cs.contains c = true) (hl : fl.lookup f = some d) : fldD cs f (.obj c fl) = some d := by show (if _ then _ else _) = _; rw [if_pos hc, hl]
theorem ixD_ints {xs : List Int} {k : Int} (h0 : 0 ≤ k) (h : k < xs.length) : ixD (.lst (xs.map D.int)) (.int k) = some (.int (xs.getD k.toNat 0)) := by
  have h' : k.toNat < xs.length := by omega
  exact ixD_lstI h0 (by simp [h'])
theorem lenD_lst {ds : List D} : lenD (.lst ds) = some (.int ds.length) := rfl
theorem lenD_tup {ds : List D} : lenD (.tup ds) = some (.int ds.length) := rfl
theorem addD_tup {xs ys : List D} (h : xs.length + ys.length ≤ 1000) : addD (.tup xs) (.tup ys) = some (.tup (xs ++ ys)) := if_pos (by rw [sizeLine_eq]; omega)

/-! ### unpacking a list -/
def lstT (k : Nat) (T : TTs) : TT1 := fun d ρ ω => match view ω d with
  | some (.lst ds) => if ds.length = k then T ds ρ ω else none
  | _ => none
section
variable {X : Cx} {g : G} {e : Expr} {es : List Expr} {T : TT1} {Ts : TTs} {is js : List Nat} {pos : Pos}
theorem dg_unl {k n : Nat} (hK : X.K = g.K) (hc : X.calm = true) (h : PGs X es (tGs g is Ts)) (hn : (assignEach es X.env).length = n := by rfl) (hst : (assignEach es X.env).findIdx? (·.1) = none := by rfl) : PG X (.Tuple es k pos) (tGM g is (lstT n Ts)) :=
  (pg_unl hc h hn hst).dl fun v σ H Q ⟨H0, A, B, ρ, ω, d, ρ', fm, hd, e, q⟩ => by
    unfold lstT at e
    cases q1 : view ω d with
    | none => simp only [q1] at e; cases e
    | some d' =>
      cases d' with
      | lst ds =>
        simp only [q1] at e
        split at e
        · rename_i hl
          obtain ⟨a, vs, rfl, hs, l⟩ := Vw.of hd fm.wo q1
          exact ⟨a, vs, rfl, by rw [hK]; exact SqL.of hs, by rw [l.length]; exact hl, H0, A, B, ρ, ω, ds, ρ', fm, l, e, q⟩
        · cases e
      | _ => simp only [q1] at e; cases e
end
end DL
/-! DL27: == of tuples and lists that hold things of an own class, both answers. -/
namespace GQB
open PySem PySem.SeqAt
open AutoSeq1 (wpAny_loadPart')
open MeetsSeq MeetsSeq2 MeetsSeq3 SeqRoads2 GQ
section
variable {prog : Program} {w : World} {A : Around} {R : Result → Shared → Prop}
theorem tuple_eqB (l b : Addr) (items items2 : Array Value) (n n2 : Nat) (dd dd2 : Option Addr) (sl sl2 : Array (Option Value)) (I : Nat → Shared → Prop)
    (turn : ∀ i (h1 : i < items.size) (h2 : i < items2.size) s, I i s → wpAny (model prog w) A.in1 (eqBool items[i] items2[i]) (fun r s' => (r = true ∧ I (i + 1) s') ∨ (r = false ∧ R (.ok (.ret (.bool false))) s')) (fun e s' => R (.error e) s') s)
    (fin : ∀ s i, i = min items.size items2.size → I i s → R (.ok (.ret (.bool (items.size == items2.size)))) s) {s : Shared} (hl1 : s.heap.get? l = some { cls := .type "tuple", dict := dd, data := .seq items n, slots := sl }) (hb1 : s.heap.get? b = some { cls := .type "tuple", dict := dd2, data := .seq items2 n2, slots := sl2 }) (h : I 0 s) :
    wpAny (model prog w) A.in1 (Builtin.«tuple.__eq__» ⟨[.ref l, .ref b], []⟩) (FinOf prog w A R) (fun e s' => R (.error e) s') s := by
  have f2 := AutoSeq1.sub_tuple_tuple
  have hZ : (items.toList.zip items2.toList).length = min items.size items2.size := by simp
  have h0 := h
  obtain ⟨hp, g, d, tk, os⟩ := s
  wp_walk using wpAny_loadPart' hl1, wpAny_loadPart' hb1, wpAny_forIn_list _ (fun rest b s' => b.1 = none ∧ ∃ i, rest = (items.toList.zip items2.toList).drop i ∧ i ≤ min items.size items2.size ∧ I i s') _
  case turn =>
    rintro ⟨y, x⟩ rest b s' ⟨hb', i, hz, hi, hI⟩
    have hlt : i < (items.toList.zip items2.toList).length := by
      rcases Nat.lt_or_ge i (items.toList.zip items2.toList).length with h' | h'
      · exact h'
      · rw [List.drop_of_length_le h'] at hz; cases hz
    have hm : i < min items.size items2.size := hZ ▸ hlt
    have h1 : i < items.size := Nat.lt_of_lt_of_le hm (Nat.min_le_left _ _)
    have h2 : i < items2.size := Nat.lt_of_lt_of_le hm (Nat.min_le_right _ _)
    rw [List.drop_eq_getElem_cons hlt] at hz
    injection hz with hyx hrest
    have hy : y = items[i] := by have := congrArg Prod.fst hyx; simpa using this
    have hx : x = items2[i] := by have := congrArg Prod.snd hyx; simpa using this
    subst hy hx
    refine wpAny_bind (wpAny_mono (turn i h1 h2 s' hI) (fun r s2 q2 => ?_) fun _ _ x => x)
    rcases q2 with ⟨hr, q2⟩ | ⟨hr, q2⟩
    · subst hr
      wp_walk
      exact ⟨rfl, i + 1, hrest, hm, q2⟩
    · subst hr
      wp_walk
      first | exact q2 | exact ⟨_, rfl, q2⟩ | simpa using q2
  case fin =>
    rintro ⟨b1, b2⟩ s' ⟨hb', i, hz, hi, hI⟩
    simp only at hb'
    subst hb'
    have hge : min items.size items2.size ≤ i := by
      rcases Nat.lt_or_ge i (items.toList.zip items2.toList).length with h' | h'
      · rw [List.drop_eq_getElem_cons h'] at hz; cases hz
      · exact hZ ▸ h'
    have hR : R (.ok (.ret (.bool (items.size == items2.size)))) s' := fin s' i (by omega) hI
    wp_walk
    simpa [Builtin.Tuple.tupleCompareSizes] using hR
  case h =>
    exact ⟨rfl, 0, rfl, Nat.zero_le _, h0⟩
/-- at each turn the two lists are read anew -/
def ListB (prog : Program) (w : World) (A : Around) (R : Result → Shared → Prop) (l b : Addr) (N : Nat) (I : Nat → Shared → Prop) : Prop :=
  ∀ i s, I i s → ∃ (items items2 : Array Value) (n n2 : Nat), s.heap.get? l = some { cls := .type "list", data := .seq items n } ∧ s.heap.get? b = some { cls := .type "list", data := .seq items2 n2 } ∧ items.size = N ∧ items2.size = N ∧
    ∀ (h1 : i < items.size) (h2 : i < items2.size), wpAny (model prog w) A.in1 (eqBool items[i] items2[i]) (fun r s' => (r = true ∧ I (i + 1) s') ∨ (r = false ∧ R (.ok (.ret (.bool false))) s' ∧ ∃ (its its2 : Array Value) (m m2 : Nat), s'.heap.get? l = some { cls := .type "list", data := .seq its m } ∧ s'.heap.get? b = some { cls := .type "list", data := .seq its2 m2 } ∧ its.size = N ∧ its2.size = N)) (fun e s' => R (.error e) s') s
theorem eq_loopB (l b : Addr) (N : Nat) (I : Nat → Shared → Prop) (hl : ListB prog w A R l b N I)
    (fin : ∀ s, I N s → R (.ok (.ret (.bool true))) s) (k : Nat) :
    ∀ i : Nat, N - i = k → i ≤ N → ∀ s, I i s →
      wpAny (model prog w) A.in1 (Builtin.«list.__eq__.loop» ⟨[.ref l, .ref b, rawInt i, rawInt 2], []⟩) (FinOf prog w A R) (fun e s' => R (.error e) s') s := by
  induction k with
  | zero =>
    intro i hk hi s h
    obtain ⟨items, items2, n, n2, hl1, hb1, hs1, hs2, _⟩ := hl _ _ h
    have hi' : i = N := by omega
    have hR : R (.ok (.ret (.bool true))) s := fin s (hi' ▸ h)
    obtain ⟨hp, g, d, tk, os⟩ := s
    wp_walk using wpAny_loadPart' hl1, wpAny_loadPart' hb1
    have hi1 : items[((i : Nat) : Int).toNat]? = none := by simp; omega
    have hi2 : items2[((i : Nat) : Int).toNat]? = none := by simp; omega
    rw [hi1, hi2]
    wp_walk using wpAny_loadPart' hl1, wpAny_loadPart' hb1
    show R (.ok (.ret (.bool (items.size == items2.size)))) _
    rw [hs1, hs2]
    simpa using hR
  | succ k ih =>
    intro i hk hi s h
    obtain ⟨items, items2, n, n2, hl1, hb1, hs1, hs2, turn⟩ := hl _ _ h
    have hlt : i < items.size := by omega
    have hlt2 : i < items2.size := by omega
    have ht := turn hlt hlt2
    obtain ⟨hp, g, d, tk, os⟩ := s
    wp_walk using wpAny_loadPart' hl1, wpAny_loadPart' hb1
    have hi1 : items[((i : Nat) : Int).toNat]? = some items[i] := by simp [hlt]
    have hi2 : items2[((i : Nat) : Int).toNat]? = some items2[i] := by simp [hlt2]
    have hc : ((i : Int) + 1) = ((i + 1 : Nat) : Int) := by omega
    rw [hi1, hi2]
    refine wpAny_bind (wpAny_mono ht (fun r s2 h2 => ?_) fun _ _ x => x)
    rcases h2 with ⟨hr, h2⟩ | ⟨hr, h2, its, its2, m, m2, gl, gb, z1, z2⟩
    · subst hr
      have hrec := ih (i + 1) (by omega) (by omega) s2 h2
      obtain ⟨hp2, g2, d2, tk2, os2⟩ := s2
      wp_walk
      rw [hc]
      exact ⟨plainId_quiet plain_eq_loop _, codeAny_builtin entry_eq_loop (by
        rw [Around.under_plainId plain_eq_loop _]
        exact hrec)⟩
    · subst hr
      obtain ⟨hp2, g2, d2, tk2, os2⟩ := s2
      have hq1 : its[((i : Nat) : Int).toNat]? = some (its[i]'(by omega)) := by simp
      have hq2 : its2[((i : Nat) : Int).toNat]? = some (its2[i]'(by omega)) := by simp
      wp_walk using wpAny_loadPart' gl, wpAny_loadPart' gb
      rw [hq1, hq2]
      wp_walk
      first | exact h2 | exact ⟨_, rfl, h2⟩ | simpa using h2
theorem list_eqB (l b : Addr) (N : Nat) (I : Nat → Shared → Prop) (hl : ListB prog w A R l b N I)
    (fin : ∀ s, I N s → R (.ok (.ret (.bool true))) s) {s : Shared} (h : I 0 s) :
    wpAny (model prog w) A.in1 (Builtin.«list.__eq__» ⟨[.ref l, .ref b], []⟩) (FinOf prog w A R) (fun e s' => R (.error e) s') s := by
  obtain ⟨items, items2, n, n2, hl1, hb1, hs1, hs2, _⟩ := hl _ _ h
  have hrec := eq_loopB (A := A) (R := R) l b N I hl fin _ 0 rfl (Nat.zero_le _) s h
  obtain ⟨hp, g, d, tk, os⟩ := s
  have f3 := AutoSeq1.sub_list_list
  have hne : ¬ (items.size != items2.size) = true := by simp [hs1, hs2]
  wp_walk using wpAny_loadPart' hl1, wpAny_loadPart' hb1
  exact ⟨plainId_quiet plain_eq_loop _, codeAny_builtin entry_eq_loop (by
    rw [Around.under_plainId plain_eq_loop _]
    exact hrec)⟩
theorem list_neB (l b : Addr) {items items2 : Array Value} {n n2 : Nat} {s : Shared} (hl1 : s.heap.get? l = some { cls := .type "list", data := .seq items n }) (hb1 : s.heap.get? b = some { cls := .type "list", data := .seq items2 n2 }) (hs : items.size ≠ items2.size)
    (h : R (.ok (.ret (.bool false))) s) : wpAny (model prog w) A.in1 (Builtin.«list.__eq__» ⟨[.ref l, .ref b], []⟩) (FinOf prog w A R) (fun e s' => R (.error e) s') s := by
  obtain ⟨hp, g, d, tk, os⟩ := s
  have f3 := AutoSeq1.sub_list_list
  have hne : (items.size != items2.size) = true := by simp [hs]
  wp_walk using wpAny_loadPart' hl1, wpAny_loadPart' hb1
  first | exact h | exact ⟨_, rfl, h⟩ | simpa using h
end
end GQB
namespace DL
open PySem L2
mutual
/-- made of flat things, tuples, lists and things of these classes -/
def shp (cs : List Str) : D → Bool
  | .non => true
  | .bl _ => true
  | .int _ => true
  | .str _ => true
  | .tup xs => shpL cs xs
  | .lst xs => shpL cs xs
  | .obj c fs => decide (c ∈ cs) && shpF cs fs
  | .dic _ => false
  | .oid _ => false
  | .scr _ => false
def shpL (cs : List Str) : List D → Bool
  | [] => true
  | d :: ds => shp cs d && shpL cs ds
def shpF (cs : List Str) : List (Str × D) → Bool
  | [] => true
  | (_, d) :: ds => shp cs d && shpF cs ds
end
mutual
/-- how deep tuples and lists lie around things -/
def ht : D → Nat
  | .tup xs => htL xs + 1
  | .lst xs => htL xs + 1
  | .non => 0
  | .bl _ => 0
  | .int _ => 0
  | .str _ => 0
  | .dic _ => 0
  | .obj _ _ => 0
  | .oid _ => 0
  | .scr _ => 0
def htL : List D → Nat
  | [] => 0
  | d :: ds => max (ht d) (htL ds)
end
theorem shpL_mem {cs : List Str} : ∀ {ds : List D}, shpL cs ds = true → ∀ d ∈ ds, shp cs d = true
  | [], _, d, h => by cases h
  | e :: ds, z, d, h => by
    simp only [shpL, Bool.and_eq_true] at z
    rcases List.mem_cons.mp h with rfl | h
    · exact z.1
    · exact shpL_mem z.2 d h
theorem htL_mem : ∀ {ds : List D}, ∀ d ∈ ds, ht d ≤ htL ds
  | [], d, h => by cases h
  | e :: ds, d, h => by
    simp only [htL]
    rcases List.mem_cons.mp h with rfl | h
    · omega
    · have := htL_mem d h
      omega
section
open Classical
mutual
/-- x == y: T tells the __eq__ of the classes -/
noncomputable def eqv (T : List (Str × Fn)) (ω : List Cell) : D → D → Option Bool
  | .tup xs, .tup ys => eqvL T ω xs ys
  | .lst xs, .lst ys => if xs.length = ys.length then eqvL T ω xs ys else some false
  | .obj c fs, .obj c' gs => if c = c' then (match T.lookup c with
      | some Gf => (match Gf [.obj c fs, .obj c' gs] ω with
        | some (.val (.bl b) ω') => if ω' = ω ∧ (fs = gs → b = true) then some b else none
        | _ => none)
      | none => none) else none
  | x, y => if (flat x && flat y) = true then some (eqb x y) else none
noncomputable def eqvL (T : List (Str × Fn)) (ω : List Cell) : List D → List D → Option Bool
  | [], [] => some true
  | [], _ :: _ => some false
  | _ :: _, [] => some false
  | x :: xs, y :: ys => match eqv T ω x y with
    | some true => eqvL T ω xs ys
    | r => r
end
end
mutual
theorem eqv_self {T : List (Str × Fn)} {ω : List Cell} : ∀ (d : D) (b : Bool), eqv T ω d d = some b → b = true
  | .tup xs, b, h => by
    simp only [eqv] at h
    exact eqvL_self xs b h
  | .lst xs, b, h => by
    simp only [eqv, if_true] at h
    exact eqvL_self xs b h
  | .obj c fs, b, h => by
    simp only [eqv, if_true] at h
    split at h
    · split at h
      · split at h
        · rename_i q
          cases h
          exact q.2 rfl
        · cases h
      · cases h
    · cases h
  | .non, b, h => by simp [eqv, flat, eqb] at h; exact h
  | .bl _, b, h => by simp [eqv, flat, eqb] at h; exact h
  | .int _, b, h => by simp [eqv, flat, eqb] at h; exact h
  | .str _, b, h => by simp [eqv, flat, eqb] at h; exact h
  | .dic _, b, h => by simp [eqv, flat] at h
  | .oid _, b, h => by simp [eqv, flat] at h
  | .scr _, b, h => by simp [eqv, flat] at h
theorem eqvL_self {T : List (Str × Fn)} {ω : List Cell} : ∀ (ds : List D) (b : Bool), eqvL T ω ds ds = some b → b = true
  | [], b, h => by simp only [eqvL] at h; cases h; rfl
  | d :: ds, b, h => by
    simp only [eqvL] at h
    cases q : eqv T ω d d with
    | none => rw [q] at h; cases h
    | some z =>
      have := eqv_self d z q
      subst this
      rw [q] at h
      exact eqvL_self ds b h
end
section
variable {X : Cx} {pins : List (Addr × Obj)} {σ : St} {H : Hp} {s : Shared} {A : Ad} {B : Addr → Prop} {cs : List Str}
theorem kt_free (I : Inv X pins σ H s) {a : Addr} {vs : List V} (h : KT X.K a vs) : H a = none := by
  obtain ⟨o, its, n, hk, _⟩ := h
  exact (I.bs a o (I.ok.mod.kin a o hk)).2
theorem kt_inj (I : Inv X pins σ H s) {a : Addr} {vs vs' : List V} (h : KT X.K a vs) (h' : KT X.K a vs') : vs = vs' := I.tuple_inj (.inr h) (.inr h')
def InjC (mg : Str → Option Value) (cs : List Str) : Prop := ∀ c ∈ cs, ∀ c' ∈ cs, ∀ C, mg c = some (.ref C) → mg c' = some (.ref C) → c = c'
mutual
theorem Dp.inj (I : Inv X pins σ H s) (hi : InjC X.mg cs) : ∀ (d d' : D) (v : V), shp cs d = true → shp cs d' = true → Dp ⟨X.K, X.mg⟩ A B H v d → Dp ⟨X.K, X.mg⟩ A B H v d' → d = d'
  | .non, d', v, z, z', h, h' => by cases h; cases h' <;> first | rfl | cases z'
  | .bl b, d', v, z, z', h, h' => by cases h; cases h' <;> first | rfl | cases z'
  | .int i, d', v, z, z', h, h' => by cases h; cases h' <;> first | rfl | cases z'
  | .str x, d', v, z, z', h, h' => by cases h; cases h' <;> first | rfl | cases z'
  | .tup ds, d', v, z, z', h, h' => by
    cases h with
    | tup n r l =>
      cases h' with
      | tup n' r' l' =>
        rw [r] at r'; cases r'
        rw [DpL.injL I hi ds _ _ z z' l l']
      | tupK k l' => rw [kt_free I k] at r; cases r
      | lst n' r' l' => rw [r] at r'; cases r'
      | obj n' r' q l' => rw [r] at r'; cases r'
      | _ => cases z'
    | tupK k l =>
      cases h' with
      | tup n' r' l' => rw [kt_free I k] at r'; cases r'
      | tupK k' l' =>
        have := kt_inj I k k'
        subst this
        rw [DpL.injL I hi ds _ _ z z' l l']
      | lst n' r' l' => rw [kt_free I k] at r'; cases r'
      | obj n' r' q l' => rw [kt_free I k] at r'; cases r'
      | _ => cases z'
  | .lst ds, d', v, z, z', h, h' => by
    cases h with
    | lst n r l =>
      cases h' with
      | tup n' r' l' => rw [r] at r'; cases r'
      | tupK k l' => rw [kt_free I k] at r; cases r
      | lst n' r' l' =>
        rw [r] at r'; cases r'
        rw [DpL.injL I hi ds _ _ z z' l l']
      | obj n' r' q l' => rw [r] at r'; cases r'
      | _ => cases z'
  | .obj c fs, d', v, z, z', h, h' => by
    simp only [shp, Bool.and_eq_true, decide_eq_true_eq] at z
    cases h with
    | obj n r q l =>
      cases h' with
      | tup n' r' l' => rw [r] at r'; cases r'
      | tupK k l' => rw [kt_free I k] at r; cases r
      | lst n' r' l' => rw [r] at r'; cases r'
      | obj n' r' q' l' =>
        simp only [shp, Bool.and_eq_true, decide_eq_true_eq] at z'
        rw [r] at r'; cases r'
        have := hi _ z.1 _ z'.1 _ q q'
        subst this
        rw [DpF.injF I hi fs _ _ z.2 z'.2 l l']
      | _ => cases z'
  | .dic _, _, _, z, _, _, _ => by cases z
  | .oid _, _, _, z, _, _, _ => by cases z
  | .scr _, _, _, z, _, _, _ => by cases z
theorem DpL.injL (I : Inv X pins σ H s) (hi : InjC X.mg cs) : ∀ (ds ds' : List D) (vs : List V), shpL cs ds = true → shpL cs ds' = true → DpL ⟨X.K, X.mg⟩ A B H vs ds → DpL ⟨X.K, X.mg⟩ A B H vs ds' → ds = ds'
  | [], ds', vs, _, _, h, h' => by cases h; cases h'; rfl
  | d :: ds, ds', vs, z, z', h, h' => by
    cases h with
    | cons h1 h2 =>
      cases h' with
      | cons h1' h2' =>
        simp only [shpL, Bool.and_eq_true] at z z'
        rw [Dp.inj I hi d _ _ z.1 z'.1 h1 h1', DpL.injL I hi ds _ _ z.2 z'.2 h2 h2']
theorem DpF.injF (I : Inv X pins σ H s) (hi : InjC X.mg cs) : ∀ (ds ds' : List (Str × D)) (vs : List (Str × V)), shpF cs ds = true → shpF cs ds' = true → DpF ⟨X.K, X.mg⟩ A B H vs ds → DpF ⟨X.K, X.mg⟩ A B H vs ds' → ds = ds'
  | [], ds', vs, _, _, h, h' => by cases h; cases h'; rfl
  | (k, d) :: ds, ds', vs, z, z', h, h' => by
    cases h with
    | cons h1 h2 =>
      cases h' with
      | cons h1' h2' =>
        simp only [shpF, Bool.and_eq_true] at z z'
        rw [Dp.inj I hi d _ _ z.1 z'.1 h1 h1', DpF.injF I hi ds _ _ z.2 z'.2 h2 h2']
end
end

/-- behind a comparison -/
def AftE (X : Cx) (pins : List (Addr × Obj)) (σ : St) (A : Ad) (B : Addr → Prop) (H : Hp) (ω : List Cell) (s' : Shared) : Prop := ∃ A1 B1 H1, Inv X pins σ H1 s' ∧ Stp A B H A1 B1 H1 ∧ Wo ⟨X.K, X.mg⟩ A1 B1 H1 ω
def EqP (X : Cx) (T : List (Str × Fn)) (cs : List Str) (k : Nat) (dx : D) : Prop := ∀ (dy : D) (n : Nat) (A' : Around) (pins : List (Addr × Obj)) (s : Shared) (σ : St) (H : Hp) (u v : Value) (x y : V) (b : Bool) (A : Ad) (B : Addr → Prop) (ω : List Cell),
  ht dx + k ≤ n → Sub X n A' → Inv X pins σ H s → RelV x u → RelV y v → Wo ⟨X.K, X.mg⟩ A B H ω → shp cs dx = true → shp cs dy = true → Dp ⟨X.K, X.mg⟩ A B H x dx → Dp ⟨X.K, X.mg⟩ A B H y dy → eqv T ω dx dy = some b →
  wpAny (model X.prog X.w) A' (eqBool u v) (fun r s' => r = b ∧ AftE X pins σ A B H ω s') X.xe s
def RcP (X : Cx) (T : List (Str × Fn)) (cs : List Str) (k : Nat) (dx : D) : Prop := ∀ (dy : D) (n : Nat) (A' : Around) (pins : List (Addr × Obj)) (s : Shared) (σ : St) (H : Hp) (u v : Value) (x y : V) (b : Bool) (A : Ad) (B : Addr → Prop) (ω : List Cell),
  ht dx + k ≤ n → Sub X n A' → Inv X pins σ H s → RelV x u → RelV y v → Wo ⟨X.K, X.mg⟩ A B H ω → shp cs dx = true → shp cs dy = true → Dp ⟨X.K, X.mg⟩ A B H x dx → Dp ⟨X.K, X.mg⟩ A B H y dy → eqv T ω dx dy = some b →
  wpAny (model X.prog X.w) A' (richCompare .Eq u v) (fun r s' => r = .bool b ∧ AftE X pins σ A B H ω s') X.xe s
section
variable {X : Cx} {W : WX} {T : List (Str × Fn)} {cs : List Str} {k : Nat}
/-- what is a reference -/
theorem RcP.eqP (hi : InjC X.mg cs) {dx : D} (hf : flat dx = false) (h : RcP X T cs k dx) : EqP X T cs k dx := by
  intro dy n A' pins s σ H u v x y b A B ω hn sb I rx ry wo z z' hx hy e
  have fy : flat dy = false := by
    cases q : flat dy with
    | false => rfl
    | true =>
      exfalso
      cases dx <;> cases dy <;> simp_all [eqv, flat]
  have rf : ∀ (d : D) (w : V), flat d = false → shp cs d = true → Dp ⟨X.K, X.mg⟩ A B H w d → ∃ a, w = .ref a := fun d w f z h => by
    cases h <;> first | exact ⟨_, rfl⟩ | (cases f; done) | (cases z; done)
  obtain ⟨a, rfl⟩ := rf dx x hf z hx
  obtain ⟨a', rfl⟩ := rf dy y fy z' hy
  have h1 := h dy n A' pins s σ H u v (.ref a) (.ref a') b A B ω hn sb I rx ry wo z z' hx hy e
  cases rx
  cases ry
  by_cases hab : a = a'
  · subst hab
    have := Dp.inj I hi dx dy _ z z' hx hy
    subst this
    have hb := eqv_self dx b e
    subst hb
    exact SeqAt.EqAt.same (A := A') (s := s) (.ref a) X.prog X.w X.xe _ ⟨rfl, A, B, H, I, .refl _ _ _, wo⟩
  · refine GQ.eqBool_refG hab (wpAny_mono h1 (fun r s' q => ?_) fun _ _ x => x)
    obtain ⟨rfl, q⟩ := q
    exact ⟨b, rfl, rfl, q⟩
theorem eqP_flat {dx : D} (hf : flat dx = true) : EqP X T cs k dx := by
  intro dy n A' pins s σ H u v x y b A B ω hn sb I rx ry wo z z' hx hy e
  have fy : flat dy = true ∧ b = eqb dx dy := by
    cases dx <;> cases dy <;> simp_all [eqv, flat]
  obtain ⟨fy, rfl⟩ := fy
  have q := eqAt_V (A := A') (s := s) rx ry (flat_dp hf (Dp.flatw hf hx)) (flat_dp fy (Dp.flatw fy hy))
  rw [eqV_flat hf fy (Dp.flatw hf hx) (Dp.flatw fy hy)] at q
  exact q X.prog X.w X.xe _ ⟨rfl, A, B, H, I, .refl _ _ _, wo⟩
theorem rcP_obj (tk : Takes X W) (cm : CalMs X.prog X.w X.K X.mg X.base "__eq__" k T) {c : Str} {fs : List (Str × D)} : RcP X T cs k (.obj c fs) := by
  intro dy n A' pins s σ H u v x y b A B ω hn sb I rx ry wo z z' hx hy e
  cases dy with
  | obj c' gs =>
    simp only [eqv] at e
    split at e
    · rename_i hc
      subst hc
      split at e
      · rename_i Gf hl
        split at e
        · rename_i b' ω' eg
          split at e
          · rename_i q
            rw [q.1] at eg
            cases e
            obtain ⟨ps, cc⟩ := cm c Gf hl
            obtain ⟨C', f, fd, h1, h2, h3, h4, h5⟩ := cc.ex
            cases hx with
            | obj nx rx' qx lx =>
              cases hy with
              | obj ny ry' qy ly =>
                rename_i a C dx vs a2 C2 dx2 vs2
                have e1 : C = C' := by
                  have : (some (Value.ref C) : Option Value) = some (.ref C') := qx.symm.trans h1
                  cases this; rfl
                have e2 : C2 = C' := by
                  have : (some (Value.ref C2) : Option Value) = some (.ref C') := qy.symm.trans h1
                  cases this; rfl
                subst e1
                subst e2
                cases rx
                cases ry
                obtain ⟨mA, J, _⟩ := ins_get I.hok rx'
                obtain ⟨mB, J', _⟩ := ins_get I.hok ry'
                obtain ⟨od, J, _⟩ := J.look
                obtain ⟨od', J', _⟩ := J'.look
                obtain ⟨mm, hF⟩ := I.fr
                have e0 : Env0 X.prog X.w X.K X.mg X.base A' X.stack s H := by
                  have e := I.env0
                  exact ⟨by rw [sb.fr]; exact e.frames, e.mod, e.bs, e.bsz, e.funs, e.frf, e.hok, e.bare⟩
                have hq : spD ⟨X.K, X.mg⟩ Gf [.ref a, .ref a2] H (fun v H' => v = .bl b ∧ ∃ A1 B1, Stp A B H A1 B1 H' ∧ Wo ⟨X.K, X.mg⟩ A1 B1 H' ω) (WE W σ) :=
                  ⟨A, B, ω, [.obj c fs, .obj c gs], .val (.bl b) ω, wo, .cons (.obj nx rx' qx lx) (.cons (.obj ny ry' qy ly) .nil), eg, fun v A1 B1 H1 t w1 dp => by
                    cases dp
                    exact ⟨rfl, A1, B1, t, w1⟩⟩
                have hroom : Room k A' := sb.room.mono (by omega)
                have run := run_at tk h5 hroom e0 h4 I (.cons (show RelV (.ref a) (.ref a) from rfl) (.cons (show RelV (.ref a2) (.ref a2) from rfl) .nil)) hq
                refine PySem.W.cmp_K (op := .Eq) (tb := .ref _) sb.room.units0 hF I.ok.mod.kin J J'.type (by simp [PySem.W.notFirst]) h3.1.at_ h3.1.fn (wpAny_mono run (fun r s' q => ?_) fun _ _ x => x)
                obtain ⟨v, H', I', rv, rfl, A1, B1, t, w1⟩ := q
                cases (show r = Value.bool b from rv)
                exact ⟨rfl, A1, B1, H', I', t, w1⟩
          · cases e
        · cases e
      · cases e
    · cases e
  | _ => simp [eqv, flat] at e

theorem eqvL_drop {ω : List Cell} {xs ys : List D} {i : Nat} {x y : D} (hx : xs[i]? = some x) (hy : ys[i]? = some y) : eqvL T ω (xs.drop i) (ys.drop i) = (match eqv T ω x y with | some true => eqvL T ω (xs.drop (i + 1)) (ys.drop (i + 1)) | r => r) := by
  have h1 : i < xs.length := by
    rcases Nat.lt_or_ge i xs.length with h | h
    · exact h
    · rw [List.getElem?_eq_none h] at hx; cases hx
  have h2 : i < ys.length := by
    rcases Nat.lt_or_ge i ys.length with h | h
    · exact h
    · rw [List.getElem?_eq_none h] at hy; cases hy
  rw [List.drop_eq_getElem_cons h1, List.drop_eq_getElem_cons h2]
  rw [List.getElem?_eq_getElem h1] at hx
  rw [List.getElem?_eq_getElem h2] at hy
  rw [Option.some.inj hx, Option.some.inj hy]
  simp only [eqvL]
/-- one turn over the items -/
theorem itemP {ds es : List D} (ih : ∀ d ∈ ds, EqP X T cs k d) {n : Nat} {A' : Around} (hn : htL ds + 1 + k ≤ n) (sb : Sub X n A') {pins : List (Addr × Obj)} {σ : St} {H : Hp} {A : Ad} {B : Addr → Prop} {ω : List Cell} (wo : Wo ⟨X.K, X.mg⟩ A B H ω) {vs ws : List V} {its its2 : List Value} (r : Vals vs its) (r2 : Vals ws its2) (z : shpL cs ds = true) (z' : shpL cs es = true) (l : DpL ⟨X.K, X.mg⟩ A B H vs ds) (l' : DpL ⟨X.K, X.mg⟩ A B H ws es)
    {b : Bool} (i : Nat) (h1 : i < its.toArray.size) (h2 : i < its2.toArray.size) (s' : Shared) (q : AftE X pins σ A B H ω s') (e : eqvL T ω (ds.drop i) (es.drop i) = some b) :
    wpAny (model X.prog X.w) A'.in1 (eqBool its.toArray[i] its2.toArray[i]) (fun r s2 => AftE X pins σ A B H ω s2 ∧ ((r = true ∧ eqvL T ω (ds.drop (i + 1)) (es.drop (i + 1)) = some b) ∨ (r = false ∧ b = false))) X.xe s' := by
  obtain ⟨A1, B1, H1, I1, t1, w1⟩ := q
  have g1 : its[i]? = some its.toArray[i] := by
    have h1' : i < its.length := by simpa using h1
    rw [List.getElem?_eq_getElem h1'] <;> simp
  have g2 : its2[i]? = some its2.toArray[i] := by
    have h2' : i < its2.length := by simpa using h2
    rw [List.getElem?_eq_getElem h2'] <;> simp
  have k1 : i < vs.length := by rw [r.length]; simpa using h1
  have k2 : i < ws.length := by rw [r2.length]; simpa using h2
  have k3 : i < ds.length := by rw [← l.length]; exact k1
  have k4 : i < es.length := by rw [← l'.length]; exact k2
  obtain ⟨u, hu, ru⟩ := r.get (List.getElem?_eq_getElem k1)
  obtain ⟨v, hv, rv⟩ := r2.get (List.getElem?_eq_getElem k2)
  rw [g1] at hu
  rw [g2] at hv
  rw [Option.some.inj hu, Option.some.inj hv]
  obtain ⟨x, hx1, hx2⟩ := l.get (List.getElem?_eq_getElem k3)
  obtain ⟨y, hy1, hy2⟩ := l'.get (List.getElem?_eq_getElem k4)
  rw [List.getElem?_eq_getElem k1] at hx1
  rw [List.getElem?_eq_getElem k2] at hy1
  cases hx1
  cases hy1
  have hm := List.getElem_mem k3
  have hm' := List.getElem_mem k4
  rw [eqvL_drop (List.getElem?_eq_getElem k3) (List.getElem?_eq_getElem k4)] at e
  have hh := htL_mem _ hm
  cases q : eqv T ω ds[i] es[i] with
  | none => rw [q] at e; cases e
  | some c =>
    rw [q] at e
    have mv := wo.mv t1
    refine wpAny_mono (ih _ hm _ (n - 1) A'.in1 pins s' σ H1 u v _ _ c A1 B1 ω (by omega) (Sub.in1 (sb.mono (by omega))) I1 ru rv w1 (shpL_mem z _ hm) (shpL_mem z' _ hm') (Dp.mv mv _ _ hx2) (Dp.mv mv _ _ hy2) q) (fun r s2 p => ?_) fun _ _ x => x
    obtain ⟨rfl, A2, B2, H2, I2, t2, w2⟩ := p
    refine ⟨⟨A2, B2, H2, I2, t1.trans t2, w2⟩, ?_⟩
    cases r with
    | true => exact .inl ⟨rfl, e⟩
    | false => cases e; exact .inr ⟨rfl, rfl⟩
theorem eqvL_end {ω : List Cell} {xs ys : List D} {i : Nat} {b : Bool} (h : i = min xs.length ys.length) (e : eqvL T ω (xs.drop i) (ys.drop i) = some b) : b = (xs.length == ys.length) := by
  rcases Nat.lt_trichotomy xs.length ys.length with c | c | c
  · rw [List.drop_of_length_le (show xs.length ≤ i by omega), List.drop_eq_getElem_cons (show i < ys.length by omega)] at e
    simp only [eqvL] at e
    cases e
    exact (beq_eq_false_iff_ne.mpr (by omega)).symm
  · rw [List.drop_of_length_le (show xs.length ≤ i by omega), List.drop_of_length_le (show ys.length ≤ i by omega)] at e
    simp only [eqvL] at e
    cases e
    exact (beq_iff_eq.mpr c).symm
  · rw [List.drop_of_length_le (show ys.length ≤ i by omega), List.drop_eq_getElem_cons (show i < xs.length by omega)] at e
    simp only [eqvL] at e
    cases e
    exact (beq_eq_false_iff_ne.mpr (by omega)).symm
theorem rcP_tup {ds : List D} (ih : ∀ d ∈ ds, EqP X T cs k d) : RcP X T cs k (.tup ds) := by
  intro dy n A' pins s σ H u v x y b A B ω hn sb I rx ry wo z z' hx hy e
  cases dy with
  | tup es =>
    simp only [eqv] at e
    simp only [shp] at z z'
    simp only [ht] at hn
    obtain ⟨a, vs, rfl, hs, l⟩ := Dp.seq hx
    obtain ⟨a2, ws, rfl, hs', l'⟩ := Dp.seq hy
    cases rx
    cases ry
    obtain ⟨its, r, e1, z1⟩ := I.tuple hs
    obtain ⟨its2, r2, e2, z2⟩ := I.tuple hs'
    have s1 : its.toArray.size = ds.length := by rw [List.size_toArray, ← r.length, l.length]
    have s2 : its2.toArray.size = es.length := by rw [List.size_toArray, ← r2.length, l'.length]
    obtain ⟨⟨cls, dd, data, sl⟩, ho, hc, m, hd⟩ := id e1
    obtain ⟨⟨cls2, dd2, data2, sl2⟩, ho2, hc2, m2, hd2⟩ := id e2
    simp only at hc hd hc2 hd2
    subst hc hd hc2 hd2
    refine wpAny_richCompare_same_room (op := .Eq) ⟨_, ho, rfl⟩ ⟨_, ho2, rfl⟩ F.slot_tuple_eq (GQ.call_here F.slot_tuple_eq ⟨_, ho, rfl⟩ F.entry_tuple_eq (F.args_tuple_eq_2 _ _) ?_) sb.room.units0
    refine GQB.tuple_eqB a a2 its.toArray its2.toArray m m2 dd dd2 sl sl2 (fun i s' => AftE X pins σ A B H ω s' ∧ eqvL T ω (ds.drop i) (es.drop i) = some b) (fun i h1 h2 s' q => ?_) (fun s' i hi q => ?_) ho ho2 ⟨⟨A, B, H, I, .refl _ _ _, wo⟩, e⟩
    · refine wpAny_mono (itemP ih (by omega) sb wo r r2 z z' l l' i h1 h2 s' q.1 q.2) (fun r s2 p => ?_) fun _ _ x => x
      obtain ⟨p1, ⟨rfl, p2⟩ | ⟨rfl, rfl⟩⟩ := p
      · exact .inl ⟨rfl, p1, p2⟩
      · exact .inr ⟨rfl, (fun x => nomatch x), rfl, p1⟩
    · rw [s1, s2] at hi ⊢
      have := eqvL_end hi q.2
      subst this
      exact ⟨(fun x => nomatch x), rfl, q.1⟩
  | _ => simp [eqv, flat] at e

theorem rcP_lst {ds : List D} (ih : ∀ d ∈ ds, EqP X T cs k d) : RcP X T cs k (.lst ds) := by
  intro dy n A' pins s σ H u v x y b A B ω hn sb I rx ry wo z z' hx hy e
  cases dy with
  | lst es =>
    simp only [eqv] at e
    simp only [shp] at z z'
    simp only [ht] at hn
    cases hx with
    | lst nx hx l =>
      cases hy with
      | lst ny hy l' =>
        rename_i a vs a2 ws
        cases rx
        cases ry
        have get : ∀ s', AftE X pins σ A B H ω s' → ∃ (its its2 : List Value) (m m2 : Nat), s'.heap.get? a = some { cls := .type "list", data := .seq its.toArray m } ∧ s'.heap.get? a2 = some { cls := .type "list", data := .seq its2.toArray m2 } ∧ Vals vs its ∧ Vals ws its2 := fun s' q => by
          obtain ⟨A1, B1, H1, I1, t1, w1⟩ := q
          have mv := wo.mv t1
          obtain ⟨z1, its, k1, r, e1⟩ := I1.hok a _ (mv.cell _ _ nx hx).1
          obtain ⟨z2, its2, k2, r2, e2⟩ := I1.hok a2 _ (mv.cell _ _ ny hy).1
          exact ⟨its, its2, k1, k2, e1, e2, r, r2⟩
        have q0 : AftE X pins σ A B H ω s := ⟨A, B, H, I, .refl _ _ _, wo⟩
        obtain ⟨its0, its20, m0, m20, ho, ho2, r0, r20⟩ := get s q0
        refine wpAny_richCompare_same_room (op := .Eq) ⟨_, ho, rfl⟩ ⟨_, ho2, rfl⟩ F.slot_list_eq (GQ.call_here F.slot_list_eq ⟨_, ho, rfl⟩ F.entry_list_eq (F.args_list_eq_2 _ _) ?_) sb.room.units0
        have sz1 : its0.toArray.size = ds.length := by rw [List.size_toArray, ← r0.length, l.length]
        have sz2 : its20.toArray.size = es.length := by rw [List.size_toArray, ← r20.length, l'.length]
        by_cases hl : ds.length = es.length
        · rw [if_pos hl] at e
          refine GQB.list_eqB a a2 ds.length (fun i s' => AftE X pins σ A B H ω s' ∧ eqvL T ω (ds.drop i) (es.drop i) = some b) (fun i s' q => ?_) (fun s' q => ?_) ⟨q0, e⟩
          · obtain ⟨its, its2, m, m2, g1, g2, r, r2⟩ := get s' q.1
            have s1 : its.toArray.size = ds.length := by rw [List.size_toArray, ← r.length, l.length]
            have s2 : its2.toArray.size = es.length := by rw [List.size_toArray, ← r2.length, l'.length]
            refine ⟨its.toArray, its2.toArray, m, m2, g1, g2, s1, by rw [s2, hl], fun h1 h2 => ?_⟩
            refine wpAny_mono (itemP ih (by omega) sb wo r r2 z z' l l' i h1 h2 s' q.1 q.2) (fun r s2 p => ?_) fun _ _ x => x
            obtain ⟨p1, ⟨rfl, p2⟩ | ⟨rfl, rfl⟩⟩ := p
            · exact .inl ⟨rfl, p1, p2⟩
            · obtain ⟨i1, i2, n1, n2, gg1, gg2, rr, rr2⟩ := get s2 p1
              exact .inr ⟨rfl, ⟨(fun x => nomatch x), rfl, p1⟩, i1.toArray, i2.toArray, n1, n2, gg1, gg2, by rw [List.size_toArray, ← rr.length, l.length], by rw [List.size_toArray, ← rr2.length, l'.length, hl]⟩
          · have := eqvL_end (show ds.length = min ds.length es.length by omega) q.2
            rw [beq_iff_eq.mpr hl] at this
            subst this
            exact ⟨(fun x => nomatch x), rfl, q.1⟩
        · rw [if_neg hl] at e
          cases e
          exact GQB.list_neB a a2 ho ho2 (by rw [sz1, sz2]; exact hl) ⟨(fun x => nomatch x), rfl, q0⟩
  | _ => simp [eqv, flat] at e
mutual
theorem eqP_all (tk : Takes X W) (cm : CalMs X.prog X.w X.K X.mg X.base "__eq__" k T) (hi : InjC X.mg cs) : ∀ d : D, EqP X T cs k d
  | .non => eqP_flat rfl
  | .bl _ => eqP_flat rfl
  | .int _ => eqP_flat rfl
  | .str _ => eqP_flat rfl
  | .tup ds => RcP.eqP hi rfl (rcP_tup (eqP_allL tk cm hi ds))
  | .lst ds => RcP.eqP hi rfl (rcP_lst (eqP_allL tk cm hi ds))
  | .obj c fs => RcP.eqP hi rfl (rcP_obj tk cm)
  | .dic _ => fun dy n A' pins s σ H u v x y b A B ω hn sb I rx ry wo z => by cases z
  | .oid _ => fun dy n A' pins s σ H u v x y b A B ω hn sb I rx ry wo z => by cases z
  | .scr _ => fun dy n A' pins s σ H u v x y b A B ω hn sb I rx ry wo z => by cases z
theorem eqP_allL (tk : Takes X W) (cm : CalMs X.prog X.w X.K X.mg X.base "__eq__" k T) (hi : InjC X.mg cs) : ∀ ds : List D, ∀ d ∈ ds, EqP X T cs k d
  | [] => fun d h => by cases h
  | e :: ds => fun d h => by
    rcases List.mem_cons.mp h with h | h
    · rw [h]; exact eqP_all tk cm hi e
    · exact eqP_allL tk cm hi ds d h
end
/-- x == y as an expression: tuples or lists that may hold things of own classes -/
noncomputable def eqTop (T : List (Str × Fn)) (x y : D) : M D := fun _ ω => match x, y with
  | .tup xs, .tup ys => if (shpL (T.map (·.1)) xs && shpL (T.map (·.1)) ys && decide (htL xs ≤ 6)) = true then (eqv T ω (.tup xs) (.tup ys)).map fun b => .val (.bl b) ω else none
  | .lst xs, .lst ys => if (shpL (T.map (·.1)) xs && shpL (T.map (·.1)) ys && decide (htL xs ≤ 6)) = true then (eqv T ω (.lst xs) (.lst ys)).map fun b => .val (.bl b) ω else none
  | _, _ => none
noncomputable def eqX (T : List (Str × Fn)) (fa fb : M D) : M D := fa.bind fun x => fb.bind fun y => eqTop T x y
def rEqB (X : Cx) (W : WX) (T : List (Str × Fn)) : St → R2 := fun σ x y H Q => ∃ A B ω dx dy b, Wo ⟨X.K, X.mg⟩ A B H ω ∧ shp (T.map (·.1)) dx = true ∧ shp (T.map (·.1)) dy = true ∧ flat dx = false ∧ (∀ c fs, dx ≠ .obj c fs) ∧ ht dx ≤ 7 ∧ Dp ⟨X.K, X.mg⟩ A B H x dx ∧ Dp ⟨X.K, X.mg⟩ A B H y dy ∧ eqv T ω dx dy = some b ∧
  ∀ A1 B1 H1, Stp A B H A1 B1 H1 → Wo ⟨X.K, X.mg⟩ A1 B1 H1 ω → Q (.bl b) H1
theorem op_eqB {j : Nat} (tk : Takes X W) (cm : CalMs X.prog X.w X.K X.mg X.base "__eq__" k T) (hi : InjC X.mg (T.map (·.1))) (hr : Room j X.A) (hj : k + 8 ≤ j) : OpRS X (compareOp .Eq) (rEqB X W T) := by
  intro pins s σ H x y v u Q I rx ry ⟨A, B, ω, dx, dy, b, wo, z, z', hf, hno, hh, hx, hy, e, q⟩
  show wpAny (model X.prog X.w) X.A (richCompare .Eq v u) (EP X pins σ Q) X.xe s
  have rc : RcP X T (T.map (·.1)) k dx := by
    cases dx with
    | tup ds => exact rcP_tup (eqP_allL tk cm hi ds)
    | lst ds => exact rcP_lst (eqP_allL tk cm hi ds)
    | obj c fs => exact absurd rfl (hno c fs)
    | dic _ => cases z
    | oid _ => cases z
    | scr _ => cases z
    | _ => cases hf
  refine wpAny_mono (rc dy j X.A pins s σ H v u x y b A B ω (by omega) ⟨hr, rfl⟩ I rx ry wo z z' hx hy e) (fun r s' p => ?_) fun _ _ x => x
  obtain ⟨rfl, A1, B1, H1, I1, t1, w1⟩ := p
  exact ⟨.bl b, H1, I1, rfl, q A1 B1 H1 t1 w1⟩
theorem tM_eqX {fa fb : M D} : ∀ σ H Q, tM ⟨X.K, X.mg⟩ rD W (eqX T fa fb) σ H Q → tOpS (rEqB X W T) (tM ⟨X.K, X.mg⟩ rD W fa) (tM ⟨X.K, X.mg⟩ rD W fb) σ H Q := by
  rintro σ H Q ⟨H0, A, B, ρ, ω, r, fm, e, res⟩
  refine tM_mono (tM_bind fm e res) fun x H1 ⟨A1, B1, ω1, d1, t1, fm1, r1, e1, res1⟩ => ?_
  refine tM_mono (tM_bind fm1 e1 res1) fun y H2 ⟨A2, B2, ω2, d2, t2, fm2, r2, e2, res2⟩ => ?_
  have hx := Dp.mv (fm1.wo.mv t2) _ _ r1
  cases d1 with
  | tup xs =>
    cases d2 with
    | tup ys =>
      simp only [eqTop] at e2
      split at e2
      · rename_i hz
        simp only [Bool.and_eq_true, decide_eq_true_eq] at hz
        have z1 : shp (T.map (·.1)) (.tup xs) = true := hz.1.1
        have z2 : shp (T.map (·.1)) (.tup ys) = true := hz.1.2
        cases q : eqv T ω2 (.tup xs) (.tup ys) with
        | none => rw [q] at e2; cases e2
        | some b =>
          rw [q] at e2
          cases e2
          exact ⟨A2, B2, ω2, _, _, b, fm2.wo, z1, z2, rfl, (fun _ _ h => by cases h), (by simp only [ht]; omega), hx, r2, q, fun A' B' H' t w => res2 _ A' B' H' t w (.bl b)⟩
      · cases e2
    | _ => cases e2
  | lst xs =>
    cases d2 with
    | lst ys =>
      simp only [eqTop] at e2
      split at e2
      · rename_i hz
        simp only [Bool.and_eq_true, decide_eq_true_eq] at hz
        have z1 : shp (T.map (·.1)) (.lst xs) = true := hz.1.1
        have z2 : shp (T.map (·.1)) (.lst ys) = true := hz.1.2
        cases q : eqv T ω2 (.lst xs) (.lst ys) with
        | none => rw [q] at e2; cases e2
        | some b =>
          rw [q] at e2
          cases e2
          exact ⟨A2, B2, ω2, _, _, b, fm2.wo, z1, z2, rfl, (fun _ _ h => by cases h), (by simp only [ht]; omega), hx, r2, q, fun A' B' H' t w => res2 _ A' B' H' t w (.bl b)⟩
      · cases e2
    | _ => cases e2
  | _ => cases e2
theorem de_eqX {a b : Expr} {fa fb : M D} {j : Nat} {pos : Pos} (tk : Takes X W) (cm : CalMs X.prog X.w X.K X.mg X.base "__eq__" k T) (hi : InjC X.mg (T.map (·.1))) (hr : Room j X.A) (hj : k + 8 ≤ j) (ha : PE X a (tM ⟨X.K, X.mg⟩ rD W fa)) (hb : PE X b (tM ⟨X.K, X.mg⟩ rD W fb)) : PE X (.Compare a [.Eq] [b] pos) (tM ⟨X.K, X.mg⟩ rD W (eqX T fa fb)) :=
  (pe_cmpRS (op_eqB tk cm hi hr hj) ha hb (nomark _)).dl tM_eqX
theorem injC_one {mg : Str → Option Value} {c : Str} : InjC mg [c] := fun a ha b hb C _ _ => by rw [List.mem_singleton.mp ha, List.mem_singleton.mp hb]
end
/-- a def of which nothing is known -/
theorem fnOk_none {P : Program} {w : World} {K : PySem.W.Frag} {mg : Str → Option Value} {base : Heap} {CX : CXT} {g : G} {k : Nat} {f : Addr} {fd : FuncData} {ps : List Str} : FnOk P w K mg base CX k f fd ps (spD g fun _ _ => none) :=
  ⟨fun vs H Q E ⟨A, B, ω, ds, r, _, _, e, _⟩ => (by cases e), fun A outer s H args us vs Q E hr he hb hv ⟨_, _, _, _, _, _, _, e, _⟩ => (by cases e)⟩
end DL
/-! DL28: values for the stepper: slices, signs of a text, comparisons of like data, calls of own operators. -/
namespace DL
open PySem L2
section
variable {ds : List D} {ρ : Rho} {ω ω1 ω2 ω' : List Cell} {k lo hi : Int}
theorem sIx_pos (n d : Nat) {k : Int} (h : 0 ≤ k) : HT.sIx n d (some k) = min k.toNat n := by
  obtain ⟨m, rfl⟩ := Int.eq_ofNat_of_zero_le h
  rw [HT.sIx_nat]
  simp
theorem cut_to (h : 0 ≤ k) : cutD ds none (some k) = ds.take k.toNat := by
  unfold cutD
  rw [sIx_pos _ _ h, HT.sIx_none]
  simp only [List.drop_zero, Nat.sub_zero]
  rcases Nat.le_total k.toNat ds.length with q | q
  · rw [Nat.min_eq_left q]
  · rw [Nat.min_eq_right q, List.take_length, List.take_of_length_le q]
theorem cut_from (h : 0 ≤ k) : cutD ds (some k) none = ds.drop k.toNat := by
  unfold cutD
  rw [sIx_pos _ _ h, HT.sIx_none]
  rcases Nat.le_total k.toNat ds.length with q | q
  · rw [Nat.min_eq_left q, List.take_of_length_le (by simp)]
  · rw [Nat.min_eq_right q, List.drop_length, List.drop_of_length_le q]
    simp
theorem cut_two (h : 0 ≤ lo) (h' : 0 ≤ hi) : cutD ds (some lo) (some hi) = (ds.drop lo.toNat).take (hi.toNat - lo.toNat) := by
  unfold cutD
  rw [sIx_pos _ _ h, sIx_pos _ _ h']
  rcases Nat.le_total lo.toNat ds.length with q | q
  · rw [Nat.min_eq_left q]
    rcases Nat.le_total hi.toNat ds.length with q' | q'
    · rw [Nat.min_eq_left q']
    · rw [Nat.min_eq_right q', List.take_of_length_le (by simp), List.take_of_length_le (by simp; omega)]
  · rw [Nat.min_eq_right q, List.drop_length, List.drop_of_length_le q]
    simp
theorem sl_lst_to (h : 0 ≤ k) : slM (.lst ds) none (some k) ρ ω = some (.val (.lst (ds.take k.toNat)) ω) := by
  show some (R.val (D.lst (cutD ds none (some k))) ω) = _
  rw [cut_to h]
theorem sl_lst_from (h : 0 ≤ k) : slM (.lst ds) (some k) none ρ ω = some (.val (.lst (ds.drop k.toNat)) ω) := by
  show some (R.val (D.lst (cutD ds (some k) none)) ω) = _
  rw [cut_from h]
theorem sl_tup_to (h : 0 ≤ k) : slM (.tup ds) none (some k) ρ ω = some (.val (.tup (ds.take k.toNat)) ω) := by
  show some (R.val (D.tup (cutD ds none (some k))) ω) = _
  rw [cut_to h]
theorem sl_tup_from (h : 0 ≤ k) : slM (.tup ds) (some k) none ρ ω = some (.val (.tup (ds.drop k.toNat)) ω) := by
  show some (R.val (D.tup (cutD ds (some k) none)) ω) = _
  rw [cut_from h]
theorem sl_lst_two (h : 0 ≤ lo) (h' : 0 ≤ hi) : slM (.lst ds) (some lo) (some hi) ρ ω = some (.val (.lst ((ds.drop lo.toNat).take (hi.toNat - lo.toNat))) ω) := by
  show some (R.val (D.lst (cutD ds (some lo) (some hi))) ω) = _
  rw [cut_two h h']
theorem asI_ev : asI (.int k) ρ ω = some (.val (some k) ω) := rfl
theorem items_lst : itemsOf (.lst ds) ρ ω = some (.val ds ω) := rfl
theorem items_tup : itemsOf (.tup ds) ρ ω = some (.val ds ω) := rfl
end
/-- the sign at a place of a text -/
def sgn (z : Str) (i : Int) : Str := ⟨#[z.cps.toList.getD i.toNat 0]⟩
theorem ixD_sgn {z : Str} {i : Int} (h0 : 0 ≤ i) (h : i < z.length) (hz : z.length ≤ 1000) : ixD (.str z) (.int i) = some (.str (sgn z i)) := by
  obtain ⟨n, rfl⟩ := Int.eq_ofNat_of_zero_le h0
  have h' : n < z.cps.toList.length := by rw [len_cps] at h; omega
  refine ix_strN hz ?_
  show _ = some (z.cps.toList.getD n 0)
  rw [List.getD, List.getElem?_eq_getElem h']
  rfl
theorem len_sgn (z : Str) (i : Int) : (sgn z i).length = 1 := rfl
theorem sgn_of (z : Str) {p : Str → Bool} (h : (z.cps.toList.all fun c => p ⟨#[c]⟩) = true) {i : Int} (h0 : 0 ≤ i) (hi : i < z.length) : p (sgn z i) = true := by
  have h' : i.toNat < z.cps.toList.length := by rw [len_cps] at hi; omega
  have := List.all_eq_true.mp h z.cps.toList[i.toNat] (List.getElem_mem h')
  unfold sgn
  rw [List.getD, List.getElem?_eq_getElem h']
  exact this
theorem neD_same {x : D} (h : fine x = true) : neD x x = some (.bl false) := by
  rw [neD_fine h h, eqb_refl x (fine_iff.mp h).1]
  rfl
theorem eqD_same {x : D} (h : fine x = true) : eqD x x = some (.bl true) := by
  rw [eqD_fine h h, eqb_refl x (fine_iff.mp h).1]
theorem lookup_one {c : Str} {α : Type} {x : α} : List.lookup c [(c, x)] = some x := by simp
section
variable {m c : Str} {T : List (Str × Fn)} {d : D} {ρ : Rho} {ω ω1 ω2 ω' : List Cell} {fl gl : List (Str × D)} {Gf : Fn} {fa fb : M D}
theorem binO_oo (ha : fa ρ ω = some (.val (.obj c fl) ω1)) (hb : fb ρ ω1 = some (.val (.obj c gl) ω2)) (h : Gf [.obj c fl, .obj c gl] ω2 = some (.val d ω')) : binO m [(c, Gf)] fa fb ρ ω = some (.val d ω') :=
  binO_ev ha hb (by simp [kdS, view]) rfl lookup_one h
theorem cmpO_oo (ha : fa ρ ω = some (.val (.obj c fl) ω1)) (hb : fb ρ ω1 = some (.val (.obj c gl) ω2)) (h : Gf [.obj c fl, .obj c gl] ω2 = some (.val d ω')) : cmpO m [(c, Gf)] fa fb ρ ω = some (.val d ω') :=
  cmpO_ev ha hb (by simp [kdS, view]) rfl lookup_one h
theorem methM_o {fs : M (List D)} {ds : List D} (ho : fa ρ ω = some (.val (.obj c fl) ω1)) (hn : fl.lookup m = none) (ha : fs ρ ω1 = some (.val ds ω2)) (h : Gf (.obj c fl :: ds) ω2 = some (.val d ω')) : methM m [(c, Gf)] fa fs ρ ω = some (.val d ω') :=
  methM_ev ho rfl hn lookup_one ha h
end

section
variable {F K : MS} {ρ ρ' : Rho} {ω : List Cell} {r : Option RS} {ds : List D} {d : D} {i : Nat}
theorem z_frzO (hi : ρ[i]? = some (.ow ds)) (s : ρ.set i (.fz (.lst ds)) = ρ') (k : F ρ' ω = r) : frz i F ρ ω = r := by unfold frz; rw [hi]; subst s; exact k
theorem z_frzF (hi : ρ[i]? = some (.fz d)) (k : F ρ ω = r) : frz i F ρ ω = r := by unfold frz; rw [hi]; exact k
theorem z_frzOS (hi : ρ[i]? = some (.ow ds)) (s : ρ.set i (.fz (.lst ds)) = ρ') (k : seqS F K ρ' ω = r) : seqS (frz i F) K ρ ω = r := by
  rw [← k]; unfold seqS frz; rw [hi]; subst s; rfl
theorem z_frzFS (hi : ρ[i]? = some (.fz d)) (k : seqS F K ρ ω = r) : seqS (frz i F) K ρ ω = r := by
  rw [← k]; unfold seqS frz; rw [hi]
end
theorem neD_sameL {x y : D} (h : x = y) (f : fine x = true) : neD x y = some (.bl false) := h ▸ neD_same f
theorem neD_sameR {x y : D} (h : x = y) (f : fine y = true) : neD x y = some (.bl false) := by subst h; exact neD_same f
theorem eqD_sameL {x y : D} (h : x = y) (f : fine x = true) : eqD x y = some (.bl true) := h ▸ eqD_same f
theorem eqD_sameR {x y : D} (h : x = y) (f : fine y = true) : eqD x y = some (.bl true) := by subst h; exact eqD_same f
theorem fine_of {d : D} (h1 : plain d = true) (h2 : dep d ≤ 64) : fine d = true := fine_iff.mpr ⟨h1, h2⟩
theorem z_end {x y : RS} (h : x = y) : some x = some y := congrArg some h
theorem lenD_lstM {α : Type} {xs : List α} {f : α → D} : lenD (.lst (xs.map f)) = some (.int xs.length) := by show some (D.int (xs.map f).length) = _; rw [List.length_map]
theorem lenD_tupM {α : Type} {xs : List α} {f : α → D} : lenD (.tup (xs.map f)) = some (.int xs.length) := by show some (D.int (xs.map f).length) = _; rw [List.length_map]
section
variable {m c : Str} {T : List (Str × Fn)} {x y d : D} {ρ : Rho} {ω ω1 ω2 ω' : List Cell} {fl gl : List (Str × D)} {Gf : Fn} {fa fb : M D} {e : Exc}
theorem binO_ex (ha : fa ρ ω = some (.val x ω1)) (hb : fb ρ ω1 = some (.val y ω2)) (hk : (kdS ω2 x y || kdI ω2 y) = true) (hv : view ω2 x = some (.obj c fl)) (hl : T.lookup c = some Gf) (h : Gf [x, y] ω2 = some (.exc e ω')) : binO m T fa fb ρ ω = some (.exc e ω') := by
  unfold binO
  rw [bind_ev ha, bind_ev hb]
  show (if _ then _ else _) = _
  rw [if_pos hk]
  unfold ownM
  simp only [hv, hl]
  exact h
end
theorem z_pre3 {A B C K : MS} {ρ ρ' : Rho} {ω ω' : List Cell} {r : Option RS} (h : (seqS A (seqS B C)) ρ ω = some (.nx ρ' ω')) (k : K ρ' ω' = r) : seqS A (seqS B (seqS C K)) ρ ω = r := by
  have e : seqS (seqS A (seqS B C)) K ρ ω = seqS A (seqS B (seqS C K)) ρ ω := by
    unfold seqS
    cases A ρ ω with
    | none => rfl
    | some x =>
      cases x with
      | nx ρ1 ω1 =>
        simp only
        cases B ρ1 ω1 with
        | none => rfl
        | some y => cases y <;> rfl
      | _ => rfl
  rw [← e]
  exact (seqS_nx h).trans k
theorem y_truT {f : M D} {ds : List D} {ρ : Rho} {ω ω1 : List Cell} (h : f ρ ω = some (.val (.tup ds) ω1)) : truM f ρ ω = some (.val (!ds.isEmpty) ω1) := by unfold truM; rw [bind_ev h]; rfl
theorem y_truL {f : M D} {ds : List D} {ρ : Rho} {ω ω1 : List Cell} (h : f ρ ω = some (.val (.lst ds) ω1)) : truM f ρ ω = some (.val (!ds.isEmpty) ω1) := by unfold truM; rw [bind_ev h]; rfl
theorem addD_strL {x y : Str} (h : x.length + y.length ≤ 16777216) : addD (.str x) (.str y) = some (.str (x ++ y)) := if_pos (by rw [sizeLine_eq]; exact h)
theorem addD_lstL {xs ys : List D} (h : xs.length + ys.length ≤ 16777216) : addD (.lst xs) (.lst ys) = some (.lst (xs ++ ys)) := if_pos (by rw [sizeLine_eq]; exact h)
end DL
/-! DL29: texts: str(x), sep.join(xs), text * n. -/
namespace DL
open PySem L2
def strI (i : Int) : Str := toString i
def strD : D → Option D
  | .int i => if i.natAbs.log2 < 1920 then some (.str (strI i)) else none
  | .str x => some (.str x)
  | _ => none
section
variable {X : Cx} {g : G} {W : WX} {e a b : Expr} {p pos apos : Pos} {fa fb : M D}
theorem v_str : V1 g (fun x H Q => (∃ i, [x] = [.int i] ∧ i.natAbs.log2 < 1920 ∧ Q (.str (toString i)) H) ∨ ∃ z, [x] = [.str z] ∧ Q (.str z) H) strD := by
  intro A B H ω x a c Q w ha e q
  cases a with
  | int i =>
    cases ha
    simp only [strD] at e
    split at e
    · rename_i h
      cases e
      exact .inl ⟨i, rfl, h, q.now w (.str _)⟩
    · cases e
  | str z => cases ha; cases e; exact .inr ⟨z, rfl, q.now w (.str _)⟩
  | _ => cases e
theorem de_toStr (hg : Gl X "str") (hm : X.mg "str" = none) (ha : PE X e (tM g rW W fa)) (he : starEach [e] X.env = (false, eval e X.env) :: starEach [] X.env := by rfl) : PE X (.Call (.Name "str" p) [e] [] pos) (tM g rD W (uo strD fa)) :=
  de_callT1 (call_str_int.or SkE.call_str_str) v_str hg hm (by decide +kernel) ha (he := he)
/-! ### join -/
def joinD (a : Str) : D → Option D
  | .lst ds => match strsOf ds with
    | some ys => if (ys.map (·.length)).sum + ys.length * a.length ≤ 16777216 then some (.str (Txt.join a ys)) else none
    | none => none
  | .tup ds => match strsOf ds with
    | some ys => if (ys.map (·.length)).sum + ys.length * a.length ≤ 16777216 then some (.str (Txt.join a ys)) else none
    | none => none
  | _ => none
theorem v_join {z : Str} : V1 g (fun x H Q => ∃ a p, ∃ ys : List Str, V.str z = .str a ∧ [x] = [V.ref p] ∧ (SqL g.K H p (ys.map V.str) ∨ SqT g.K H p (ys.map V.str)) ∧ (ys.map (·.length)).sum + ys.length * a.length ≤ 16777216 ∧ Q (.str (Txt.join a ys)) H) (joinD z) := by
  intro A B H ω x a c Q w ha e q
  cases a with
  | lst ds =>
    obtain ⟨p, vs, rfl, h1, l⟩ := ha
    simp only [joinD] at e
    cases q1 : strsOf ds with
    | none => rw [q1] at e; cases e
    | some ys =>
      rw [q1] at e
      simp only at e
      split at e
      · rename_i hz
        cases e
        have := strsOf_dp q1 l
        subst this
        exact ⟨z, p, ys, rfl, rfl, .inl (SqL.of h1), hz, q.now w (.str _)⟩
      · cases e
  | tup ds =>
    have h' : Dp g A B H x (.tup ds) := ha
    obtain ⟨p, vs, rfl, h1, l⟩ := Dp.seq h'
    simp only [joinD] at e
    cases q1 : strsOf ds with
    | none => rw [q1] at e; cases e
    | some ys =>
      rw [q1] at e
      simp only at e
      split at e
      · rename_i hz
        cases e
        have := strsOf_dp q1 l
        subst this
        exact ⟨z, p, ys, rfl, rfl, .inr h1, hz, q.now w (.str _)⟩
      · cases e
  | _ => cases e
theorem de_join {z : Str} {j : Nat} {p0 : Pos} (hK : X.K = g.K) (hb : PE X e (tM g rW W fb)) (hs : starEach [e] X.env = [(false, eval e X.env)] := by rfl) (hbase : attributeBase (.Constant (.str z) j p0) "join" X.env (eval (.Constant (.str z) j p0) X.env) = eval (.Constant (.str z) j p0) X.env := by rfl) (hline : (apos.endLine == pos.line) = true := by rfl) :
    PE X (.Call (.Attribute (.Constant (.str z) j p0) "join" apos) [e] [] pos) (tM g rD W (uo (joinD z) fb)) :=
  (pe_join pe_str hb hs hbase hline).dl fun σ H Q h => ⟨⟨z, rfl⟩, by
    have := tM_op1 (v_join (g := g) (z := z)) σ H Q h
    rw [hK]
    exact this⟩
/-! ### text * n -/
def rMulS : R2 := fun x y H Q => ∃ (z : Str) (n : Int), x = .str z ∧ y = .int n ∧ 2 ≤ n ∧ n ≤ 1000 ∧ 1 ≤ z.length ∧ z.length ≤ 1000 ∧ Q (.str ⟨(List.replicate n.toNat z.cps).foldl (· ++ ·) #[]⟩) H
theorem foldl_size {α : Type} (z : Array α) : ∀ (n : Nat) (acc : Array α), ((List.replicate n z).foldl (· ++ ·) acc).size = acc.size + n * z.size
  | 0, acc => by simp
  | n + 1, acc => by
    rw [List.replicate_succ, List.foldl_cons, foldl_size z n, Array.size_append, Nat.add_mul]
    omega
theorem op_mulS : OpR X (binaryOp .Mult) rMulS := by
  intro pins s σ H x y v u Q I rx ry ⟨z, n, e1, e2, h1, h2, h3, h4, q⟩
  subst e1 e2
  obtain ⟨t, rfl⟩ := rx
  obtain ⟨t', rfl⟩ := ry
  have hn : n.toNat ≤ 1000 := by omega
  have hm : z.length * n.toNat ≤ 1000000 := Nat.le_trans (Nat.mul_le_mul h4 hn) (by decide)
  have hc : (n == 1 || z.length == 0) = false := by
    rw [beq_eq_false_iff_ne.mpr (by omega), beq_eq_false_iff_ne.mpr (by omega)]
    rfl
  refine PySem.P.mul_str (by rw [decide_eq_false (by omega), decide_eq_false (by omega)]; rfl) (fun _ _ => ?_) (fun _ _ => ?_) ?_
  · have : (1000 : Int) ≤ (2 ^ 63 - 1) / n := by
      rw [Int.le_ediv_iff_mul_le (by omega)]
      omega
    omega
  · unfold Builtin.Str.tooLong
    simp only [decide_eq_false_iff_not]
    have := sizeLine_eq
    first | omega | (rw [sizeLine_eq]; omega)
  · rw [if_neg (by omega), if_neg (by rw [hc]; decide)]
    refine ⟨?_, .str _, H, I.tok _, ⟨_, rfl⟩, q⟩
    show ((List.replicate n.toNat z.cps).foldl (· ++ ·) #[]).size ≤ sizeLine
    rw [foldl_size, sizeLine_eq]
    have : n.toNat * z.cps.size = z.length * n.toNat := Nat.mul_comm _ _
    simp
    omega
def repS (z : Str) (n : Int) : Str := ⟨(List.replicate n.toNat z.cps).foldl (· ++ ·) #[]⟩
def mulSD : D → D → Option D
  | .str z, .int n => if 2 ≤ n ∧ n ≤ 1000 ∧ 1 ≤ z.length ∧ z.length ≤ 1000 then some (.str (repS z n)) else none
  | _, _ => none
theorem v_mulS : V2 g rMulS mulSD := by
  intro A B H ω x y a b c Q w ha hb e q
  cases a with
  | str z =>
    cases b with
    | int n =>
      cases ha
      cases hb
      simp only [mulSD] at e
      split at e
      · rename_i h
        cases e
        exact ⟨z, n, rfl, rfl, h.1, h.2.1, h.2.2.1, h.2.2.2, q.now w (.str _)⟩
      · cases e
    | _ => cases e
  | _ => cases e
theorem de_mulS (ha : PE X a (tM g rW W fa)) (hb : PE X b (tM g rW W fb)) : PE X (.BinOp a .Mult b pos) (tM g rD W (bo mulSD fa fb)) := de_op op_mulS v_mulS ha hb
end
/-! ### values -/
theorem repS_len (z : Str) (n : Int) : (repS z n).length = n.toNat * z.length := by
  show ((List.replicate n.toNat z.cps).foldl (· ++ ·) #[]).size = _
  rw [foldl_size]
  simp [Str.length]
theorem mulSD_ev {z : Str} {n : Int} (h1 : 2 ≤ n) (h2 : n ≤ 1000) (h3 : 1 ≤ z.length) (h4 : z.length ≤ 1000) : mulSD (.str z) (.int n) = some (.str (repS z n)) := if_pos ⟨h1, h2, h3, h4⟩
theorem strD_str (x : Str) : strD (.str x) = some (.str x) := rfl
theorem strD_int {i : Int} (h : i.natAbs.log2 < 1920) : strD (.int i) = some (.str (strI i)) := if_pos h
theorem joinD_lst {a : Str} {ys : List Str} (h : (ys.map (·.length)).sum + ys.length * a.length ≤ 16777216) : joinD a (.lst (ys.map D.str)) = some (.str (Txt.join a ys)) := by
  simp only [joinD, strsOf_map]
  rw [if_pos h]
end DL
/-! DL30: x != y by an own __eq__. -/
namespace PySem.W
open PySem
section
variable {prog : Program} {w : World} {A : Around} {E : Value → Shared → Prop} {s : Shared} {K : Frag} {x y C L f : Addr} {h₀ : Heap} {m : Str → Option Value} {ox oy : Obj} {od od' : Option Obj} {name : Str}
theorem ne_bind (self : Value) : bindSpecial (.builtin "object.__ne__") self = pure (.builtin "object.__ne__", [self]) :=
  (Slot.of (T := "object") (name := "__ne__") (owner := "object") (n := "__ne__") (by rw [typeLookup_type, builtinLookup_eq_fast]; kernel_rfl) (by decide +kernel) (by decide +kernel) (by decide +kernel)
    (.inl (by decide +kernel)) (by rw [isSubtype_type]; kernel_rfl)).bind self
theorem ne_plain : plainId "object.__ne__" = true := by decide +kernel
theorem ifBoundB_K {M : Model} {args : List Value} {Q : Option Value → Shared → Prop} {id : String} (X : K.In s.heap) (I : InstAt s.heap x ox C od) (hs : findIn K (.ref C) name = some (some (.builtin id))) (hb : ∀ self, bindSpecial (.builtin id) self = pure (.builtin id, [self]))
    (h : wpAny M A (call (.builtin id) (.ref x :: args)) (fun v => Q (some v)) E s) : wpAny M A (callSpecialIfBound? (.ref x) name args) Q E s := by
  simp only [callSpecialIfBound?, bindSpecialIfBound?]
  refine wpAny_holding (wpAny_bind (wpAny_bind (wpAny_bind (I.type.here ((looks_findIn X hs).here ?_)))))
  simp only [hb]
  refine wpAny_bind (wpAny_askSetting (wpAny_ite ?_))
  have fin : wpAny M A (call (.builtin id) ([.ref x] ++ args) >>= fun v => pure (some v)) Q E s := wpAny_bind (wpAny_mono h (fun v s' h' => wpAny_pure h') fun _ _ h' => h')
  split
  · exact wpAny_bind (wpAny_pure (wpAny_pure fin))
  · exact wpAny_tryCatch (wpAny_bind (wpAny_pure (wpAny_pure fin)))
theorem objNe_K (X : K.In s.heap) (I : InstAt s.heap x ox C od) (hs : findIn K (.ref C) "__eq__" = some (some (.ref f))) (hf : isFn K (.ref f) = true) (hu : A.units < cLine) {Q : Fin → Shared → Prop}
    (hcall : wpAny (model prog w) A (call (.ref f) [.ref x, .ref y]) (fun v s' => ∃ b, v = .bool b ∧ Q (.done (.ret (.bool (!b)))) s') E s) :
    wpAny (model prog w) A (Builtin.«object.__ne__» ⟨[.ref x, .ref y], []⟩) Q E s := by
  unfold Builtin.«object.__ne__»
  repeat (first
    | with_reducible refine wpAny_cRoomFor hu ?_
    | (refine wpAny_bind (m := callSpecialIfBound? (.ref x) (Str.ofString "__eq__") [.ref y])
        (ifBound_K X I hs hf (wpAny_mono hcall (fun r s' hr => by
          obtain ⟨b, rfl, hq⟩ := hr
          repeat (first | exact hq | exact wpAny_pure hq | exact wpAny_truthy_bool hq | (refine wpAny_bind (m := truthy (.bool _)) (wpAny_truthy_bool ?_)) | wp_step)) fun _ _ e => e)))
    | wp_step)
theorem ne_K {Q : Value → Shared → Prop} (hu : A.units + 1 < cLine) (X : K.In s.heap) (I : InstAt s.heap x ox C od) (I' : InstAt s.heap y oy C od')
    (hne : findIn K (.ref C) "__ne__" = some (some (.builtin "object.__ne__"))) (hm : mroIn K C (.type "object") = some true)
    (hs : findIn K (.ref C) "__eq__" = some (some (.ref f))) (hf : isFn K (.ref f) = true)
    (h : wpAny (model prog w) A.in1 (call (.ref f) [.ref x, .ref y]) (fun v s' => ∃ b, v = .bool b ∧ Q (.bool (!b)) s') E s) : wpAny (model prog w) A (richCompare .NotEq (.ref x) (.ref y)) Q E s := by
  have one : wpAny (model prog w) A (tryCompare (.ref x) "__ne__" (.ref y)) (fun r s' => ∃ v, r = some v ∧ Q v s') E s := by
    unfold tryCompare
    refine wpAny_bind (ifBoundB_K X I hne ne_bind (wpAny_call (codeAny_call_builtin ne_plain F.cmpEntry_ne (check_slot F.cmpKind_ne F.cmpSplit_ne (I.type.andThen (looks_mroIn X hm)) (F.cmpArgs_ne _ _)
      (objNe_K (A := A.in1) X I hs hf hu (wpAny_mono h (fun v s' hv => ?_) fun _ _ e => e))))))
    obtain ⟨b, rfl, hq⟩ := hv
    first | exact ⟨b, rfl, wpAny_pure ⟨_, rfl, hq⟩⟩ | exact ⟨b, rfl, _, rfl, hq⟩ | exact ⟨b, rfl, wpAny_pure (wpAny_pure ⟨_, rfl, hq⟩)⟩
  unfold richCompare
  simp only [oneThing_ref]
  refine wpAny_holding (wpAny_bind (wpAny_cRoomFor (Nat.lt_of_succ_lt hu) ?_))
  rw [cmpInfo_NotEq]
  dsimp only
  refine wpAny_bind (I.type.here (wpAny_bind (I'.type.here ?_)))
  rw [show (Value.ref C != Value.ref C) = false from by simp]
  simp only [Bool.false_eq_true, if_false]
  refine wpAny_bind (wpAny_pure ?_)
  simp only [Bool.false_eq_true, if_false]
  refine wpAny_bind (wpAny_mono one (fun r s' z => ?_) fun _ _ e => e)
  obtain ⟨v, rfl, hq⟩ := z
  exact wpAny_pure hq
end
end PySem.W
namespace DL
open PySem L2
/-- what != asks of a class with an own __eq__ alone -/
def NeF (K : PySem.W.Frag) (mg : Str → Option Value) (c : Str) : Prop := ∃ C, mg c = some (.ref C) ∧ PySem.W.findIn K (.ref C) "__ne__" = some (some (.builtin "object.__ne__")) ∧ PySem.W.mroIn K C (.type "object") = some true
def NeFs (K : PySem.W.Frag) (mg : Str → Option Value) (T : List (Str × Fn)) : Prop := ∀ c Gf, T.lookup c = some Gf → NeF K mg c
theorem nef_nil {K : PySem.W.Frag} {mg : Str → Option Value} : NeFs K mg [] := fun c Gf e => by cases e
theorem nef_cons {K : PySem.W.Frag} {mg : Str → Option Value} {c : Str} {Gf : Fn} {T : List (Str × Fn)} (h : NeF K mg c) (t : NeFs K mg T) : NeFs K mg ((c, Gf) :: T) := fun c' Gf' e => by
  rw [List.lookup_cons] at e
  cases q : c' == c with
  | true => rw [eq_of_beq q]; exact h
  | false => rw [q] at e; exact t c' Gf' e
def notB : D → M D := fun d _ ω => match d with
  | .bl b => some (.val (.bl !b) ω)
  | _ => none
def cmpN (T : List (Str × Fn)) (fa fb : M D) : M D := fa.bind fun x => fb.bind fun y ρ ω => if kdS ω x y = true then ((ownM "__eq__" T x [y]).bind notB) ρ ω else none
section
variable {X : Cx} {W : WX} {a b : Expr} {fa fb : M D} {k j : Nat} {T : List (Str × Fn)} {pos : Pos}
theorem op_neO (tk : Takes X W) (hu : X.A.units + 1 < cLine) : OpRS X (compareOp .NotEq) (fun σ x y H Q => OwnR X W "__eq__" (fun v H' Q => ∃ c, v = .bl c ∧ Q (.bl !c) H') σ [x, y] H Q ∧ rSame H x y ∧ ∀ a C dx fs, x = .ref a → H a = some (.ins C dx fs) → PySem.W.findIn X.K (.ref C) "__ne__" = some (some (.builtin "object.__ne__")) ∧ PySem.W.mroIn X.K C (.type "object") = some true) := by
  intro pins s σ H x y v u Q I rx ry ⟨⟨a, C, dx, fs, f, fd, ps, sp, k, ys, e1, hp, ⟨hme, _⟩, hb, F, hr, q⟩, hs, hne⟩
  cases e1
  cases (show v = Value.ref a from rx)
  obtain ⟨mA, J, _⟩ := ins_get I.hok hp
  obtain ⟨od, J, _⟩ := J.look
  have run := run_at tk F hr.in1 I.env0.in1 hb I (.cons (show RelV (.ref a) (.ref a) from rfl) (.cons ry .nil)) q
  obtain ⟨a', b, C', _, dy, _, gs, ea, rfl, ha, hb'⟩ := hs
  cases ea
  obtain ⟨n1, n2⟩ := hne a C dx fs rfl hp
  rw [hp] at ha
  cases ha
  cases (show u = Value.ref b from ry)
  obtain ⟨mB, J', _⟩ := ins_get I.hok hb'
  obtain ⟨od', J', _⟩ := J'.look
  refine PySem.W.ne_K hu I.kIn J J' n1 n2 hme.at_ hme.fn (wpAny_mono run (fun z s' h => ?_) fun _ _ x => x)
  obtain ⟨vv, H', I', rv, c, rfl, q'⟩ := h
  cases (show z = Value.bool c from rv)
  exact ⟨c, rfl, .bl !c, H', I', rfl, q'⟩
theorem tM_neO (cm : CalMs X.prog X.w X.K X.mg X.base "__eq__" k T) (hn : NeFs X.K X.mg T) (hr : Room j X.A) (hj : k + 1 ≤ j) : ∀ σ H Q, tM ⟨X.K, X.mg⟩ rD W (cmpN T fa fb) σ H Q → tOpS (fun σ x y H Q => OwnR X W "__eq__" (fun v H' Q => ∃ c, v = .bl c ∧ Q (.bl !c) H') σ [x, y] H Q ∧ rSame H x y ∧ ∀ a C dx fs, x = .ref a → H a = some (.ins C dx fs) → PySem.W.findIn X.K (.ref C) "__ne__" = some (some (.builtin "object.__ne__")) ∧ PySem.W.mroIn X.K C (.type "object") = some true) (tM ⟨X.K, X.mg⟩ rD W fa) (tM ⟨X.K, X.mg⟩ rD W fb) σ H Q := by
  rintro σ H Q ⟨H0, A, B, ρ, ω, r, fm, e, res⟩
  refine tM_mono (tM_bind fm e res) fun x H1 ⟨A1, B1, ω1, d1, t1, fm1, r1, e1, res1⟩ => ?_
  refine tM_mono (tM_bind fm1 e1 res1) fun y H2 ⟨A2, B2, ω2, d2, t2, fm2, r2, e2, res2⟩ => ?_
  have hx := Dp.mv (fm1.wo.mv t2) _ _ r1
  split at e2
  · rename_i hk
    unfold M.bind at e2
    cases q : ownM "__eq__" T d1 [d2] ρ ω2 with
    | none => rw [q] at e2; cases e2
    | some z =>
      rw [q] at e2
      refine ⟨own_at (W := W) rfl cm hr hj fm2 hx (.cons r2 .nil) q ?_, kdS_ok fm2.wo hx r2 hk, ?_⟩
      · cases z with
        | exc x ω' =>
          cases e2
          exact fun cls dd A' B' H' t w xo => res2 cls dd A' B' H' t w xo
        | val d ω' =>
          replace e2 : notB d ρ ω' = some r := e2
          intro v A' B' H' t w dp
          cases d with
          | bl c =>
            cases e2
            cases dp
            exact ⟨c, rfl, res2 _ A' B' H' t w (.bl _)⟩
          | _ => cases e2
      · intro a C dx fs ex hp
        unfold ownM at q
        split at q
        · rename_i c fl ev
          cases q2 : T.lookup c with
          | none => simp only [q2] at q; cases q
          | some Gf =>
            obtain ⟨a', C', dx', vs, e1, h1, h2, _⟩ := Vw.of hx fm2.wo ev
            rw [ex] at e1
            cases e1
            rw [hp] at h1
            cases h1
            obtain ⟨C2, h3, h4⟩ := hn c Gf q2
            have : (some (Value.ref C2) : Option Value) = some (.ref C) := h3.symm.trans h2
            cases this
            exact h4
        · cases q
  · cases e2
theorem Room.u1 {k : Nat} {A : Around} (hr : Room k A) : A.units + 1 < cLine := by have := hr.un; omega
theorem de_neO (tk : Takes X W) (cm : CalMs X.prog X.w X.K X.mg X.base "__eq__" k T) (hn : NeFs X.K X.mg T) (hr : Room j X.A) (hj : k + 1 ≤ j) (ha : PE X a (tM ⟨X.K, X.mg⟩ rD W fa)) (hb : PE X b (tM ⟨X.K, X.mg⟩ rD W fb)) : PE X (.Compare a [.NotEq] [b] pos) (tM ⟨X.K, X.mg⟩ rD W (cmpN T fa fb)) :=
  (pe_cmpRS (op_neO tk (Room.u1 hr)) ha hb (nomark _)).dl (tM_neO cm hn hr hj)
theorem dt_neO (tk : Takes X W) (cm : CalMs X.prog X.w X.K X.mg X.base "__eq__" k T) (hn : NeFs X.K X.mg T) (hr : Room j X.A) (hj : k + 1 ≤ j) (ha : PE X a (tM ⟨X.K, X.mg⟩ rD W fa)) (hb : PE X b (tM ⟨X.K, X.mg⟩ rD W fb)) : PT X (.Compare a [.NotEq] [b] pos) (tM ⟨X.K, X.mg⟩ rB W (tst (cmpN T fa fb))) :=
  (pt_cmpRS (op_neO tk (Room.u1 hr)) ha hb (nomark _)).dl fun σ H Q ⟨H0, A, B, ρ, ω, r, fm, e, res⟩ => by
    refine tM_neO cm hn hr hj σ H _ (tM_mono (tM_bind fm e res) fun x H1 ⟨A1, B1, ω1, d1, t1, fm1, r1, e1, res1⟩ => ?_)
    unfold asB at e1
    cases d1 with
    | bl k =>
      cases e1
      cases r1
      exact ⟨k, rfl, res1 k A1 B1 H1 (.refl _ _ _) fm1.wo rfl⟩
    | _ => cases e1
end
section
variable {c : Str} {ρ : Rho} {ω ω1 ω2 ω' : List Cell} {fl gl : List (Str × D)} {Gf : Fn} {fa fb : M D} {b : Bool}
theorem cmpN_oo (ha : fa ρ ω = some (.val (.obj c fl) ω1)) (hb : fb ρ ω1 = some (.val (.obj c gl) ω2)) (h : Gf [.obj c fl, .obj c gl] ω2 = some (.val (.bl b) ω')) : cmpN [(c, Gf)] fa fb ρ ω = some (.val (.bl !b) ω') := by
  unfold cmpN
  rw [bind_ev ha, bind_ev hb]
  show (if _ then _ else _) = _
  rw [if_pos (by simp [kdS, view])]
  rw [bind_ev (ownM_ev rfl lookup_one h)]
  rfl
end
end DL
/-! DL31: text.split(sep), text.startswith(t), int(text), o.f += n. -/
namespace DL
open PySem L2
section
variable {X : Cx} {g : G} {W : WX} {e o : Expr} {p pos apos : Pos} {fa fo : M D}
/-- text.split(sep), sep written -/
def splL (b : Str) (x : D) : M (List D) := fun _ ω => match x with
  | .str a => if (b.length == 0) = false ∧ a.length + 2 ≤ sizeLine then some (.val ((Txt.split a b).map D.str) ω) else none
  | _ => none
theorem dn_split {z : Str} {j : Nat} {p0 : Pos} (ha : PE X o (tM g rD W fo)) (hs : starEach [.Constant (.str z) j p0] X.env = [(false, eval (.Constant (.str z) j p0) X.env)] := by rfl) (hbase : attributeBase o "split" X.env (eval o X.env) = eval o X.env := by rfl) (hline : (apos.endLine == pos.line) = true := by rfl) :
    PE X (.Call (.Attribute o "split" apos) [.Constant (.str z) j p0] [] pos) (tN g W (fo.bind (splL z))) :=
  (pe_split ha pe_str hs hbase hline).dl fun σ H Q ⟨H0, A, B, ρ, ω, r, fm, e, res⟩ => by
    refine tM_mono (tN_bind fm e res) fun x H1 ⟨A1, B1, ω1, d1, t1, fm1, r1, e1⟩ => ?_
    unfold splL at e1
    split at e1
    · rename_i a
      split at e1
      · rename_i hz
        cases e1
        cases r1
        exact ⟨⟨a, rfl⟩, a, z, rfl, rfl, hz.1, hz.2, res.of t1 fm1.wo (DpL.strs _)⟩
      · cases e1
    · cases e1
/-- text.startswith(t), t written -/
def swM (b : Str) (x : D) : M D := fun _ ω => match x with
  | .str a => some (.val (.bl (Txt.startswith a b)) ω)
  | _ => none
theorem de_sw {z : Str} {j : Nat} {p0 : Pos} (ha : PE X o (tM g rD W fo)) (hs : starEach [.Constant (.str z) j p0] X.env = [(false, eval (.Constant (.str z) j p0) X.env)] := by rfl) (hbase : attributeBase o "startswith" X.env (eval o X.env) = eval o X.env := by rfl) (hline : (apos.endLine == pos.line) = true := by rfl) :
    PE X (.Call (.Attribute o "startswith" apos) [.Constant (.str z) j p0] [] pos) (tM g rD W (fo.bind (swM z))) :=
  (pe_m1 F.slot_str_startswith F.type_str_startswith mt_startswith ha pe_str hs hbase hline).dl fun σ H Q ⟨H0, A, B, ρ, ω, r, fm, e, res⟩ => by
    refine tM_mono (tM_bind fm e res) fun x H1 ⟨A1, B1, ω1, d1, t1, fm1, r1, e1, res1⟩ => ?_
    unfold swM at e1
    split at e1
    · rename_i a
      cases e1
      cases r1
      exact ⟨⟨a, rfl⟩, a, z, rfl, rfl, res1 _ A1 B1 H1 (.refl _ _ _) fm1.wo (.bl _)⟩
    · cases e1
/-- int(text) -/
def intSD : D → Option D
  | .str a => match PySem.intText? a with
    | some n => if a.length ≤ 640 then some (.int n) else none
    | none => none
  | _ => none
theorem v_intS : V1 g (fun x H Q => ∃ a n, [x] = [.str a] ∧ PySem.intText? a = some n ∧ a.length ≤ 640 ∧ Q (.int n) H) intSD := by
  intro A B H ω x a c Q w ha e q
  cases a with
  | str z =>
    cases ha
    simp only [intSD] at e
    split at e
    · rename_i n hn
      split at e
      · rename_i hz
        cases e
        exact ⟨z, n, rfl, hn, hz, q.now w (.int _)⟩
      · cases e
    · cases e
  | _ => cases e
theorem de_intS (hg : Gl X "int") (hm : X.mg "int" = none) (ha : PE X e (tM g rW W fa)) (he : starEach [e] X.env = (false, eval e X.env) :: starEach [] X.env := by rfl) : PE X (.Call (.Name "int" p) [e] [] pos) (tM g rD W (uo intSD fa)) :=
  de_callT1 call_int_str v_intS hg hm (by decide +kernel) ha (he := he)
end
section
variable {X : Cx} {g : G} {W : WX} {n : En} {o : Expr} {f : Str} {cs : List Str} {pos tpos p1 : Pos} {fo : M D} {i : Int} {j : Nat}
/-- o.f += i, o in the store, i written -/
def augS (cs : List Str) (f : Str) (fo : M D) (i : Int) : MS := bindS fo fun o ρ ω => match o with
  | .oid k => match ω[k]? with
    | some (.obj c fs) => match fs.lookup f with
      | some (.int m) => if cs.contains c = true ∧ fs.length < 1000 then some (.nx ρ (ω.set k (.obj c (putD f (.int (m + i)) fs)))) else none
      | _ => none
    | _ => none
  | _ => none
theorem ds_aug (hK : X.K = g.K) (hC : ClFs g.K g.mg f cs) (ho : PE X o (tM g rD W fo)) : PS X (.AugAssign (.Attribute o f tpos) .Add (.Constant (.int i) j p1) pos) (tS g n W (augS cs f fo i)) :=
  (ps_fldaug ho pe_int in_add).dl fun D σ H ⟨A, B, ρ, ω, r, s, fm, e, res⟩ => by
    refine tM_mono (tS_bind s fm e res) fun x H2 ⟨A2, B2, ω2, d2, t2, m2, s2, fm2, r2, e2, res2⟩ => ?_
    cases d2 with
    | oid k =>
      simp only at e2
      cases q : ω2[k]? with
      | none => simp only [q] at e2; cases e2
      | some c =>
        cases c with
        | obj c fs =>
          simp only [q] at e2
          cases q2 : fs.lookup f with
          | none => simp only [q2] at e2; cases e2
          | some d =>
            cases d with
            | int m =>
              simp only [q2] at e2
              split at e2
              · rename_i hz
                cases e2
                have hcell : ∃ a, x = .ref a ∧ A2[k]? = some (some a) ∧ CellOk g A2 B2 H2 a (.obj c fs) := by
                  rcases fm2.wo.cell k _ q with ⟨z, _⟩ | ⟨a, ha, ok⟩
                  · cases z
                  · cases r2 with
                    | oid e => rw [ha] at e; cases e; exact ⟨a, rfl, ha, ok⟩
                    | ded e => rw [ha] at e; cases e
                obtain ⟨a, rfl, ha, C, dx, vs, hp, hm, l⟩ := hcell
                obtain ⟨C', h1, h2, h3⟩ := hC.at hz.1
                rw [hm] at h1
                cases h1
                obtain ⟨v, lv, dv⟩ := DpF.look l q2
                cases dv
                refine ⟨a, C, dx, vs, .int m, rfl, hp, by rw [hK]; exact h2, by rw [hK]; exact h3, lv, m, i, rfl, rfl, dx, vs, hp, by rw [l.len]; exact hz.2, ?_⟩
                obtain ⟨fm3, m3⟩ := fm2.cellW (u := .ins C dx (putF f (.int (m + i)) vs)) (c := .obj c (putD f (.int (m + i)) fs)) ha (frz_not hp) fun H' _ hu m' => ⟨C, dx, _, hu, hm, DpF.mv m' _ _ (l.put (.int _))⟩
                exact res2.next m3 (s2.cellW (Liv.of ha) (frz_not hp)) fm3
              · cases e2
            | _ => simp only [q2] at e2; cases e2
        | _ => simp only [q] at e2; cases e2
    | _ => cases e2
end
end DL
/-! DL32: isinstance with a tuple of two built-in types. -/
namespace DL
open PySem L2
theorem rd_up {H : Hp} {T a : Addr} {o u : HO} (hT : H T = none) (h : Rd H a u) : Rd (upd H T o) a u := by
  rcases h with h | ⟨v, h⟩
  · exact .inl (by rw [upd_ne (ne_of_none h hT)]; exact h)
  · exact .inr ⟨v, by rw [upd_ne (ne_of_none h hT)]; exact h⟩
theorem tyB_up {g : G} {A : Ad} {B : Addr → Prop} {H : Hp} {x : V} {d : D} {t : String} {T : Addr} {o : HO} (hT : H T = none) (h : Vw g A B H x d) (e : tyB d = some t) : TyX g.K (upd H T o) x (.type t) := by
  refine tyB_ok (A := A) (B := fun a => B a ∨ a = T) (d := d) ?_ e
  cases d with
  | non => exact h
  | bl b => exact h
  | int b => exact h
  | str b => exact h
  | tup ds => exact Dp.mv (Mv.plus hT) _ _ h
  | lst ds =>
    obtain ⟨a, vs, rfl, h1, h2⟩ := h
    exact ⟨a, vs, rfl, by rw [upd_ne (ne_of_none h1 hT)]; exact h1, DpL.mv (Mv.plus hT) _ _ h2⟩
  | dic ds =>
    obtain ⟨a, vs, rfl, h1, h2⟩ := h
    exact ⟨a, vs, rfl, rd_up hT h1, DpK.mv (Mv.plus hT) _ _ h2⟩
  | scr ns =>
    obtain ⟨a, rfl, h1⟩ := h
    refine ⟨a, rfl, ?_⟩
    rcases h1 with h1 | h1
    · exact .inl (rd_up hT h1)
    · exact .inr h1
  | _ => cases e
/-- isinstance(x, (S1, S2)), both built in -/
def isiB2 (S1 S2 : String) (d : D) : Option D := match tyB d with
  | some t => match kitB t S1, kitB t S2 with
    | some a, some b => some (.bl (a || b))
    | _, _ => none
  | none => none
theorem v_isiB2 (g : G) (S1 S2 : String) : V1 g (fun x H Q => [V.ty S1, V.ty S2].length ≤ sizeLine ∧ ∀ p, H p = none → rIsiT g.K [x, .ref p] (upd H p (.tup [.ty S1, .ty S2])) Q) (isiB2 S1 S2) := by
  intro A B H ω x a c Q w ha e q
  unfold isiB2 at e
  cases q1 : tyB a with
  | none => rw [q1] at e; cases e
  | some t =>
    rw [q1] at e
    cases q2 : kitB t S1 with
    | none => simp only [q2] at e; cases e
    | some b1 =>
      cases q3 : kitB t S2 with
      | none => simp only [q2, q3] at e; cases e
      | some b2 =>
        simp only [q2, q3] at e
        cases e
        refine ⟨by show 2 ≤ sizeLine; rw [sizeLine_eq]; omega, fun p hp => ?_⟩
        refine ⟨x, p, [.ty S1, .ty S2], .type t, [.type S1, .type S2], b1 || b2, rfl, upd_same, .cons (.ty S1) (.cons (.ty S2) .nil), tyB_up hp ha q1, ?_, ?_⟩
        · refine kitAny_cons (kit_ty q2) (fun z => kitAny_cons (kit_ty q3) (fun z2 => ?_) fun z2 => ?_) fun z => ?_
          · rw [z, z2]; exact kitAny_nil
          · rw [z2, Bool.or_true]
          · rw [z, Bool.true_or]
        · exact q _ _ _ _ (Stp.alloc (.refl _ _ _) hp) (w.plus hp) (.bl _)
section
variable {X : Cx} {g : G} {W : WX} {e : Expr} {p pos tp p1 p2 : Pos}
theorem de_isiB2 {fa : M D} {S1 S2 : String} {x y : Str} {k : Nat} (hg : Gl X "isinstance") (hm : X.mg "isinstance" = none) (hgx : Gl X x) (hmx : X.mg x = none) (hb : bootBuiltins x = some (.type S1)) (hgy : Gl X y) (hmy : X.mg y = none) (hby : bootBuiltins y = some (.type S2)) (ha : PE X e (tM ⟨X.K, X.mg⟩ rW W fa)) (hnx : x ≠ "__name__" := by decide) (hdx : (x == ("__debug__" : Str)) = false := by decide) (hny : y ≠ "__name__" := by decide) (hdy : (y == ("__debug__" : Str)) = false := by decide)
    (he : starEach [e, .Tuple [.Name x p1, .Name y p2] k tp] X.env = (false, eval e X.env) :: starEach [.Tuple [.Name x p1, .Name y p2] k tp] X.env := by rfl) (he2 : starEach [.Tuple [.Name x p1, .Name y p2] k tp] X.env = (false, eval (.Tuple [.Name x p1, .Name y p2] k tp) X.env) :: starEach [] X.env := by rfl) (hpl : (backTo pos (starEach [.Tuple [.Name x p1, .Name y p2] k tp] X.env)).any (·.1) = false := by rfl)
    (he3 : starEach [.Name x p1, .Name y p2] X.env = (false, eval (.Name x p1) X.env) :: starEach [.Name y p2] X.env := by rfl) (he4 : starEach [.Name y p2] X.env = (false, eval (.Name y p2) X.env) :: starEach [] X.env := by rfl) :
    PE X (.Call (.Name "isinstance" p) [e, .Tuple [.Name x p1, .Name y p2] k tp] [] pos) (tM ⟨X.K, X.mg⟩ rD W (uo (isiB2 S1 S2) fa)) :=
  (pe_callB call_isiT hg hm (by decide +kernel) (pa_cons ha (pa_cons (pe_tup (pa_cons (pe_bltn (v := .ty S1) hgx hmx hb rfl hnx hdx) (pa_cons (pe_bltn (v := .ty S2) hgy hmy hby rfl hny hdy) pa_nil he4) he3)) pa_nil he2) he) (by decide) (by decide) he hpl).dl fun σ H Q h => tM_op1 (r := fun x H Q => [V.ty S1, V.ty S2].length ≤ sizeLine ∧ ∀ p, H p = none → rIsiT X.K [x, .ref p] (upd H p (.tup [.ty S1, .ty S2])) Q) (v_isiB2 ⟨X.K, X.mg⟩ S1 S2) σ H Q h
theorem isi2_str (S1 S2 : String) (x : Str) {a b : Bool} (h1 : kitB "str" S1 = some a) (h2 : kitB "str" S2 = some b) : isiB2 S1 S2 (.str x) = some (.bl (a || b)) := by
  show (match kitB "str" S1, kitB "str" S2 with | some a, some b => some (D.bl (a || b)) | _, _ => none) = _
  rw [h1, h2]
end
end DL
/-! DL33: in, not in by an own __contains__; o[i] = v by an own __setitem__. -/
namespace DL
open PySem L2
def sameB (neg : Bool) : D → M D := fun d _ ω => match d with
  | .bl b => some (.val (.bl (if neg then !b else b)) ω)
  | _ => none
def inO (neg : Bool) (T : List (Str × Fn)) (fa fb : M D) : M D := fa.bind fun x => fb.bind fun y => (ownM "__contains__" T y [x]).bind (sameB neg)
section
variable {X : Cx} {W : WX} {a b : Expr} {fa fb : M D} {k j : Nat} {T : List (Str × Fn)} {pos : Pos}
def rInO (X : Cx) (W : WX) (neg : Bool) : St → R2 := fun σ x y H Q => OwnR X W "__contains__" (fun v H' Q => ∃ c, v = .bl c ∧ Q (.bl (if neg then !c else c)) H') σ [y, x] H Q
theorem op_inO (tk : Takes X W) : OpRS X (compareOp .In) (rInO X W false) := by
  intro pins s σ H x y v u Q I rx ry ⟨a, C, dx, fs, f, fd, ps, sp, k, ys, e1, hp, ⟨hme, _⟩, hb, F, hr, q⟩
  cases e1
  cases (show u = Value.ref a from ry)
  obtain ⟨mA, J, _⟩ := ins_get I.hok hp
  obtain ⟨od, J, _⟩ := J.look
  obtain ⟨m, hF⟩ := I.fr
  refine PySem.W.in_K hF I.ok.mod.kin J hme.at_ hme.fn (wpAny_mono (run_at tk F (hr.mono (Nat.le_succ k)) I.env0 hb I (.cons (show RelV (.ref a) (.ref a) from rfl) (.cons rx .nil)) q) (fun z s' h => ?_) fun _ _ x => x)
  obtain ⟨vv, H', I', rv, c, rfl, q'⟩ := h
  cases (show z = Value.bool c from rv)
  exact wpAny_truthy_bool ⟨.bl c, H', I', rfl, q'⟩
theorem op_ninO (tk : Takes X W) : OpRS X (compareOp .NotIn) (rInO X W true) := by
  intro pins s σ H x y v u Q I rx ry ⟨a, C, dx, fs, f, fd, ps, sp, k, ys, e1, hp, ⟨hme, _⟩, hb, F, hr, q⟩
  cases e1
  cases (show u = Value.ref a from ry)
  obtain ⟨mA, J, _⟩ := ins_get I.hok hp
  obtain ⟨od, J, _⟩ := J.look
  obtain ⟨m, hF⟩ := I.fr
  refine PySem.W.notIn_K hF I.ok.mod.kin J hme.at_ hme.fn (wpAny_mono (run_at tk F (hr.mono (Nat.le_succ k)) I.env0 hb I (.cons (show RelV (.ref a) (.ref a) from rfl) (.cons rx .nil)) q) (fun z s' h => ?_) fun _ _ x => x)
  obtain ⟨vv, H', I', rv, c, rfl, q'⟩ := h
  cases (show z = Value.bool c from rv)
  exact wpAny_truthy_bool ⟨.bl !c, H', I', rfl, q'⟩
theorem tM_inO {neg : Bool} (cm : CalMs X.prog X.w X.K X.mg X.base "__contains__" k T) (hr : Room j X.A) (hj : k + 1 ≤ j) : ∀ σ H Q, tM ⟨X.K, X.mg⟩ rD W (inO neg T fa fb) σ H Q → tOpS (rInO X W neg) (tM ⟨X.K, X.mg⟩ rD W fa) (tM ⟨X.K, X.mg⟩ rD W fb) σ H Q := by
  rintro σ H Q ⟨H0, A, B, ρ, ω, r, fm, e, res⟩
  refine tM_mono (tM_bind fm e res) fun x H1 ⟨A1, B1, ω1, d1, t1, fm1, r1, e1, res1⟩ => ?_
  refine tM_mono (tM_bind fm1 e1 res1) fun y H2 ⟨A2, B2, ω2, d2, t2, fm2, r2, e2, res2⟩ => ?_
  have hx := Dp.mv (fm1.wo.mv t2) _ _ r1
  unfold M.bind at e2
  cases q : ownM "__contains__" T d2 [d1] ρ ω2 with
  | none => rw [q] at e2; cases e2
  | some z =>
    rw [q] at e2
    refine own_at (W := W) rfl cm hr hj fm2 r2 (.cons hx .nil) q ?_
    cases z with
    | exc x ω' =>
      cases e2
      exact fun cls dd A' B' H' t w xo => res2 cls dd A' B' H' t w xo
    | val d ω' =>
      replace e2 : sameB neg d ρ ω' = some r := e2
      intro v A' B' H' t w dp
      cases d with
      | bl c =>
        cases e2
        cases dp
        exact ⟨c, rfl, res2 _ A' B' H' t w (.bl _)⟩
      | _ => cases e2
theorem de_inO (tk : Takes X W) (cm : CalMs X.prog X.w X.K X.mg X.base "__contains__" k T) (hr : Room j X.A) (hj : k + 1 ≤ j) (ha : PE X a (tM ⟨X.K, X.mg⟩ rD W fa)) (hb : PE X b (tM ⟨X.K, X.mg⟩ rD W fb)) (hm : behindInMarks .In b = false := by rfl) : PE X (.Compare a [.In] [b] pos) (tM ⟨X.K, X.mg⟩ rD W (inO false T fa fb)) :=
  (pe_cmpRS (op_inO tk) ha hb hm).dl (tM_inO cm hr hj)
theorem de_ninO (tk : Takes X W) (cm : CalMs X.prog X.w X.K X.mg X.base "__contains__" k T) (hr : Room j X.A) (hj : k + 1 ≤ j) (ha : PE X a (tM ⟨X.K, X.mg⟩ rD W fa)) (hb : PE X b (tM ⟨X.K, X.mg⟩ rD W fb)) (hm : behindInMarks .NotIn b = false := by rfl) : PE X (.Compare a [.NotIn] [b] pos) (tM ⟨X.K, X.mg⟩ rD W (inO true T fa fb)) :=
  (pe_cmpRS (op_ninO tk) ha hb hm).dl (tM_inO cm hr hj)
end
/-- what o[i] = v asks of a class -/
def SqF (K : PySem.W.Frag) (mg : Str → Option Value) (c : Str) : Prop := ∃ C, mg c = some (.ref C) ∧ PySem.W.noSeq K C = true
def SqFs (K : PySem.W.Frag) (mg : Str → Option Value) (T : List (Str × Fn)) : Prop := ∀ c Gf, T.lookup c = some Gf → SqF K mg c
theorem sqf_nil {K : PySem.W.Frag} {mg : Str → Option Value} : SqFs K mg [] := fun c Gf e => by cases e
theorem sqf_cons {K : PySem.W.Frag} {mg : Str → Option Value} {c : Str} {Gf : Fn} {T : List (Str × Fn)} (h : SqF K mg c) (t : SqFs K mg T) : SqFs K mg ((c, Gf) :: T) := fun c' Gf' e => by
  rw [List.lookup_cons] at e
  cases q : c' == c with
  | true => rw [eq_of_beq q]; exact h
  | false => rw [q] at e; exact t c' Gf' e
def putO (T : List (Str × Fn)) (fo fi fv : M D) : MS := bindS fv fun d => bindS fo fun o => bindS fi fun i => bindS (ownM "__setitem__" T o [i, d]) fun _ ρ ω => some (.nx ρ ω)
section
variable {X : Cx} {W : WX} {n : En} {o i e : Expr} {fo fi fv : M D} {k j : Nat} {T : List (Str × Fn)} {pos p2 : Pos} {to ti : TE}
def gSubO (X : Cx) (W : WX) (to ti : TE) : TG := fun v σ H Q => to σ H fun x H1 => ti σ H1 fun y H2 => OwnR X W "__setitem__" (fun v H' Q => Q v H') σ [x, y, v] H2 (fun _ H3 => Q σ H3) ∧ ∀ a C dx fs, x = .ref a → H2 a = some (.ins C dx fs) → PySem.W.noSeq X.K C = true
theorem pg_subO (tk : Takes X W) (ho : PE X o to) (hi : PE X i ti)
    (ha : ∀ v, assign (.Subscript o i pos) X.env v = (do
      let ov ← holding [v] (eval o X.env)
      let iv ← holding [v, ov] (eval i X.env)
      standAt pos
      holding [v, ov, iv] (setItem ov iv v)
      release [v, ov, iv] []) := by intro _; rfl) : PG X (.Subscript o i pos) (gSubO X W to ti) := by
  refine ⟨fun pins s σ H v u Q I r h => ?_⟩
  rw [ha]
  refine wpAny_bind (wpAny_holding (thn (ho.run pins s σ H _ I h) fun ov s1 ⟨x, H1, I1, r1, q1⟩ => ?_))
  refine wpAny_bind (wpAny_holding (thn (hi.run pins s1 σ H1 _ I1 q1) fun iv s2 ⟨y, H2, I2, r2, q2, hsq⟩ => ?_))
  refine wpAny_bind (wpAny_standAt (wpAny_bind (wpAny_holding ?_)))
  obtain ⟨a, C, dx, fs, f, fd, ps, sp, k, ys, e1, hp, ⟨hm, hfn⟩, hbi, F, hr, q⟩ := q2
  cases e1
  cases (show ov = Value.ref a from r1)
  obtain ⟨mA, J, _⟩ := ins_get I2.hok hp
  obtain ⟨od, J, _⟩ := J.look
  obtain ⟨m, hF⟩ := I2.fr
  refine PySem.W.ksp_setItem hF I2.ok.mod.kin J (hsq a C dx fs rfl hp) hm.at_ hm.fn (wpAny_mono (run_at tk F (hr.mono (Nat.le_succ k)) I2.env0 hbi I2 (.cons (show RelV (.ref a) (.ref a) from rfl) (.cons r2 (.cons r .nil))) q) (fun z s3 h3 => ?_) fun _ _ x => x)
  obtain ⟨vv, H3, I3, rv, q3⟩ := h3
  exact wpAny_release ⟨σ, H3, I3, q3⟩
theorem ds_putO (tk : Takes X W) (cm : CalMs X.prog X.w X.K X.mg X.base "__setitem__" k T) (hn : SqFs X.K X.mg T) (hr : Room j X.A) (hj : k + 1 ≤ j) (he : PE X e (tM ⟨X.K, X.mg⟩ rD W fv)) (ho : PE X o (tM ⟨X.K, X.mg⟩ rD W fo)) (hi : PE X i (tM ⟨X.K, X.mg⟩ rD W fi))
    (hs : swapsWithSole [.Subscript o i p2] e pos.line X.env = pure false := by rfl) (hw : swappedStores [.Subscript o i p2] e X.env = pure none := by rfl) (h1 : (assignEach [.Subscript o i p2] X.env).map (·.2) = [assign (.Subscript o i p2) X.env] := by rfl)
    (ha : ∀ v, assign (.Subscript o i p2) X.env v = (do
      let ov ← holding [v] (eval o X.env)
      let iv ← holding [v, ov] (eval i X.env)
      standAt p2
      holding [v, ov, iv] (setItem ov iv v)
      release [v, ov, iv] []) := by intro _; rfl) :
    PS X (.Assign [.Subscript o i p2] e pos) (tS ⟨X.K, X.mg⟩ n W (putO T fo fi fv)) :=
  (ps_asg he (pg_subO tk ho hi ha) hs hw h1).dl fun D σ H ⟨A, B, ρ, ω, r, s, fm, e, res⟩ => by
    refine tM_mono (tS_bind s fm e res) fun v H1 ⟨A1, B1, ω1, d1, t1, m1, s1, fm1, r1, e1, res1⟩ => ?_
    refine tM_mono (tS_bind s1 fm1 e1 res1) fun x H2 ⟨A2, B2, ω2, d2, t2, m2, s2, fm2, r2, e2, res2⟩ => ?_
    refine tM_mono (tS_bind s2 fm2 e2 res2) fun y H3 ⟨A3, B3, ω3, d3, t3, m3, s3, fm3, r3, e3, res3⟩ => ?_
    have hx := Dp.mv m3 _ _ r2
    have hv := Dp.mv (m2.trans m3) _ _ r1
    unfold bindS at e3
    cases q : ownM "__setitem__" T d2 [d3, d1] ρ ω3 with
    | none => rw [q] at e3; cases e3
    | some z =>
      rw [q] at e3
      refine ⟨own_at (W := W) rfl cm hr hj fm3 hx (.cons r3 (.cons hv .nil)) q ?_, ?_⟩
      · cases z with
        | exc x ω' =>
          have e' : some (RS.exc x ρ ω') = some r := e3
          cases e'
          exact fun cls dd A' B' H' t w xo => res3 cls dd σ A' B' H' (fm3.wo.mv t) (s3.trans t) (fm3.up t w) xo
        | val d ω' =>
          have e' : some (RS.nx ρ ω') = some r := e3
          cases e'
          exact fun v A' B' H' t w dp => res3 σ A' B' H' (fm3.wo.mv t) (s3.trans t) (fm3.up t w)
      · intro a C dx fs ex hp
        unfold ownM at q
        split at q
        · rename_i c fl ev
          cases q2 : T.lookup c with
          | none => simp only [q2] at q; cases q
          | some Gf =>
            obtain ⟨a', C', dx', vs, e1, h1, h2, _⟩ := Vw.of hx fm3.wo ev
            rw [ex] at e1
            cases e1
            rw [hp] at h1
            cases h1
            obtain ⟨C2, h3, h4⟩ := hn c Gf q2
            have : (some (Value.ref C2) : Option Value) = some (.ref C) := h3.symm.trans h2
            cases this
            exact h4
        · cases q
end
end DL
/-! DL34: dicts: in, d[k], len, dict(d), {}, list(d), d[k] = v; new lists of the store; sorted of texts; index; x[i] = v of a list of the store. -/
namespace DL
open PySem L2
/-! ### keys -/
def keyD : D → Option Key
  | .int i => some (.inl i)
  | .str x => some (.inr x)
  | _ => none
def dKey : Key → D
  | .inl i => .int i
  | .inr x => .str x
theorem keyD_V {g : G} {A : Ad} {B : Addr → Prop} {H : Hp} {d : D} {v : V} {k : Key} (e : keyD d = some k) (h : Vw g A B H v d) : v = kV k := by
  cases d with
  | int i => cases e; exact h
  | str x => cases e; exact h
  | _ => cases e
theorem keyD_P {g : G} {A : Ad} {B : Addr → Prop} {H : Hp} {d : D} {v : V} {k : Key} (e : keyD d = some k) (h : Dp g A B H v d) : v = kV k := by
  cases d with
  | int i => cases e; cases h; rfl
  | str x => cases e; cases h; rfl
  | _ => cases e
def valD (kvs : List (Key × D)) (k : Key) : Option D := (kvs.find? fun kv => decide (kv.1 = k)).map (·.2)
def putKD (kvs : List (Key × D)) (k : Key) (v : D) : List (Key × D) :=
  if (kvs.any fun kv => decide (kv.1 = k)) = true then kvs.map (fun kv => if kv.1 = k then (kv.1, v) else kv) else kvs ++ [(k, v)]
theorem valD_cons (p : Key × D) (r : List (Key × D)) (k : Key) : valD (p :: r) k = if p.1 = k then some p.2 else valD r k := by
  by_cases h : p.1 = k
  · simp [valD, List.find?_cons, h]
  · simp [valD, List.find?_cons, h]
section
variable {g : G} {A : Ad} {B : Addr → Prop} {H : Hp}
theorem DpK.val : ∀ {ds : List (Key × D)} {vs : List (Key × V)} (k : Key), DpK g A B H vs ds → (valD ds k = none ∧ valV vs k = none) ∨ ∃ d v, valD ds k = some d ∧ valV vs k = some v ∧ Dp g A B H v d
  | [], _, k, h => by cases h; exact .inl ⟨rfl, rfl⟩
  | (k', d) :: ds, _, k, h => by
    cases h with
    | @cons _ v vs _ _ h1 h2 =>
      by_cases e : k' = k
      · exact .inr ⟨d, v, by rw [valD_cons, if_pos e], by rw [valV_pos (p := (k', v)) e], h1⟩
      · rcases DpK.val k h2 with ⟨a, b⟩ | ⟨d', v', a, b, c⟩
        · exact .inl ⟨by rw [valD_cons, if_neg e]; exact a, by rw [valV_neg (p := (k', v)) e]; exact b⟩
        · exact .inr ⟨d', v', by rw [valD_cons, if_neg e]; exact a, by rw [valV_neg (p := (k', v)) e]; exact b, c⟩
theorem DpK.len : ∀ {ds : List (Key × D)} {vs : List (Key × V)}, DpK g A B H vs ds → vs.length = ds.length
  | [], _, h => by cases h; rfl
  | _ :: ds, _, h => by cases h with | cons h1 h2 => simp [DpK.len h2]
theorem DpK.keys : ∀ {ds : List (Key × D)} {vs : List (Key × V)}, DpK g A B H vs ds → vs.map (·.1) = ds.map (·.1)
  | [], _, h => by cases h; rfl
  | _ :: ds, _, h => by cases h with | cons h1 h2 => simp [DpK.keys h2]
theorem DpK.append : ∀ {ds es : List (Key × D)} {vs ws : List (Key × V)}, DpK g A B H vs ds → DpK g A B H ws es → DpK g A B H (vs ++ ws) (ds ++ es)
  | [], es, _, ws, h, k => by cases h; exact k
  | _ :: ds, es, _, ws, h, k => by cases h with | cons h1 h2 => exact .cons h1 (DpK.append h2 k)
theorem DpK.any (k : Key) : ∀ {ds : List (Key × D)} {vs : List (Key × V)}, DpK g A B H vs ds → (vs.any fun kv => decide (kv.1 = k)) = ds.any fun kv => decide (kv.1 = k)
  | [], _, h => by cases h; rfl
  | _ :: ds, _, h => by cases h with | cons h1 h2 => simp [DpK.any k h2]
theorem DpK.repl (k : Key) {y : V} {d : D} (hy : Dp g A B H y d) : ∀ {ds : List (Key × D)} {vs : List (Key × V)}, DpK g A B H vs ds →
    DpK g A B H (vs.map fun kv => if kv.1 = k then (kv.1, y) else kv) (ds.map fun kv => if kv.1 = k then (kv.1, d) else kv)
  | [], _, h => by cases h; exact .nil
  | (k', d') :: ds, _, h => by
    cases h with
    | cons h1 h2 =>
      simp only [List.map_cons]
      by_cases e : k' = k
      · rw [if_pos e, if_pos e]; exact .cons hy (DpK.repl k hy h2)
      · rw [if_neg e, if_neg e]; exact .cons h1 (DpK.repl k hy h2)
theorem DpK.put {ds : List (Key × D)} {vs : List (Key × V)} (k : Key) {y : V} {d : D} (h : DpK g A B H vs ds) (hy : Dp g A B H y d) : DpK g A B H (putK vs k y) (putKD ds k d) := by
  unfold putK putKD
  rw [h.any k]
  split
  · exact h.repl k hy
  · exact h.append (.cons hy .nil)
theorem DpK.keyL : ∀ {ds : List (Key × D)} {vs : List (Key × V)}, DpK g A B H vs ds → DpL g A B H (vs.map fun kv => kV kv.1) (ds.map fun kv => dKey kv.1)
  | [], _, h => by cases h; exact .nil
  | (k, d) :: ds, _, h => by
    cases h with
    | cons h1 h2 =>
      refine .cons ?_ (DpK.keyL h2)
      cases k with
      | inl i => exact .int i
      | inr x => exact .str x
end
/-! ### reading a dict -/
def inK : D → D → Option D
  | x, .dic kvs => match keyD x with
    | some k => some (.bl (valD kvs k).isSome)
    | none => none
  | _, _ => none
def ninK : D → D → Option D
  | x, .dic kvs => match keyD x with
    | some k => some (.bl !(valD kvs k).isSome)
    | none => none
  | _, _ => none
def getK : D → D → Option D
  | .dic kvs, x => match keyD x with
    | some k => valD kvs k
    | none => none
  | _, _ => none
def lenK : D → Option D
  | .dic kvs => some (.int kvs.length)
  | _ => none
theorem dget_of {g : G} {A : Ad} {B : Addr → Prop} {H : Hp} {x y : V} {d : D} {kvs : List (Key × D)} {k : Key} (hx : Vw g A B H x (.dic kvs)) (hy : Vw g A B H y d) (e : keyD d = some k) :
    ∃ a o, x = .ref a ∧ DGet H a y o ∧ (valD kvs k).isSome = o.isSome ∧ ∀ c, valD kvs k = some c → ∃ v, o = some v ∧ Dp g A B H v c := by
  obtain ⟨a, vs, rfl, hp, l⟩ := hx
  refine ⟨a, valV vs k, rfl, .inl ⟨vs, k, hp, keyD_V e hy, rfl⟩, ?_⟩
  rcases l.val k with ⟨h1, h2⟩ | ⟨c, v, h1, h2, h3⟩
  · exact ⟨by rw [h1, h2]; rfl, fun c h => by rw [h1] at h; cases h⟩
  · exact ⟨by rw [h1, h2]; rfl, fun c' h => by rw [h1] at h; cases h; exact ⟨v, h2, h3⟩⟩
theorem v_inK {g : G} : V2 g (fun y x H Q => ∃ a o, x = .ref a ∧ DGet H a y o ∧ Q (.bl o.isSome) H) inK := by
  intro A B H ω x y a b c Q w ha hb e q
  cases b with
  | dic kvs =>
    simp only [inK] at e
    cases hk : keyD a with
    | none => simp only [hk] at e; cases e
    | some k =>
      simp only [hk] at e
      cases e
      obtain ⟨p, o, h1, h2, h3, _⟩ := dget_of hb ha hk
      exact ⟨p, o, h1, h2, by rw [← h3]; exact q.now w (.bl _)⟩
  | _ => cases a <;> cases e
theorem v_ninK {g : G} : V2 g (fun y x H Q => ∃ a o, x = .ref a ∧ DGet H a y o ∧ Q (.bl (!o.isSome)) H) ninK := by
  intro A B H ω x y a b c Q w ha hb e q
  cases b with
  | dic kvs =>
    simp only [ninK] at e
    cases hk : keyD a with
    | none => simp only [hk] at e; cases e
    | some k =>
      simp only [hk] at e
      cases e
      obtain ⟨p, o, h1, h2, h3, _⟩ := dget_of hb ha hk
      exact ⟨p, o, h1, h2, by rw [← h3]; exact q.now w (.bl _)⟩
  | _ => cases a <;> cases e
theorem v_getK {g : G} : V2 g (fun x y H Q => ∃ a v, x = .ref a ∧ DGet H a y (some v) ∧ Q v H) getK := by
  intro A B H ω x y a b c Q w ha hb e q
  cases a with
  | dic kvs =>
    simp only [getK] at e
    cases hk : keyD b with
    | none => simp only [hk] at e; cases e
    | some k =>
      simp only [hk] at e
      obtain ⟨p, o, h1, h2, _, h4⟩ := dget_of ha hb hk
      obtain ⟨v, rfl, hv⟩ := h4 c e
      exact ⟨p, v, h1, h2, q.now w hv⟩
  | _ => cases e
theorem v_lenK {g : G} : V1 g (fun x H Q => ∃ a kvs, [x] = [.ref a] ∧ Rd H a (.dK kvs) ∧ Q (.int kvs.length) H) lenK := by
  intro A B H ω x a c Q w ha e q
  cases a with
  | dic kvs =>
    cases e
    obtain ⟨p, vs, rfl, hp, l⟩ := ha
    exact ⟨p, vs, rfl, hp, by rw [l.len]; exact q.now w (.int _)⟩
  | _ => cases e
theorem hu1 {k : Nat} {A : Around} (hr : Room k A) : A.units + 1 < cLine := hu_of hr
section
variable {X : Cx} {g : G} {W : WX} {a b e : Expr} {fa fb fo fk fv : M D} {f : M (List D)} {k : Nat} {p pos pos' p2 : Pos}
theorem call_lenK : CallR X (.builtin "len") (fun xs H Q => ∃ a kvs, xs = [.ref a] ∧ Rd H a (.dK kvs) ∧ Q (.int kvs.length) H) := by
  intro pins s σ H xs us Q I r h
  obtain ⟨a, kvs, rfl, e, q⟩ := h
  obtain ⟨u, rfl, rx⟩ := vals1 r
  cases rx
  exact d_len I e fun t s' I' => ⟨.int kvs.length, H, I', ⟨t, rfl⟩, q⟩
theorem de_lenK (hg : Gl X "len") (hm : X.mg "len" = none) (ha : PE X e (tM g rW W fa)) (he : starEach [e] X.env = (false, eval e X.env) :: starEach [] X.env := by rfl) : PE X (.Call (.Name "len" p) [e] [] pos) (tM g rD W (uo lenK fa)) :=
  de_callB1 call_lenK v_lenK hg hm (by decide +kernel) ha (he := he)
theorem de_inK (hr : Room k X.A) (ha : PE X a (tM g rW W fa)) (hb : PE X b (tM g rW W fb)) (hm : behindInMarks .In b = false := by rfl) : PE X (.Compare a [.In] [b] pos) (tM g rD W (bo inK fa fb)) :=
  (pe_cmp (pc_din (hu1 hr) ha hb) hm).dl (tM_op2 v_inK)
theorem de_ninK (hr : Room k X.A) (ha : PE X a (tM g rW W fa)) (hb : PE X b (tM g rW W fb)) (hm : behindInMarks .NotIn b = false := by rfl) : PE X (.Compare a [.NotIn] [b] pos) (tM g rD W (bo ninK fa fb)) :=
  (pe_cmp (pc_dnotin (hu1 hr) ha hb) hm).dl (tM_op2 v_ninK)
theorem dt_pc {op : CmpOp} {r : R2} {f : D → D → Option D} (ho : PC X op a b (tOp r (tM g rW W fa) (tM g rW W fb))) (hv : V2 g r f) (hm : behindInMarks op b = false) :
    PT X (.Compare a [op] [b] pos) (tM g rB W ((bo f fa fb).bind asB)) :=
  (pt_cmp ho hm).dl fun σ H Q ⟨H0, A, B, ρ, ω, r, fm, e, res⟩ => by
    refine tM_op2 hv σ H _ (tM_mono (tM_bind fm e res) fun x H1 ⟨A1, B1, ω1, d1, t1, fm1, r1, e1, res1⟩ => ?_)
    unfold asB at e1
    cases d1 with
    | bl k =>
      cases e1
      cases r1
      exact ⟨k, rfl, res1 k A1 B1 H1 (.refl _ _ _) fm1.wo rfl⟩
    | _ => cases e1
theorem dt_inK (hr : Room k X.A) (ha : PE X a (tM g rW W fa)) (hb : PE X b (tM g rW W fb)) (hm : behindInMarks .In b = false := by rfl) : PT X (.Compare a [.In] [b] pos) (tM g rB W (tst (bo inK fa fb))) :=
  dt_pc (pc_din (hu1 hr) ha hb) v_inK hm
theorem dt_ninK (hr : Room k X.A) (ha : PE X a (tM g rW W fa)) (hb : PE X b (tM g rW W fb)) (hm : behindInMarks .NotIn b = false := by rfl) : PT X (.Compare a [.NotIn] [b] pos) (tM g rB W (tst (bo ninK fa fb))) :=
  dt_pc (pc_dnotin (hu1 hr) ha hb) v_ninK hm
theorem de_getK (hr : Room k X.A) (ha : PE X a (tM g rW W fa)) (hb : PE X b (tM g rW W fb)) (hs : NoSl b := by exact fun _ _ => rfl) : PE X (.Subscript a b pos) (tM g rD W (bo getK fa fb)) :=
  (pe_dget (hu1 hr) ha hb hs).dl (tM_op2 v_getK)
end
/-! ### new things of the store -/
theorem store_cell {g : G} {A : Ad} {B : Addr → Prop} {H : Hp} {ω : List Cell} {p : Addr} {u : HO} {c : Cell} (w : Wo g A B H ω) (hx : H p = none)
    (ok : ∀ A' B' H', Mv A B H A' B' H' → H' p = some u → CellOk g A' B' H' p c) :
    Stp A B H (A ++ [some p]) (fun a => B a ∨ a = p) (upd H p u) ∧ Wo g (A ++ [some p]) (fun a => B a ∨ a = p) (upd H p u) (ω ++ [c]) ∧ Dp g (A ++ [some p]) (fun a => B a ∨ a = p) (upd H p u) (.ref p) (.oid ω.length) := by
  have old : ∀ b o, H b = some o → upd H p u b = some o := fun b o e => by rw [upd_ne (ne_of_none e hx)]; exact e
  have nlx : ¬ Liv A p := fun z => by
    obtain ⟨o, e⟩ := w.bnd p (w.liv p z)
    rw [hx] at e; cases e
  have st : Stp A B H (A ++ [some p]) (fun a => B a ∨ a = p) (upd H p u) := by
    refine ⟨fun a o e _ => old a o e, fun a o e _ => ⟨fun z => z.elim id fun z => (ne_of_none e hx z).elim, .inl⟩, fun a z => ?_, fun k y e => .inl ?_, fun a o e => ⟨o, old a o e⟩, fun a o u e => old a _ e⟩
    · rcases List.mem_append.mp z with z | z
      · exact .inl z
      · have : a = p := by simpa using z
        exact .inr (by rw [this]; exact hx)
    · rw [List.getElem?_append_left (List.getElem?_eq_some_iff.mp e).1]; exact e
  have m : Mv A B H (A ++ [some p]) (fun a => B a ∨ a = p) (upd H p u) := w.mv st
  refine ⟨st, ⟨by simp [w.len], fun i j a ei ej => ?_, fun a z => ?_, fun a z => ?_, fun k c' e => ?_⟩, .oid (by rw [← w.len]; simp)⟩
  · have fix : ∀ (i : Nat) (a : Addr), (A ++ [some p])[i]? = some (some a) → (A[i]? = some (some a)) ∨ (i = A.length ∧ a = p) := fun i a e => by
      by_cases h : i < A.length
      · rw [List.getElem?_append_left h] at e; exact .inl e
      · rw [List.getElem?_append_right (Nat.le_of_not_lt h)] at e
        have hi : i - A.length = 0 := by
          cases q : i - A.length with
          | zero => rfl
          | succ n => rw [q] at e; simp at e
        rw [hi] at e
        have : p = a := by simpa using e
        exact .inr ⟨by omega, this.symm⟩
    rcases fix i a ei with h1 | ⟨h1, h2⟩
    · rcases fix j a ej with h3 | ⟨h3, h4⟩
      · exact w.inj i j a h1 h3
      · exact (nlx (by rw [← h4]; exact Liv.of h1)).elim
    · rcases fix j a ej with h3 | ⟨h3, h4⟩
      · exact (nlx (by rw [← h2]; exact Liv.of h3)).elim
      · rw [h1, h3]
  · rcases List.mem_append.mp z with z | z
    · exact .inl (w.liv a z)
    · exact .inr (by simpa using z)
  · rcases z with z | z
    · obtain ⟨o, e⟩ := w.bnd a z
      exact ⟨o, old a o e⟩
    · exact ⟨_, by rw [z]; exact upd_same⟩
  · by_cases h : k < ω.length
    · rw [List.getElem?_append_left h] at e
      rcases w.cell k c' e with ⟨h1, h2⟩ | ⟨a, h1, h2⟩
      · exact .inl ⟨h1, by rw [List.getElem?_append_left (by rw [w.len]; exact h)]; exact h2⟩
      · exact .inr ⟨a, by rw [List.getElem?_append_left (by rw [w.len]; exact h)]; exact h1, h2.mv m fun o e => old a o e⟩
    · rw [List.getElem?_append_right (Nat.le_of_not_lt h)] at e
      have hk : k - ω.length = 0 := by
        cases q : k - ω.length with
        | zero => rfl
        | succ n => rw [q] at e; simp at e
      rw [hk] at e
      have ec : c = c' := by simpa using e
      subst ec
      have ek : k = A.length := by rw [w.len]; omega
      exact .inr ⟨p, by rw [ek]; simp, ok _ _ _ m upd_same⟩
/-- dict(d) -/
def dictM (x : D) : M D := fun _ ω => match view ω x with
  | some (.dic kvs) => some (.val (.oid ω.length) (ω ++ [Cell.dic kvs]))
  | _ => none
def newS (ds : List D) : M D := fun _ ω => some (.val (.oid ω.length) (ω ++ [Cell.lst ds]))
def dict0 : M D := fun _ ω => some (.val (.oid ω.length) (ω ++ [Cell.dic []]))
section
variable {X : Cx} {g : G} {W : WX} {n : En} {a b e o i : Expr} {fa fb fo fk fv fi : M D} {f : M (List D)} {k : Nat} {p pos pos' p2 apos : Pos}
theorem de_dictK (hg : Gl X "dict") (hm : X.mg "dict" = none) (ha : PE X e (tM g rW W fa)) (he : starEach [e] X.env = (false, eval e X.env) :: starEach [] X.env := by rfl) : PE X (.Call (.Name "dict" p) [e] [] pos) (tM g rD W (fa.bind dictM)) :=
  (pe_callTy call_dictD hg hm (by decide +kernel) (pa_cons ha pa_nil he) (he := he)).dl fun σ H Q ⟨H0, A, B, ρ, ω, r, fm, e, res⟩ => by
    refine tM_mono (tM_bind fm e res) fun x H1 ⟨A1, B1, ω1, d1, t1, fm1, r1, e1, res1⟩ => ?_
    unfold dictM at e1
    split at e1
    · rename_i kvs ev
      cases e1
      obtain ⟨q, vs, rfl, hp, l⟩ := view_ok fm1.wo r1 ev
      refine ⟨q, vs, rfl, hp, fun y hy => ?_⟩
      obtain ⟨s2, w2, d2⟩ := store_cell (u := .dK vs) (c := .dic kvs) fm1.wo hy fun A' B' H' m h => ⟨vs, h, DpK.mv m _ _ l⟩
      exact res1 _ _ _ _ s2 w2 d2
    · cases e1
theorem de_dict0 : PE X (.Dict [] [] pos) (tM g rD W dict0) :=
  pe_dnewK.dl fun σ H Q ⟨H0, A, B, ρ, ω, r, fm, e, res⟩ => by
    cases e
    intro y hy
    obtain ⟨s2, w2, d2⟩ := store_cell (u := .dK []) (c := .dic []) fm.wo hy fun A' B' H' m h => ⟨[], h, .nil⟩
    exact res _ _ _ _ s2 w2 d2
/-- a new list, kept in the store -/
theorem de_newS (h : PE X e (tN g W f)) : PE X e (tM g rD W (f.bind newS)) := h.dl fun σ H Q ⟨H0, A, B, ρ, ω, r, fm, e, res⟩ => by
  unfold M.bind at e
  cases q : f ρ ω with
  | none => rw [q] at e; cases e
  | some z =>
    rw [q] at e
    cases z with
    | exc x ω' =>
      cases e
      exact ⟨H0, A, B, ρ, ω, _, fm, q, res⟩
    | val ds ω' =>
      cases e
      refine ⟨H0, A, B, ρ, ω, _, fm, q, fun p vs A' B' H' t w hp l hb nl h0 => ?_⟩
      obtain ⟨w2, m2, s2⟩ := store_lst w hp l hb nl
      exact res (.ref p) _ _ H' (s2 A B H t h0) w2 (.oid (by rw [← w.len]; simp))
/-- list(d) -/
def listK (x : D) : M (List D) := fun _ ω => match view ω x with
  | some (.dic kvs) => some (.val (kvs.map fun kv => dKey kv.1) ω)
  | _ => none
theorem dn_listK (hc : X.calm = true) (hg : Gl X "list") (hm : X.mg "list" = none) (ha : PE X e (tM g rW W fa)) (he : starEach [e] X.env = (false, eval e X.env) :: starEach [] X.env := by rfl) : PE X (.Call (.Name "list" p) [e] [] pos) (tN g W (fa.bind listK)) :=
  (pe_callTy (call_listD hc) hg hm (by decide +kernel) (pa_cons ha pa_nil he) (he := he)).dl fun σ H Q ⟨H0, A, B, ρ, ω, r, fm, e, res⟩ => by
    refine tM_mono (tN_bind fm e res) fun x H1 ⟨A1, B1, ω1, d1, t1, fm1, r1, e1⟩ => ?_
    unfold listK at e1
    split at e1
    · rename_i kvs ev
      cases e1
      obtain ⟨q, vs, rfl, hp, l⟩ := view_ok fm1.wo r1 ev
      exact ⟨q, vs, rfl, hp, res.of t1 fm1.wo l.keyL⟩
    · cases e1
/-- d[k] = v -/
def dputS (fo fk fv : M D) : MS := bindS fv fun d => bindS fo fun o => bindS fk fun i ρ ω => match o, keyD i with
  | .oid k, some key => (match ω[k]? with
    | some (.dic kvs) => if kvs.length < 1000 then some (.nx ρ (ω.set k (Cell.dic (putKD kvs key d)))) else none
    | _ => none)
  | _, _ => none
theorem ds_dput (hr : Room k X.A) (hv : PE X e (tM g rD W fv)) (ho : PE X o (tM g rD W fo)) (hi : PE X i (tM g rD W fk)) (hs : swapsWith e (some (.Subscript o i pos')) pos.line X.env = pure false := by rfl) :
    PS X (.Assign [.Subscript o i pos'] e pos) (tS g n W (dputS fo fk fv)) :=
  (ps_dput (hu1 hr) ho hi hv hs).dl fun D σ H ⟨A, B, ρ, ω, r, s, fm, e, res⟩ => by
    refine tM_mono (tS_bind s fm e res) fun v H1 ⟨A1, B1, ω1, d1, t1, m1, s1, fm1, r1, e1, res1⟩ => ?_
    refine tM_mono (tS_bind s1 fm1 e1 res1) fun x H2 ⟨A2, B2, ω2, d2, t2, m2, s2, fm2, r2, e2, res2⟩ => ?_
    refine tM_mono (tS_bind s2 fm2 e2 res2) fun y H3 ⟨A3, B3, ω3, d3, t3, m3, s3, fm3, r3, e3, res3⟩ => ?_
    have hx := Dp.mv m3 _ _ r2
    have hv := Dp.mv (m2.trans m3) _ _ r1
    cases d2 with
    | oid kk =>
      cases hk : keyD d3 with
      | none => simp only [hk] at e3; cases e3
      | some key =>
        simp only [hk] at e3
        cases hq : ω3[kk]? with
        | none => simp only [hq] at e3; cases e3
        | some c =>
          cases c with
          | dic kvs =>
            simp only [hq] at e3
            split at e3
            · rename_i hz
              cases e3
              have hcell : ∃ a, x = .ref a ∧ A3[kk]? = some (some a) ∧ CellOk g A3 B3 H3 a (.dic kvs) := by
                rcases fm3.wo.cell kk _ hq with ⟨z, _⟩ | ⟨a, ha, ok⟩
                · cases z
                · cases hx with
                  | oid e => rw [ha] at e; cases e; exact ⟨a, rfl, ha, ok⟩
                  | ded e => rw [ha] at e; cases e
              obtain ⟨a, rfl, ha, vs, hp, l⟩ := hcell
              have hl : vs.length < sizeLine := by rw [l.len, sizeLine_eq]; omega
              refine ⟨a, _, rfl, .inl ⟨vs, key, hp, keyD_P hk r3, hl, rfl⟩, ?_⟩
              obtain ⟨fm4, m4⟩ := fm3.cellW (u := .dK (putK vs key v)) (c := .dic (putKD kvs key d1)) ha (frz_not hp) fun H' _ hu m => ⟨_, hu, DpK.mv m _ _ (l.put key hv)⟩
              exact res3.next m4 (s3.cellW (Liv.of ha) (frz_not hp)) fm4
            · cases e3
          | _ => simp only [hq] at e3; cases e3
    | _ => simp only at e3; cases e3
end
/-! ### sorted of texts -/
def leS (x y : Str) : Bool := !PySem.Spec.ltCps y.cps.toList x.cps.toList
def sortS (xs : List Str) : List Str := xs.mergeSort leS
def strsD : List D → Option (List Str)
  | [] => some []
  | .str x :: r => (strsD r).map (x :: ·)
  | _ :: _ => none
theorem strsD_eq : ∀ {ds : List D} {xs : List Str}, strsD ds = some xs → ds = xs.map D.str
  | [], _, e => by cases e; rfl
  | .str x :: r, ys, e => by
    simp only [strsD] at e
    cases q : strsD r with
    | none => rw [q] at e; cases e
    | some zs =>
      rw [q] at e
      cases e
      rw [strsD_eq q]; rfl
  | .non :: _, _, e => by cases e
  | .bl _ :: _, _, e => by cases e
  | .int _ :: _, _, e => by cases e
  | .tup _ :: _, _, e => by cases e
  | .lst _ :: _, _, e => by cases e
  | .dic _ :: _, _, e => by cases e
  | .obj _ _ :: _, _, e => by cases e
  | .oid _ :: _, _, e => by cases e
  | .scr _ :: _, _, e => by cases e
theorem strsD_map : ∀ xs : List Str, strsD (xs.map D.str) = some xs
  | [] => rfl
  | x :: r => by simp only [List.map_cons, strsD, strsD_map r]; rfl
theorem DpL.strs_eq {g : G} {A : Ad} {B : Addr → Prop} {H : Hp} : ∀ {xs : List Str} {vs : List V}, DpL g A B H vs (xs.map D.str) → vs = xs.map V.str
  | [], _, h => by cases h; rfl
  | x :: r, _, h => by
    cases h with
    | cons h1 h2 => cases h1; rw [DpL.strs_eq h2]; rfl
end DL
/-! DL35: sorted of texts, list.index, x[i] = v of a list of the store, C() whose __init__ puts dict(rows) of its default. -/
namespace DL
open PySem L2
theorem leS_iff (x y : Str) : leS x y = true ↔ x.cps.toList ≤ y.cps.toList := by
  unfold leS
  rw [PyProof.Rows.ltCps_eq, ← List.not_lt]
  simp
theorem leS_trans (a b c : Str) (h : leS a b = true) (k : leS b c = true) : leS a c = true := by
  rw [leS_iff] at *
  exact List.le_trans h k
theorem leS_total (a b : Str) : (leS a b || leS b a) = true := by
  rw [Bool.or_eq_true, leS_iff, leS_iff]
  exact List.le_total _ _
theorem leS_anti {a b : Str} (h : leS a b = true) (k : leS b a = true) : a = b := by
  rw [leS_iff] at *
  have := List.le_antisymm h k
  cases a; cases b
  congr
  exact Array.toList_inj.mp this
theorem rising_pair : ∀ (ys : List Str) (p : Str), PyProof.Rows.risingS p ys = true → (p :: ys).Pairwise (fun a b => leS a b = true)
  | [], p, _ => List.pairwise_singleton _ _
  | x :: r, p, h => by
    simp only [PyProof.Rows.risingS, Bool.and_eq_true] at h
    have ih := rising_pair r x h.2
    refine List.pairwise_cons.mpr ⟨fun z hz => ?_, ih⟩
    rcases List.mem_cons.mp hz with rfl | hz
    · exact h.1
    · exact leS_trans _ _ _ h.1 ((List.pairwise_cons.mp ih).1 z hz)
theorem sorted_pair {ys : List Str} (h : PyProof.Rows.sortedS ys = true) : ys.Pairwise (fun a b => leS a b = true) := by
  cases ys with
  | nil => exact .nil
  | cons x r => exact rising_pair r x h
theorem sort_uniq {xs ys : List Str} (p : ys.Perm xs) (h : PyProof.Rows.sortedS ys = true) : ys = sortS xs :=
  List.Perm.eq_of_pairwise (fun a b _ _ h k => leS_anti h k) (sorted_pair h) (List.pairwise_mergeSort leS_trans leS_total xs) (p.trans (List.mergeSort_perm xs leS).symm)
theorem sortS_perm (xs : List Str) : (sortS xs).Perm xs := List.mergeSort_perm xs leS
theorem sortS_eq {xs ys : List Str} (p : xs.Perm ys) : sortS xs = sortS ys :=
  List.Perm.eq_of_pairwise (fun a b _ _ h k => leS_anti h k) (List.pairwise_mergeSort leS_trans leS_total xs) (List.pairwise_mergeSort leS_trans leS_total ys) (((sortS_perm xs).trans p).trans (sortS_perm ys).symm)
/-- sorted(texts) -/
def sortL (x : D) : M (List D) := fun _ ω => match view ω x with
  | some (.lst ds) => match strsD ds with
    | some ss => if ss.length < 64 then some (.val ((sortS ss).map D.str) ω) else none
    | none => none
  | _ => none
section
variable {X : Cx} {g : G} {W : WX} {n : En} {a b e o i : Expr} {fa fb fo fk fv fi : M D} {f : M (List D)} {k : Nat} {p pos pos' p2 apos : Pos}
theorem dn_sort (hK : X.K = g.K) (hg : Gl X "sorted") (hm : X.mg "sorted" = none) (ha : PE X e (tM g rW W fa)) (he : starEach [e] X.env = (false, eval e X.env) :: starEach [] X.env := by rfl) : PE X (.Call (.Name "sorted" p) [e] [] pos) (tN g W (fa.bind sortL)) :=
  (pe_callB cr_sortedS hg hm (by decide +kernel) (pa_cons ha pa_nil he) (he := he)).dl fun σ H Q ⟨H0, A, B, ρ, ω, r, fm, e, res⟩ => by
    refine tM_mono (tN_bind fm e res) fun x H1 ⟨A1, B1, ω1, d1, t1, fm1, r1, e1⟩ => ?_
    unfold sortL at e1
    split at e1
    · rename_i ds ev
      split at e1
      · rename_i ss hs
        split at e1
        · rename_i hz
          cases e1
          obtain ⟨q, vs, rfl, hp, l⟩ := view_ok fm1.wo r1 ev
          have := strsD_eq hs
          subst this
          have := l.strs_eq
          subst this
          refine ⟨q, ss, rfl, SqL.of hp, hz, fun ys y pm so hy => ?_⟩
          rw [sort_uniq pm so]
          exact res.of t1 fm1.wo (DpL.strs _) y hy
        · cases e1
      · cases e1
    · cases e1
/-- xs.index(x) -/
def idxD : D → D → Option D
  | .lst ds, x => if (flat x && ds.all flat) = true then (match ds.findIdx? fun z => eqb z x with | some j => some (.int (j : Nat)) | none => none) else none
  | _, _ => none
def isLst (x : D) : M Unit := fun _ ω => match view ω x with
  | some (.lst _) => some (.val () ω)
  | _ => none
def idxM (fo fa : M D) : M D := fo.bind fun x => (isLst x).bind fun _ => fa.bind fun y => op2 idxD x y
theorem isLst_some {x : D} {ρ : Rho} {ω : List Cell} {α : Type} {k : Unit → M α} {r : R α} (h : ((isLst x).bind k) ρ ω = some r) : ∃ ds, view ω x = some (.lst ds) ∧ k () ρ ω = some r := by
  unfold M.bind isLst at h
  cases ev : view ω x with
  | none => simp only [ev] at h; cases h
  | some d =>
    cases d with
    | lst ds => simp only [ev] at h; exact ⟨ds, rfl, h⟩
    | _ => simp only [ev] at h; cases h
theorem DpL.flats {A : Ad} {B : Addr → Prop} {H : Hp} : ∀ {ds : List D} {vs : List V}, ds.all flat = true → DpL g A B H vs ds → vs.all flatV = true
  | [], _, _, l => by cases l; rfl
  | d :: ds, _, f, l => by
    cases l with
    | cons h1 h2 =>
      simp only [List.all_cons, Bool.and_eq_true] at f ⊢
      exact ⟨flat_dp f.1 (Dp.flatw f.1 h1), DpL.flats f.2 h2⟩
theorem de_index (hK : X.K = g.K) (ho : PE X o (tM g rW W fo)) (ha : PE X e (tM g rW W fa)) (hbase : attributeBase o "index" X.env (eval o X.env) = eval o X.env := by rfl)
    (hfew : ((backTo pos (starEach [e] X.env)).all (fun x => !x.1) && (backToKw pos (keywordEach [] X.env)).all (fun x => x.1.isSome)
      && decide ([e].length + ([] : List Keyword).length + (if ([] : List Keyword).isEmpty then 0 else 1) < 30)) = true := by rfl)
    (hline : (apos.endLine == pos.line) = true := by rfl) (hst : starEach [e] X.env = (false, eval e X.env) :: starEach [] X.env := by rfl) (hplain : (backTo pos (starEach [] X.env)).any (·.1) = false := by rfl) :
    PE X (.Call (.Attribute o "index" apos) [e] [] pos) (tM g rD W (idxM fo fa)) :=
  (pe_bm PySem.F.plainAttrs_list PySem.F.slot_list_index PySem.F.type_list_index mt_index ho (pa_cons ha pa_nil hst) hbase hfew hline hst hplain).dl fun σ H Q ⟨H0, A, B, ρ, ω, r, fm, e, res⟩ => by
    refine tM_mono (tM_bind fm e res) fun x H1 ⟨A1, B1, ω1, d1, t1, fm1, r1, e1, res1⟩ => ?_
    obtain ⟨ds0, ev0, e1⟩ := isLst_some e1
    obtain ⟨q0, vs0, rfl, hp0, l0⟩ := view_ok fm1.wo r1 ev0
    refine ⟨.inl ⟨rfl, vs0, SqL.of hp0⟩, ?_⟩
    refine tM_mono (tM_bind fm1 e1 res1) fun y H2 ⟨A2, B2, ω2, d2, t2, fm2, r2, e2, res2⟩ => ?_
    obtain ⟨x', y', z, h1, h2, h3, rfl⟩ := op2_some e2
    have vx := view_ok fm2.wo (r1.up fm1.wo t2) h1
    have vy := view_ok fm2.wo r2 h2
    cases x' with
    | lst ds =>
      simp only [idxD] at h3
      split at h3
      · rename_i hf
        rw [Bool.and_eq_true] at hf
        split at h3
        · rename_i j hj
          cases h3
          obtain ⟨q, vs, eq, hp, l⟩ := vx
          cases eq
          obtain ⟨hjl, hj1, hj2⟩ := List.findIdx?_eq_some_iff_getElem.mp hj
          obtain ⟨v, hv, dv⟩ := l.get (List.getElem?_eq_getElem hjl)
          have fj : flat ds[j] = true := List.all_eq_true.mp hf.2 _ (List.getElem_mem hjl)
          refine ⟨q0, vs, y, j, v, rfl, rfl, by rw [hK]; exact SqL.of hp, flat_dp hf.1 vy, l.flats hf.2, hv, ?_, fun m z' hm hz => ?_, res2 _ A2 B2 H2 (.refl _ _ _) fm2.wo (.int _)⟩
          · rw [eqV_flat fj hf.1 (Dp.flatw fj dv) vy]; exact hj1
          · obtain ⟨d', hd', dd'⟩ := l.getV hz
            have hml : m < ds.length := Nat.lt_trans hm hjl
            rw [List.getElem?_eq_getElem hml] at hd'
            cases hd'
            have fm' : flat ds[m] = true := List.all_eq_true.mp hf.2 _ (List.getElem_mem hml)
            rw [eqV_flat fm' hf.1 (Dp.flatw fm' dd') vy]
            exact Bool.eq_false_iff.mpr (hj2 m hm)
        · cases h3
      · cases h3
    | _ => cases h3
/-- o[i] = v, o a list of the store -/
def putLS (fo fi fv : M D) : MS := bindS fv fun d => bindS fo fun o => bindS fi fun i ρ ω => match o, i with
  | .oid k, .int z => (match ω[k]? with
    | some (.lst ds) => (match ixN ds.length z with
      | some j => some (.nx ρ (ω.set k (Cell.lst (ds.set j d))))
      | none => none)
    | _ => none)
  | _, _ => none
theorem ds_putLS (he : PE X e (tM g rD W fv)) (ho : PE X o (tM g rD W fo)) (hi : PE X i (tM g rD W fi))
    (hs : swapsWithSole [.Subscript o i p2] e pos.line X.env = pure false := by rfl) (hw : swappedStores [.Subscript o i p2] e X.env = pure none := by rfl) (h1 : (assignEach [.Subscript o i p2] X.env).map (·.2) = [assign (.Subscript o i p2) X.env] := by rfl)
    (ha : ∀ v, assign (.Subscript o i p2) X.env v = (do
      let ov ← holding [v] (eval o X.env)
      let iv ← holding [v, ov] (eval i X.env)
      standAt p2
      holding [v, ov, iv] (setItem ov iv v)
      release [v, ov, iv] []) := by intro _; rfl) :
    PS X (.Assign [.Subscript o i p2] e pos) (tS g n W (putLS fo fi fv)) :=
  (ps_asg he (pg_sub ho hi set_list ha) hs hw h1).dl fun D σ H ⟨A, B, ρ, ω, r, s, fm, e, res⟩ => by
    refine tM_mono (tS_bind s fm e res) fun v H1 ⟨A1, B1, ω1, d1, t1, m1, s1, fm1, r1, e1, res1⟩ => ?_
    refine tM_mono (tS_bind s1 fm1 e1 res1) fun x H2 ⟨A2, B2, ω2, d2, t2, m2, s2, fm2, r2, e2, res2⟩ => ?_
    refine tM_mono (tS_bind s2 fm2 e2 res2) fun y H3 ⟨A3, B3, ω3, d3, t3, m3, s3, fm3, r3, e3, res3⟩ => ?_
    have hx := Dp.mv m3 _ _ r2
    have hv := Dp.mv (m2.trans m3) _ _ r1
    cases d2 with
    | oid kk =>
      cases d3 with
      | int z =>
        simp only at e3
        cases hq : ω3[kk]? with
        | none => simp only [hq] at e3; cases e3
        | some c =>
          cases c with
          | lst ds =>
            simp only [hq] at e3
            cases hj : ixN ds.length z with
            | none => simp only [hj] at e3; cases e3
            | some j =>
              simp only [hj] at e3
              cases e3
              have hcell : ∃ a, x = .ref a ∧ A3[kk]? = some (some a) ∧ CellOk g A3 B3 H3 a (.lst ds) := by
                rcases fm3.wo.cell kk _ hq with ⟨z, _⟩ | ⟨a, ha, ok⟩
                · cases z
                · cases hx with
                  | oid e => rw [ha] at e; cases e; exact ⟨a, rfl, ha, ok⟩
                  | ded e => rw [ha] at e; cases e
              obtain ⟨a, rfl, ha, vs, hp, l⟩ := hcell
              cases r3
              refine ⟨a, vs, z, j, rfl, rfl, hp, by rw [l.length]; exact hj, ?_⟩
              obtain ⟨fm4, m4⟩ := fm3.cellW (u := .lst (vs.set j v)) (c := .lst (ds.set j d1)) ha (frz_not hp) fun H' _ hu m => ⟨_, hu, DpL.mv m _ _ (l.set j hv)⟩
              exact res3.next m4 (s3.cellW (Liv.of ha) (frz_not hp)) fm4
          | _ => simp only [hq] at e3; cases e3
      | _ => simp only at e3; cases e3
    | _ => simp only at e3; cases e3
end
/-! ### C() whose __init__ puts dict(rows), rows left out: () -/
def KT0 (K : PySem.W.Frag) (a : Addr) : Prop := ∃ (o : Obj) (n : Nat), K.lookup a = some o ∧ o.cls = .type "tuple" ∧ o.dict = none ∧ o.data = .seq #[] n
theorem call_dictT {X : Cx} {T0 : Addr} (hcalm : X.calm = true) (h0 : KT0 X.K T0) : CallR X (.type "dict") (fun xs H Q => xs = [.ref T0] ∧ ∀ p, H p = none → Q (.ref p) (upd H p (.dK []))) := by
  intro pins s σ H xs us Q I r q
  obtain ⟨rfl, q⟩ := q
  obtain ⟨u, rfl, rx⟩ := vals1 r
  cases rx
  obtain ⟨o, n, hk, hc, hd, hdat⟩ := h0
  have ho : s.heap.get? T0 = some o := I.kIn T0 o hk
  refine call_dict_pairs (knd := mixKind X.prog X.w) (kvs := []) (PairArg.tuple T0 #[] (fun _ => 0) []) (I.ok.hd hcalm) ⟨⟨o, n, ho, hc, hd, hdat⟩, ⟨rfl, fun j k v e => by simp at e⟩⟩ ⟨rfl, fun i key v e => nomatch (show (none : Option (Value × Value)) = some (key, v) from e)⟩ (Nat.zero_le _) fun h' tk hd' hk' => ?_
  have hm : (s.heap.objs.size == sysModules) = false := beq_eq_false_iff_ne.mpr (Nat.ne_of_gt I.big)
  exact ⟨.ref s.heap.objs.size, upd H s.heap.objs.size (.dK []), I.laid (t' := tk) (fun b u e => hk' b u (by simp) e) (Nat.le_refl _)
    (show ObjOk X.prog X.w _ _ _ (.dK []) from ⟨Nat.zero_le _, hm, [], .nil, hd'⟩), rfl, q _ (I.hok.fresh (Nat.le_refl _))⟩
/-- what such an __init__ does -/
def sp0 (C T0 : Addr) (f : Str) : Sp := fun vs H Q _ => ∃ x dx, vs = [.ref x, .ref T0] ∧ H x = some (.ins C dx []) ∧ ∀ p, H p = none → Q .non (upd (upd H p (.dK [])) x (.ins C dx [(f, .ref p)]))
structure CalG0 (P : Program) (w : World) (K : PySem.W.Frag) (mg : Str → Option Value) (base : Heap) (c f : Str) (ps : List Str) (k : Nat) : Prop where
  ex : ∃ C fI fd T0 ds, mg c = some (.ref C) ∧ Mk K C fI ∧ Vals [V.ref T0] ds ∧ Binds K fd ps ds ∧ FnOk P w K mg base CX0 k fI fd ps (sp0 C T0 f)
/-- the text of such an __init__ -/
structure FI0 (K : PySem.W.Frag) (mg : Str → Option Value) (c f qual : Str) (st : Stmt) : Prop where
  ex : ∃ C fI fd T0, mg c = some (.ref C) ∧ Mk K C fI ∧ Cls K C ∧ NoAttr K C f ∧ FunD K "__init__" qual (defArgs st) (defBody st) (defScope st) [V.ref T0] [] fI fd ∧ KT0 K T0
theorem calG0_of {P : Program} {w : World} {K : PySem.W.Frag} {mg : Str → Option Value} {base : Heap} {c f qual : Str} {st : Stmt} {N ps : List Str} (T : FI0 K mg c f qual st) (S : FnScope N ps (defScope st)) (hN : N.length = 2) (hps : ps.length = 2)
    (b : ∀ a fd (T0 : Addr), FunD K "__init__" qual (defArgs st) (defBody st) (defScope st) [V.ref T0] [] a fd → ∃ ds, Vals [V.ref T0] ds ∧ Binds K fd ps ds)
    (h : ∀ (T0 fI : Addr) (cdv : Value) (A : Around) (outer : List PySem.Env) (s : Shared) (H : Hp) (E : XK), KT0 K T0 → ∃ td, PSs (cxOf CX0 P w K mg base N qual (defScope st) fI cdv A outer s H E) (defBody st) (sFld K (tVar 0) td f) ∧ ∀ σ H Q, σ[1]? = some (some (.ref T0)) → (∀ p, H p = none → Q (.ref p) (upd H p (.dK []))) → td σ H Q) :
    CalG0 P w K mg base c f ps 1 := by
  obtain ⟨C, fI, fd, T0, h1, h2, h3, h4, h5, h6⟩ := T.ex
  obtain ⟨ds, hv, hb⟩ := b fI fd T0 h5
  refine ⟨C, fI, fd, T0, ds, h1, h2, hv, hb, h5.ok S (fun vs H Q E ⟨x, dx, e, _⟩ => by rw [e, hps]; rfl) fun cdv A outer s H vs Q E hr ⟨x, dx, e, hx, q⟩ => ?_⟩
  obtain ⟨td, g1, g2⟩ := h T0 fI cdv A outer s H E h6
  refine ⟨_, g1, ?_⟩
  subst e
  match N, hN with
  | [n0, n1], _ =>
    refine g2 _ _ _ rfl fun p hp => ?_
    refine ⟨.ref x, rfl, x, C, dx, [], rfl, ?_, h3, h4, by simp, q p hp⟩
    rw [upd_ne (ne_of_none hx hp)]
    exact hx
/-- C() -/
def mk0 (c f : Str) : M D := fun _ ω => some (.val (.oid ω.length) (ω ++ [Cell.obj c [(f, .oid (ω.length + 1))], Cell.dic []]))
theorem de_mk0 {X : Cx} {W : WX} {c f : Str} {p pos : Pos} {k j : Nat} {ps : List Str} (cg : CalG0 X.prog X.w X.K X.mg X.base c f ps k) (hr : Room j X.A) (hj : k + 1 ≤ j) (hg : Gl X c) (hdb : (c == ("__debug__" : Str)) = false := by decide) :
    PE X (.Call (.Name c p) [] [] pos) (tM ⟨X.K, X.mg⟩ rD W (mk0 c f)) := by
  obtain ⟨C, fI, fd, T0, ds, h1, h2, hv, h3, h4⟩ := cg.ex
  refine (pe_make0 (E := E0) h2 h4 (hr.mono hj) hg h1 h3 hv pass0 hdb).dl ?_
  rintro σ H Q ⟨H0, A, B, ρ, ω, r, fm, e, res⟩
  cases e
  intro x dx hx hd ne
  obtain ⟨st, wo⟩ := store_new (c := c) fm.wo hx hd ne h1
  refine ⟨x, dx, rfl, upd_same, fun y hy => ?_⟩
  obtain ⟨s2, w2, d2⟩ := store_cell (u := .dK []) (c := .dic []) wo hy fun A' B' H' m h => ⟨[], h, .nil⟩
  have hl : A.length = ω.length := fm.wo.len
  have ha : (A ++ [some x] ++ [some y])[ω.length]? = some (some x) := by rw [← hl]; simp
  have fm2 := fm.up (st.trans s2) w2
  have hxx : upd (upd (upd H dx (.own x)) x (.ins C dx [])) y (.dK []) x = some (.ins C dx []) := by
    rw [upd_ne (fun z => by rw [← z, upd_same] at hy; cases hy)]; exact upd_same
  obtain ⟨fm3, m3⟩ := fm2.cellW (u := .ins C dx [(f, .ref y)]) (c := .obj c [(f, .oid (ω.length + 1))]) ha (frz_not hxx) fun H' _ hu m => ⟨C, dx, _, hu, h1, .cons (Dp.mv m _ _ (by simpa using d2)) .nil⟩
  have ew : (ω ++ [Cell.obj c []] ++ [Cell.dic []]).set ω.length (.obj c [(f, .oid (ω.length + 1))]) = ω ++ [.obj c [(f, .oid (ω.length + 1))], .dic []] := by simp
  rw [ew] at fm3
  exact ⟨rfl, res (.ref x) _ _ _ ((st.trans s2).cellW (Liv.of ha) (frz_not hxx)) fm3.wo (.oid ha)⟩
end DL
/-! DL36: steps for things of the store, dicts, own special methods. -/
namespace DL
open PySem L2
section
variable {m c : Str} {T : List (Str × Fn)} {o i x y d : D} {ds xs ys : List D} {fs : List (Str × D)} {Gf : Fn} {ρ : Rho} {ω ω1 ω2 ω3 ω4 ω' : List Cell} {fo fi fv fa fb f : M D} {fl : M (List D)} {K : MS} {k j n : Nat}
theorem ownM_at (hv : view ω o = some (.obj c fs)) (ht : T.lookup c = some Gf) : ownM m T o ds ρ ω = Gf (o :: ds) ω := by
  unfold ownM; rw [hv]; simp only [ht]; rfl
theorem lenO_at {n : Int} (hf : fo ρ ω = some (.val o ω1)) (hv : view ω1 o = some (.obj c fs)) (ht : T.lookup c = some Gf) (hc : Gf [o] ω1 = some (.val (.int n) ω2)) (h0 : 0 ≤ n) (h1 : n < 2 ^ 63) : lenO T fo ρ ω = some (.val (.int n) ω2) := by
  unfold lenO
  rw [bind_ev hf, bind_ev ((ownM_at hv ht).trans hc)]
  exact if_pos ⟨h0, h1⟩
theorem ixO_at {r : Option (R D)} (hf : fo ρ ω = some (.val o ω1)) (hi : fi ρ ω1 = some (.val i ω2)) (hv : view ω2 o = some (.obj c fs)) (ht : T.lookup c = some Gf) (hc : Gf [o, i] ω2 = r) : ixO T fo fi ρ ω = r := by
  unfold ixO
  rw [bind_ev hf, bind_ev hi]
  exact (ownM_at hv ht).trans hc
theorem inO_at {neg b b' : Bool} (ha : fa ρ ω = some (.val x ω1)) (hb : fb ρ ω1 = some (.val y ω2)) (hv : view ω2 y = some (.obj c fs)) (ht : T.lookup c = some Gf) (hc : Gf [y, x] ω2 = some (.val (.bl b) ω3)) (e : (if neg then !b else b) = b') : inO neg T fa fb ρ ω = some (.val (.bl b') ω3) := by
  unfold inO
  rw [bind_ev ha, bind_ev hb, bind_ev ((ownM_at hv ht).trans hc), ← e]
  rfl
theorem putO_at (hv : fv ρ ω = some (.val d ω1)) (ho : fo ρ ω1 = some (.val o ω2)) (hi : fi ρ ω2 = some (.val i ω3)) (hw : view ω3 o = some (.obj c fs)) (ht : T.lookup c = some Gf) (hc : Gf [o, i, d] ω3 = some (.val x ω4)) : putO T fo fi fv ρ ω = some (.nx ρ ω4) := by
  unfold putO
  rw [bindS_ev hv, bindS_ev ho, bindS_ev hi, bindS_ev ((ownM_at hw ht).trans hc)]
theorem putO_ex {x : Exc} (hv : fv ρ ω = some (.val d ω1)) (ho : fo ρ ω1 = some (.val o ω2)) (hi : fi ρ ω2 = some (.val i ω3)) (hw : view ω3 o = some (.obj c fs)) (ht : T.lookup c = some Gf) (hc : Gf [o, i, d] ω3 = some (.exc x ω4)) : putO T fo fi fv ρ ω = some (.exc x ρ ω4) := by
  unfold putO
  rw [bindS_ev hv, bindS_ev ho, bindS_ev hi, bindS_ex ((ownM_at hw ht).trans hc)]
theorem setN_at (h : fl ρ ω = some (.val ds ω')) : setN i' fl ρ ω = some (.nx (ρ.set i' (.fz (.oid ω'.length))) (ω' ++ [Cell.lst ds])) := by
  unfold setN; rw [bindS_ev h]
theorem appO_at {i : Nat} (hi : ρ[i]? = some (.fz (.oid k))) (hk : ω[k]? = some (.lst xs)) (h : f ρ ω = some (.val d ω')) (hk' : ω'[k]? = some (.lst ys)) (hz : ys.length ≤ 100000) : appO i f ρ ω = some (.nx ρ (ω'.set k (.lst (ys ++ [d])))) := by
  unfold appO
  rw [hi]
  simp only [hk]
  rw [bindS_ev h]
  simp only [hk']
  rw [if_pos (by rw [sizeLine_eq]; omega)]
theorem putLS_at {z : Int} (hv : fv ρ ω = some (.val d ω1)) (ho : fo ρ ω1 = some (.val (.oid k) ω2)) (hi : fi ρ ω2 = some (.val (.int z) ω3)) (hk : ω3[k]? = some (.lst ds)) (hj : ixN ds.length z = some j) : putLS fo fi fv ρ ω = some (.nx ρ (ω3.set k (.lst (ds.set j d)))) := by
  unfold putLS
  rw [bindS_ev hv, bindS_ev ho, bindS_ev hi]
  simp only [hk, hj]
theorem dputS_at {key : Key} {kvs : List (Key × D)} (hv : fv ρ ω = some (.val d ω1)) (ho : fo ρ ω1 = some (.val (.oid k) ω2)) (hi : fi ρ ω2 = some (.val i ω3)) (hq : keyD i = some key) (hk : ω3[k]? = some (.dic kvs)) (hz : kvs.length < 1000) : dputS fo fi fv ρ ω = some (.nx ρ (ω3.set k (.dic (putKD kvs key d)))) := by
  unfold dputS
  rw [bindS_ev hv, bindS_ev ho, bindS_ev hi]
  simp only [hq, hk]
  rw [if_pos hz]
theorem newS_at (h : fl ρ ω = some (.val ds ω')) : (fl.bind newS) ρ ω = some (.val (.oid ω'.length) (ω' ++ [Cell.lst ds])) := bind_ev h
theorem sortL_at {ss : List Str} (hf : f ρ ω = some (.val x ω')) (hv : view ω' x = some (.lst (ss.map D.str))) (hz : ss.length < 64) : (f.bind sortL) ρ ω = some (.val ((sortS ss).map D.str) ω') := by
  rw [bind_ev hf]
  unfold sortL
  rw [hv]
  simp only [strsD_map]
  rw [if_pos hz]
theorem listK_at {kvs : List (Key × D)} (hf : f ρ ω = some (.val x ω')) (hv : view ω' x = some (.dic kvs)) : (f.bind listK) ρ ω = some (.val (kvs.map fun kv => dKey kv.1) ω') := by
  rw [bind_ev hf]
  unfold listK
  rw [hv]
theorem idxM_at {j : Nat} (hf : fo ρ ω = some (.val x ω1)) (hv : view ω1 x = some (.lst xs)) (ha : fa ρ ω1 = some (.val y ω2)) (hv2 : view ω2 x = some (.lst ds)) (hy : view ω2 y = some y) (hfl : (flat y && ds.all flat) = true) (hj : ds.findIdx? (fun z => eqb z y) = some j) : idxM fo fa ρ ω = some (.val (.int (j : Nat)) ω2) := by
  unfold idxM
  rw [bind_ev hf]
  have h1 : isLst x ρ ω1 = some (.val () ω1) := by unfold isLst; rw [hv]
  rw [bind_ev h1, bind_ev ha]
  unfold op2
  rw [hv2, hy]
  have : idxD (.lst ds) y = some (.int (j : Nat)) := by
    show (if (flat y && ds.all flat) = true then (match ds.findIdx? fun z => eqb z y with | some j => some (D.int (j : Nat)) | none => none) else none) = _
    rw [if_pos hfl, hj]
  simp only [this]
end
/-! ### dicts of things by texts -/
theorem valD_append (a b : List (Key × D)) (k : Key) : valD (a ++ b) k = match valD a k with | some d => some d | none => valD b k := by
  induction a with
  | nil => rfl
  | cons p r ih =>
    rw [List.cons_append, valD_cons, valD_cons]
    split
    · rfl
    · exact ih
theorem findIdx_map {α : Type} [DecidableEq α] (f : α → D) (hf : ∀ a b, eqb (f a) (f b) = decide (a = b)) (x : α) : ∀ xs : List α, (xs.map f).findIdx? (fun z => eqb z (f x)) = xs.findIdx? fun z => decide (z = x)
  | [] => rfl
  | a :: r => by
    rw [List.map_cons, List.findIdx?_cons, List.findIdx?_cons, hf, findIdx_map f hf x r]
theorem any_str (x : Str) : ∀ xs : List Str, ((xs.map D.str).any fun z => eqb z (.str x)) = decide (x ∈ xs)
  | [] => rfl
  | a :: r => by
    rw [List.map_cons, List.any_cons, any_str x r]
    show (a == x || decide (x ∈ r)) = _
    by_cases h : a = x
    · subst h; simp
    · have : (a == x) = false := beq_eq_false_iff_ne.mpr h
      rw [this]
      have h' : ¬ x = a := fun e => h e.symm
      simp [h']
theorem str_eqb (a b : Str) : eqb (.str a) (.str b) = decide (a = b) := by
  show (a == b) = decide (a = b)
  by_cases h : a = b
  · simp [h]
  · simp [h]
end DL
/-! DL37: dicts walked (locked meanwhile), own __iter__, dict comprehensions. -/
namespace DL
open PySem L2
/-! ### a dict of the store is locked meanwhile -/
def unlk (k : Nat) : Option RS → Option RS
  | some (.nx ρ ω) => match ω[k]? with
    | some (.ldc kvs) => some (.nx ρ (ω.set k (Cell.dic kvs)))
    | _ => none
  | _ => none
def lockS (f : M D) (F : MS) : MS := fun ρ ω => match f ρ ω with
  | some (.val (.oid k) _) => match ω[k]? with
    | some (.dic kvs) => unlk k (F ρ (ω.set k (Cell.ldc kvs)))
    | _ => none
  | _ => none
theorem unlk_some {k : Nat} {o : Option RS} {r : RS} (h : unlk k o = some r) : ∃ ρ ω kvs, o = some (.nx ρ ω) ∧ ω[k]? = some (.ldc kvs) ∧ r = .nx ρ (ω.set k (Cell.dic kvs)) := by
  cases o with
  | none => cases h
  | some r0 =>
    cases r0 with
    | nx ρ ω =>
      simp only [unlk] at h
      cases q : ω[k]? with
      | none => simp only [q] at h; cases h
      | some c =>
        cases c with
        | ldc kvs => simp only [q] at h; cases h; exact ⟨ρ, ω, kvs, rfl, q, rfl⟩
        | _ => simp only [q] at h; cases h
    | _ => cases h
theorem lockS_some {f : M D} {F : MS} {ρ : Rho} {ω : List Cell} {r : RS} (h : lockS f F ρ ω = some r) : ∃ k kvs, ω[k]? = some (.dic kvs) ∧ unlk k (F ρ (ω.set k (Cell.ldc kvs))) = some r := by
  unfold lockS at h
  cases q : f ρ ω with
  | none => simp only [q] at h; cases h
  | some z =>
    cases z with
    | exc x ω' => simp only [q] at h; cases h
    | val d ω' =>
      cases d with
      | oid k =>
        simp only [q] at h
        cases q2 : ω[k]? with
        | none => simp only [q2] at h; cases h
        | some c =>
          cases c with
          | dic kvs => simp only [q2] at h; exact ⟨k, kvs, q2, h⟩
          | _ => simp only [q2] at h; cases h
      | _ => simp only [q] at h; cases h
section
variable {g : G} {A A' : Ad} {B B' : Addr → Prop} {H H' H0 : Hp} {ω : List Cell} {σ : St} {ρ : Rho} {k : Nat} {a : Addr} {od : Obj} {vs : List (Key × V)} {kvs : List (Key × D)}
theorem Fm.unlock (h : Fm g H0 A B H ω σ ρ) (ha : A[k]? = some (some a)) (hp : H a = some (.frz od (.dK vs))) (l : DpK g A B H vs kvs) : Fm g H0 A B (upd H a (.dK vs)) (ω.set k (.dic kvs)) σ ρ := by
  have hb : B a := h.wo.liv a (Liv.of ha)
  have m : Mv0 A B H A B (upd H a (.dK vs)) := ⟨fun b o nb e => ⟨by rw [upd_ne (fun z => nb (by rw [z]; exact hb))]; exact e, nb⟩, fun _ _ h => .inl h⟩
  refine ⟨⟨by rw [List.length_set]; exact h.wo.len, h.wo.inj, h.wo.liv, fun b hb' => ?_, fun j c' e => ?_⟩, ⟨h.sl.len, fun j s e => ?_, h.sl.own⟩⟩
  · by_cases z : b = a
    · exact ⟨_, by rw [z]; exact upd_same⟩
    · obtain ⟨o, e⟩ := h.wo.bnd b hb'
      exact ⟨o, by rw [upd_ne z]; exact e⟩
  · rcases getElem?_set_cases e with ⟨rfl, hl, rfl⟩ | ⟨ne, e⟩
    · exact .inr ⟨a, ha, vs, upd_same, DpK.mv0 m _ _ l⟩
    · rcases h.wo.cell j c' e with z | ⟨b, h1, h2⟩
      · exact .inl z
      · exact .inr ⟨b, h1, h2.mv0 m fun o q => by rw [upd_ne (fun z => ne (h.wo.inj k j a ha (by rw [← z]; exact h1)))]; exact q⟩
  · have := h.sl.val j s e
    cases s with
    | no => trivial
    | ex p y => exact ⟨this.1, this.2.mv0 m⟩
    | fz d =>
      obtain ⟨v, e1, e2⟩ := this
      exact ⟨v, e1, Dp.mv0 m _ _ e2⟩
    | ow es =>
      obtain ⟨q, ws, e1, e2, e3, e4, e5, e6⟩ := this
      exact ⟨q, ws, e1, by rw [upd_ne (fun z => e5 (by rw [z]; exact Liv.of ha))]; exact e2, DpL.mv0 m _ _ e3, e4, e5, e6⟩
end
theorem ds_lock {X : Cx} {n : En} {W : WX} {g : G} {F : MS} {st : Stmt} (f : M D) (h : PS X st (tS g n W F)) : PS X st (tS g n W (lockS f F)) :=
  (ps_lock h).dl fun D σ H ⟨A, B, ρ, ω, r, s, fm, e, res⟩ => by
    obtain ⟨k, kvs, hk, e⟩ := lockS_some e
    obtain ⟨ρ', ω', kvs', eF, hk', rfl⟩ := unlk_some e
    obtain ⟨a, ha, vs, hp, l⟩ : ∃ a, A[k]? = some (some a) ∧ CellOk g A B H a (.dic kvs) := by
      rcases fm.wo.cell k _ hk with ⟨z, _⟩ | z
      · cases z
      · exact z
    refine ⟨a, .dK vs, hp, True.intro, fun od => ?_⟩
    obtain ⟨fm2, m2⟩ := fm.cellW (u := .frz od (.dK vs)) (c := .ldc kvs) ha (frz_not hp) fun H' _ hu m => ⟨od, vs, hu, DpK.mv m _ _ l⟩
    have s2 : Stp n.A n.B n.H A B (upd H a (.frz od (.dK vs))) := s.cellW (Liv.of ha) (frz_not hp)
    refine ⟨A, B, ρ, ω.set k (.ldc kvs), _, s2, fm2, eF, fun σ' A' B' H' m' s' fm' => ?_⟩
    have fz : H' a = some (.frz od (.dK vs)) := m'.frz a od _ upd_same
    have ha' : A'[k]? = some (some a) := by
      rcases fm'.wo.cell k _ hk' with ⟨z, _⟩ | ⟨b, hb, _⟩
      · cases z
      · rcases m'.ids k _ ha with z | z
        · exact z
        · rw [hb] at z; cases z
    have l' : DpK g A' B' H' vs kvs' := by
      rcases fm'.wo.cell k _ hk' with ⟨z, _⟩ | ⟨b, hb, o2, vs2, h1, h2⟩
      · cases z
      · rw [ha'] at hb; cases hb
        rw [fz] at h1; cases h1
        exact h2
    have hba : B a := fm.wo.liv a (Liv.of ha)
    have nl : ∀ b o, n.H b = some o → ¬ Liv n.A b → b ≠ a := fun b o e nn z => by
      rcases s.new a (Liv.of ha) with h | h
      · exact nn (by rw [z]; exact h)
      · rw [← z, e] at h; cases h
    have mm : Mv A B H A' B' (upd H' a (.dK vs)) := by
      refine ⟨fun b o nb e => ?_, m'.ids, fun b o u e => ?_⟩
      · have ne : b ≠ a := fun z => nb (by rw [z]; exact hba)
        have := m'.cell b o nb (by rw [upd_ne ne]; exact e)
        exact ⟨by rw [upd_ne ne]; exact this.1, this.2⟩
      · have ne : b ≠ a := fun z => by rw [z, hp] at e; cases e
        rw [upd_ne ne]
        exact m'.frz b o u (by rw [upd_ne ne]; exact e)
    have ss : Stp n.A n.B n.H A' B' (upd H' a (.dK vs)) := by
      refine ⟨fun b o e nn => by rw [upd_ne (nl b o e nn)]; exact s'.keep b o e nn, s'.old, s'.new, s'.ids, fun b o e => ?_, fun b o u e => ?_⟩
      · by_cases z : b = a
        · exact ⟨_, by rw [z]; exact upd_same⟩
        · obtain ⟨o', q⟩ := s'.trk b o e
          exact ⟨o', by rw [upd_ne z]; exact q⟩
      · have ne : b ≠ a := fun z => by
          have := s.frz b o u e
          rw [z, hp] at this; cases this
        rw [upd_ne ne]
        exact s'.frz b o u e
    exact ⟨fz, res σ' A' B' _ mm ss (fm'.unlock ha' fz l')⟩
/-! ### its keys -/
def keysOf (d : D) : M (List D) := fun _ ω => match d with
  | .oid k => match ω[k]? with
    | some (.ldc kvs) => some (.val (kvs.map fun kv => dKey kv.1) ω)
    | _ => none
  | _ => none
theorem keysOf_some {d : D} {ρ : Rho} {ω : List Cell} {r : R (List D)} (h : keysOf d ρ ω = some r) : ∃ k kvs, d = .oid k ∧ ω[k]? = some (.ldc kvs) ∧ r = .val (kvs.map fun kv => dKey kv.1) ω := by
  unfold keysOf at h
  cases d with
  | oid k =>
    simp only at h
    cases q : ω[k]? with
    | none => simp only [q] at h; cases h
    | some c =>
      cases c with
      | ldc kvs => simp only [q] at h; cases h; exact ⟨k, kvs, rfl, q, rfl⟩
      | _ => simp only [q] at h; cases h
  | _ => cases h
theorem DpK.keyM {g : G} {A : Ad} {B : Addr → Prop} {H : Hp} {ds : List (Key × D)} {vs : List (Key × V)} (h : DpK g A B H vs ds) : (ds.map fun kv => dKey kv.1) = vs.map fun kv => dKey kv.1 := by
  have := congrArg (List.map dKey) h.keys
  rw [List.map_map, List.map_map] at this
  exact this.symm
theorem itb_keys {g : G} {a : Addr} {o : Obj} {vs : List (Key × V)} : ItB g (Itk a o vs) (vs.map fun kv => dKey kv.1) (fun _ _ H => H a = some (.frz o (.dK vs))) where
  go := fun A B H i c hi => ⟨c, by simpa using hi⟩
  yld := fun A B H ω i x H' w c _ y => by
    obtain ⟨rfl, k, v, hk, rfl⟩ := y
    refine ⟨dKey k, by rw [List.getElem?_map, hk]; rfl, .refl _ _ _, w, ?_⟩
    cases k with
    | inl i => exact .int i
    | inr x => exact .str x
  stop := fun A B H i c hi => ⟨c, by simpa using hi⟩
/-- a locked dict of the store, where it lies -/
theorem ldc_at {g : G} {A : Ad} {B : Addr → Prop} {H : Hp} {ω : List Cell} {v : V} {k : Nat} {kvs : List (Key × D)} (w : Wo g A B H ω) (hk : ω[k]? = some (.ldc kvs)) (h : Dp g A B H v (.oid k)) : ∃ a o vs, v = .ref a ∧ A[k]? = some (some a) ∧ H a = some (.frz o (.dK vs)) ∧ DpK g A B H vs kvs := by
  rcases w.cell k _ hk with ⟨z, _⟩ | ⟨a, ha, o, vs, h1, h2⟩
  · cases z
  · cases h with
    | oid e => rw [ha] at e; cases e; exact ⟨a, o, vs, rfl, ha, h1, h2⟩
    | ded e => rw [ha] at e; cases e
section
variable {X : Cx} {g : G} {W : WX} {tg e : Expr} {f : M D}
theorem di_keysG {stay : Cnd → Prop} (hst : ∀ (a : Addr) (o : Obj) (vs : List (Key × V)), stay fun _ _ H => H a = some (.frz o (.dK vs))) (he : PE X e (tM g rD W f)) : PI X tg e (tI g W stay (f.bind keysOf)) :=
  (pi_keys he).dl fun σ H Q ⟨H0, A, B, ρ, ω, r, fm, e, res⟩ => by
    refine tM_mono (tI_bind fm e res) fun x H1 ⟨A1, B1, ω1, d1, t1, fm1, r1, e1⟩ => ?_
    obtain ⟨k, kvs, rfl, hk, rfl⟩ := keysOf_some e1
    obtain ⟨a, o, vs, rfl, ha, hp, l⟩ := ldc_at fm1.wo hk r1
    refine ⟨a, o, rfl, .inl ⟨vs, hp, ?_⟩⟩
    have res' := res (Itk a o vs) (fun _ _ H => H a = some (.frz o (.dK vs))) A1 B1 H1 t1 fm1.wo
    rw [l.keyM] at res'
    exact res' itb_keys (hst a o vs) hp
theorem di_keys (he : PE X e (tM g rD W f)) : PI X tg e (tI g W stayM (f.bind keysOf)) := di_keysG (fun a o vs A B H A' B' H' m c => m.frz a o _ c) he
theorem di_keysS (he : PE X e (tM g rD W f)) : PI X tg e (tI g W stayS (f.bind keysOf)) := di_keysG (fun a o vs A B H A' B' H' _ m c => m.frz a o _ c) he
end
/-! ### o.__iter__() that returns iter(self.f) -/
def ItK (it d : Addr) (o : Obj) (kvs : List (Key × V)) : HO := .ext fun h => ∃ es ep, o.data = .dict es ep ∧ h.IsKeyIter it d 0 kvs.length ep
theorem call_iterK {X : Cx} : CallR X (.builtin "iter") (fun xs H Q => ∃ d o kvs, xs = [V.ref d] ∧ H d = some (.frz o (.dK kvs)) ∧ ∀ it, X.s_0.heap.objs.size ≤ it → H it = none → Q (.ref it) (upd H it (ItK it d o kvs))) := by
  intro pins s σ H xs us Q I r h
  obtain ⟨d, o, kvs, rfl, hd, q⟩ := h
  obtain ⟨u, rfl, ru⟩ := vals1 r
  cases ru
  obtain ⟨hs, hgd, hx, es, ep, vs, hdt, hsz, kv, hm⟩ := I.frzK hd
  refine Calls.call_function_entry (by decide +kernel) (by decide +kernel) PySem.W.kdk_entry_iter (PySem.W.kdk_args_iter _) ?_
  unfold Builtin.«iter»
  refine wpAny_bind (m := someArgs "iter" 1 2 _) (wpAny_of_eq (a := [Value.ref d]) (by first | rfl | kernel_rfl!) ?_)
  show wpAny _ _ (pyIter (.ref d) >>= _) _ _ _
  refine wpAny_bind (iter_keys hs hgd hx hdt ?_)
  have st : (s.heap.push { cls := .type "dict_keyiterator", data := .fields #[.ref d, .int 0 0, .int (es.size : Nat) 0, .int (ep : Nat) 0] }).IsKeyIter s.heap.objs.size d 0 kvs.length ep := by
    rw [← hsz]
    exact ⟨_, Heap.get?_push_size _ rfl, rfl, rfl⟩
  refine wpAny_pure ⟨_, rfl, .ref s.heap.objs.size, _, I.laid (t' := s.toks) (fun b u e => Heap.get?_push_of_some _ e) (Nat.le_refl _) ?_, rfl, q _ I.sz (I.hok.fresh (Nat.le_refl _))⟩
  exact ⟨⟨es, ep, hdt, st⟩, ⟨_, Heap.get?_push_size _ rfl⟩, fun h1 h2 ⟨es', ep', hd', st'⟩ hk => ⟨es', ep', hd', let ⟨oi, e, c, dd⟩ := st'; ⟨oi, hk _ e, c, dd⟩⟩⟩
/-- what such a def does -/
def RunIt (P : Program) (w : World) (K : PySem.W.Frag) (mg : Str → Option Value) (base : Heap) (fld : Str) (f : Addr) (fd : FuncData) (ps : List Str) : Prop :=
  ∀ (A : Around) (outer : List PySem.Env) (s : Shared) (H : Hp) (us : List Value) (x d : Addr) (C dx : Addr) (fs : List (Str × V)) (o : Obj) (kvs : List (Key × V)) (Q : VK) (E : XK), Room 1 A → Env0 P w K mg base A outer s H → Vals [V.ref x] us → BindsTo s fd ⟨us, []⟩ (ps.zip us) →
    H x = some (.ins C dx fs) → Cls K C → NoAttr K C fld → fs.lookup fld = some (.ref d) → H d = some (.frz o (.dK kvs)) → (∀ it, s.heap.objs.size ≤ it → H it = none → Q (.ref it) (upd H it (ItK it d o kvs))) →
    codeAny (model P w) A (.call (.ref f) ⟨us, []⟩) (CR CX0 outer P w H s Q E) s
structure CalIt (P : Program) (w : World) (K : PySem.W.Frag) (mg : Str → Option Value) (base : Heap) (c fld : Str) (ps : List Str) : Prop where
  ex : ∃ C f fd, mg c = some (.ref C) ∧ Cls K C ∧ NoAttr K C fld ∧ (PySem.W.findIn K (.ref C) "__iter__" = some (some (.ref f)) ∧ PySem.W.isFn K (.ref f) = true) ∧ Binds K fd ps [] ∧ RunIt P w K mg base fld f fd ps
/-- the text of such a def -/
structure FIt (K : PySem.W.Frag) (mg : Str → Option Value) (c fld qual : Str) (st : Stmt) : Prop where
  ex : ∃ C f fd, mg c = some (.ref C) ∧ Cls K C ∧ NoAttr K C fld ∧ (PySem.W.findIn K (.ref C) "__iter__" = some (some (.ref f)) ∧ PySem.W.isFn K (.ref f) = true) ∧ Fun K "__iter__" qual st f fd
theorem calIt_of {P : Program} {w : World} {K : PySem.W.Frag} {mg : Str → Option Value} {base : Heap} {c fld qual : Str} {st : Stmt} {N ps : List Str} (T : FIt K mg c fld qual st) (S : FnScope N ps (defScope st)) (hN : N.length = 1) (hps : ps.length = 1)
    (b : ∀ a fd, Fun K "__iter__" qual st a fd → Binds K fd ps [])
    (h : ∀ (f : Addr) (cdv : Value) (A : Around) (outer : List PySem.Env) (s : Shared) (H : Hp) (E : XK), ∃ td, PSs (cxOf CX0 P w K mg base N qual (defScope st) f cdv A outer s H E) (defBody st) (tRet td) ∧
      ∀ (σ : St) (H : Hp) (Q : VK) (x d C dx : Addr) (fs : List (Str × V)) (o : Obj) (kvs : List (Key × V)), σ[0]? = some (some (.ref x)) → H x = some (.ins C dx fs) → Cls K C → NoAttr K C fld → fs.lookup fld = some (.ref d) → H d = some (.frz o (.dK kvs)) →
        (∀ it, s.heap.objs.size ≤ it → H it = none → Q (.ref it) (upd H it (ItK it d o kvs))) → td σ H Q) : CalIt P w K mg base c fld ps := by
  obtain ⟨C, f, fd, h1, h2, h3, h4, Fu⟩ := T.ex
  refine ⟨C, f, fd, h1, h2, h3, h4, b f fd Fu, ?_⟩
  obtain ⟨oc, od, kV, doc, pm, an, cdv, ct, osl, rfl, lk, hcd⟩ := Fu.ex
  intro A outer s H us x d C dx fs o kvs Q E hr e0 r hb hx hC hA hl hd q
  have hlen : us.length = 1 := r.length.symm
  have KX : K.In s.heap := e0.mod.kin.keeps fun b o e => (e0.bs b o e).1
  have lim : s.heap.NoLimit := e0.mod.nolimit.keeps fun b o e => (e0.bs b o e).1
  have hkind : ∀ y ∈ ps.zip us, (defScope st).names.lookup y.1 = some .local ∨ ((defScope st).names.lookup y.1 = some .cell ∧ ((cellsFrom (s.heap.objs.size + 1) (defScope st).names []).lookup y.1).isSome = true) := fun ⟨n, v⟩ hy => by
    rcases S.par n (List.of_mem_zip hy).1 with q | q
    · exact .inl q
    · exact .inr ⟨q, PySem.W.cellsFrom_some _ _ _ (.inl q)⟩
  refine codeAny_call_function hr.depth (KX _ _ lk) rfl S.co S.gen rfl (PySem.W.codeRec_of KX hcd) (hb _ _ _ _ ?_)
  refine wpAny_newFunctionEnv_cells S.kind hkind fun env he s1 xx => ?_
  subst he
  refine ⟨lim.keeps xx.toInCall.keep, codeAny_func ?_⟩
  obtain ⟨td, ht, hq⟩ := h f cdv A outer s H E
  have I : Inv (cxOf CX0 P w K mg base N qual (defScope st) f cdv A outer s H E) [] (start N [V.ref x]) H s1 := inv_start S hr.hd e0 (by rw [hps]; rfl) r xx
  refine wpAny_mono (ht.run [] s1 (start N [V.ref x]) H { nx := fun _ H' => Q .non H', rt := Q } I ?_) (fun fl s' hs => ?_) fun e s' hs => hs
  · show td _ _ _
    exact hq _ _ _ x d C dx fs o kvs (by match N, hN with | [n0], _ => rfl) hx hC hA hl hd q
  have fin : ∀ {σ' : St} {H' : Hp} {v : V} {u : Value}, Inv (cxOf CX0 P w K mg base N qual (defScope st) f cdv A outer s H E) [] σ' H' s' → RelV v u → Q v H' → CE outer P w H s Q u s' :=
    fun {σ' H' v u} J rv q => ⟨v, H', J.os, J.bare, J.base, J.hok, rv, q⟩
  cases fl with
  | ret u =>
    obtain ⟨v, σ', H', J, rv, q⟩ := hs
    exact fin J rv q
  | next =>
    obtain ⟨σ', H', J, q⟩ := hs
    exact fin (v := V.non) (u := Value.none) J rfl q
  | brk =>
    obtain ⟨_, _, _, q⟩ := hs
    exact False.elim q
  | cont =>
    obtain ⟨_, _, _, q⟩ := hs
    exact False.elim q
def iOwnK (K : PySem.W.Frag) (C : Addr) (fld : Str) (td : TE) : TI := fun σ H R => td σ H fun x H1 => ∃ a dx fs d o kvs, x = .ref a ∧ H1 a = some (.ins C dx fs) ∧ fs.lookup fld = some (.ref d) ∧ H1 d = some (.frz o (.dK kvs)) ∧ R (Itk d o kvs) H1
theorem pi_ownK {X : Cx} {tg e : Expr} {td : TE} {C f : Addr} {fd : FuncData} {fld : Str} {ps : List Str} (hr : Room 1 X.A) (hC : Cls X.K C) (hA : NoAttr X.K C fld) (hit : PySem.W.findIn X.K (.ref C) "__iter__" = some (some (.ref f))) (hfn : PySem.W.isFn X.K (.ref f) = true) (hb : Binds X.K fd ps []) (hps : ps.length = 1)
    (R : RunIt X.prog X.w X.K X.mg X.base fld f fd ps) (he : PE X e td) : PI X tg e (iOwnK X.K C fld td) := by
  refine ⟨fun pins s σ H R' I h => ?_⟩
  refine thn (he.run pins s σ H _ I h) fun u s1 ⟨x, H1, I1, rx, a, dx, fs, d, o, kvs, ex, ha, hl, hd, q⟩ => ?_
  subst ex
  obtain rfl : u = Value.ref a := rx
  obtain ⟨mA, J, _⟩ := ins_get I1.hok ha
  obtain ⟨od, J, _⟩ := J.look
  obtain ⟨m, hF⟩ := I1.fr
  refine PySem.W.owit_iter hF I1.ok.mod.kin J hit hfn ?_
  refine wpAny_call (codeAny_mono (R X.A X.stack s1 H1 [.ref a] a d C dx fs o kvs (fun v H' => ∃ it, s1.heap.objs.size ≤ it ∧ H1 it = none ∧ v = .ref it ∧ H' = upd H1 it (ItK it d o kvs)) E0 hr I1.env0 (.cons rfl .nil) (by
    have := hb s1 [.ref a] I1.kIn (by rw [hps]; rfl)
    rw [List.append_nil] at this
    exact this) ha hC hA hl hd fun it h1 h2 => ⟨it, h1, h2, rfl, rfl⟩) fun r s' hq => ?_)
  cases r with
  | error e => exact False.elim hq
  | ok fl =>
    cases fl with
    | next => exact False.elim hq
    | brk => exact False.elim hq
    | cont => exact False.elim hq
    | ret u =>
      obtain ⟨v, H', I', rv, it, hsz, hn, rfl, rfl⟩ := I1.after hq
      cases rv
      have hok := I'.hok it _ upd_same
      obtain ⟨⟨es, ep, hdt, st⟩, _, _⟩ := hok
      have hT : s'.TypeIs (.ref it) "dict_keyiterator" := let ⟨oi, e, c, dd⟩ := st; ⟨oi, e, c⟩
      unfold PySem.W.OwitIt
      refine wpAny_specialOf (name := Str.ofString "__next__") hT PySem.F.slot_dict_keyiterator_next.lookup ?_
      have I2 := ItX.inv_drop I' upd_same
      have fp := ItX.inv_fp I' upd_same (Nat.le_trans I1.sz hsz)
      rw [ItX.dropH_upd hn] at I2 fp
      refine ⟨it, [it], _, Itk d o kvs, H1, rfl, I2, turn_keys it hdt, st, fun b hb => ?_, q⟩
      have e : b = it := by simpa using hb
      rw [e]
      exact fp
/-- the keys of the dict that stands in o's field -/
def ownK (c fld : Str) (x : D) : M (List D) := fun _ ω => match view ω x with
  | some (.obj c' fs) => if c' = c then (match fs.lookup fld with
    | some (.oid k) => match ω[k]? with
      | some (.ldc kvs) => some (.val (kvs.map fun kv => dKey kv.1) ω)
      | _ => none
    | _ => none) else none
  | _ => none
theorem ownK_some {c fld : Str} {x : D} {ρ : Rho} {ω : List Cell} {r : R (List D)} (h : ownK c fld x ρ ω = some r) : ∃ fs k kvs, view ω x = some (.obj c fs) ∧ fs.lookup fld = some (.oid k) ∧ ω[k]? = some (.ldc kvs) ∧ r = .val (kvs.map fun kv => dKey kv.1) ω := by
  unfold ownK at h
  cases q : view ω x with
  | none => simp only [q] at h; cases h
  | some d =>
    cases d with
    | obj c' fs =>
      simp only [q] at h
      split at h
      · rename_i hc
        subst hc
        cases q2 : fs.lookup fld with
        | none => simp only [q2] at h; cases h
        | some d2 =>
          cases d2 with
          | oid k =>
            simp only [q2] at h
            cases q3 : ω[k]? with
            | none => simp only [q3] at h; cases h
            | some c3 =>
              cases c3 with
              | ldc kvs => simp only [q3] at h; cases h; exact ⟨fs, k, kvs, rfl, q2, q3, rfl⟩
              | _ => simp only [q3] at h; cases h
          | _ => simp only [q2] at h; cases h
      · cases h
    | _ => simp only [q] at h; cases h
section
variable {X : Cx} {W : WX} {tg e : Expr} {f : M D} {c fld : Str} {ps : List Str} {j : Nat}
theorem di_ownK {stay : Cnd → Prop} (hst : ∀ (a : Addr) (o : Obj) (vs : List (Key × V)), stay fun _ _ H => H a = some (.frz o (.dK vs))) (ci : CalIt X.prog X.w X.K X.mg X.base c fld ps) (hps : ps.length = 1) (hr : Room j X.A) (hj : 1 ≤ j) (he : PE X e (tM ⟨X.K, X.mg⟩ rD W f)) : PI X tg e (tI ⟨X.K, X.mg⟩ W stay (f.bind (ownK c fld))) := by
  obtain ⟨C, fn, fd, h1, h2, h3, ⟨h4, h5⟩, h6, h7⟩ := ci.ex
  refine (pi_ownK (hr.mono hj) h2 h3 h4 h5 h6 hps h7 he).dl ?_
  rintro σ H Q ⟨H0, A, B, ρ, ω, r, fm, e, res⟩
  refine tM_mono (tI_bind fm e res) fun x H1 ⟨A1, B1, ω1, d1, t1, fm1, r1, e1⟩ => ?_
  obtain ⟨fs, k, kvs, ev, hl, hk, rfl⟩ := ownK_some e1
  obtain ⟨a, C', dx, vs, rfl, hp, hc, l⟩ := Vw.of r1 fm1.wo ev
  have hC : C' = C := by
    have : (some (Value.ref C') : Option Value) = some (.ref C) := hc.symm.trans h1
    cases this; rfl
  subst hC
  obtain ⟨u, hu, du⟩ := l.look hl
  obtain ⟨d, o, ws, rfl, ha, hd, lk⟩ := ldc_at fm1.wo hk du
  refine ⟨a, dx, vs, d, o, ws, rfl, hp, hu, hd, ?_⟩
  have res' := res (Itk d o ws) (fun _ _ H => H d = some (.frz o (.dK ws))) A1 B1 H1 t1 fm1.wo
  rw [lk.keyM] at res'
  exact res' itb_keys (hst d o ws) hd
theorem di_ownM (ci : CalIt X.prog X.w X.K X.mg X.base c fld ps) (hps : ps.length = 1) (hr : Room j X.A) (hj : 1 ≤ j) (he : PE X e (tM ⟨X.K, X.mg⟩ rD W f)) : PI X tg e (tI ⟨X.K, X.mg⟩ W stayM (f.bind (ownK c fld))) := di_ownK (fun a o vs A B H A' B' H' m c => m.frz a o _ c) ci hps hr hj he
theorem di_ownS (ci : CalIt X.prog X.w X.K X.mg X.base c fld ps) (hps : ps.length = 1) (hr : Room j X.A) (hj : 1 ≤ j) (he : PE X e (tM ⟨X.K, X.mg⟩ rD W f)) : PI X tg e (tI ⟨X.K, X.mg⟩ W stayS (f.bind (ownK c fld))) := di_ownK (fun a o vs A B H A' B' H' _ m c => m.frz a o _ c) ci hps hr hj he
end
end DL
/-! DL38: dict comprehensions; min of texts. -/
namespace DL
open PySem L2
def dcGo (vs : List Nat) (T : TT1) (t : M Bool) (fk fv : M D) (ρ : Rho) : List D → List (Key × D) → List Cell → Option (List (Key × D) × List Cell)
  | [], acc, ω => some (acc, ω)
  | d :: ds, acc, ω => match T d (wipeE ρ vs) ω with
    | none => none
    | some ρ2 => match t ρ2 ω with
      | some (.val true ω1) => match fk ρ2 ω1 with
        | some (.val y ω2) => match fv ρ2 ω2 with
          | some (.val z ω3) => match keyD y with
            | some k => if acc.length < 1000 then dcGo vs T t fk fv ρ ds (putKD acc k z) ω3 else none
            | none => none
          | _ => none
        | _ => none
      | some (.val false ω1) => dcGo vs T t fk fv ρ ds acc ω1
      | _ => none
def dcM (vs : List Nat) (src : M (List D)) (T : TT1) (t : M Bool) (fk fv : M D) : M D := src.bind fun items ρ ω => match dcGo vs T t fk fv ρ items [] ω with
  | some (kvs, ω') => some (.val (.oid ω'.length) (ω' ++ [Cell.dic kvs]))
  | none => none
/-- a dict that has just been made becomes a thing of the store -/
theorem store_dic {g : G} {A : Ad} {B : Addr → Prop} {H : Hp} {ω : List Cell} {p : Addr} {vs : List (Key × V)} {ds : List (Key × D)} (w : Wo g A B H ω) (hp : H p = some (.dK vs)) (l : DpK g A B H vs ds) (hb : B p) (nl : ¬ Liv A p) :
    Wo g (A ++ [some p]) B H (ω ++ [.dic ds]) ∧ ∀ (A0 : Ad) (B0 : Addr → Prop) (H0 : Hp), Stp A0 B0 H0 A B H → H0 p = none → Stp A0 B0 H0 (A ++ [some p]) B H := by
  have ap : ∀ (k : Nat) (x : Option Addr), A[k]? = some x → (A ++ [some p])[k]? = some x := fun k x e => by rw [List.getElem?_append_left (List.getElem?_eq_some_iff.mp e).1]; exact e
  have m : Mv A B H (A ++ [some p]) B H := ⟨fun a o n e => ⟨e, n⟩, fun k x e => .inl (ap k x e), fun _ _ _ h => h⟩
  refine ⟨⟨by simp [w.len], fun i j a ei ej => ?_, fun a z => ?_, w.bnd, fun k c e => ?_⟩, fun A0 B0 H0 s h0 => ⟨s.keep, s.old, fun a z => ?_, fun k x e => ?_, s.trk, s.frz⟩⟩
  · have fix : ∀ (i : Nat) (a : Addr), (A ++ [some p])[i]? = some (some a) → (A[i]? = some (some a)) ∨ (i = A.length ∧ a = p) := fun i a e => by
      by_cases h : i < A.length
      · rw [List.getElem?_append_left h] at e; exact .inl e
      · rw [List.getElem?_append_right (Nat.le_of_not_lt h)] at e
        have hi : i - A.length = 0 := by
          cases q : i - A.length with
          | zero => rfl
          | succ n => rw [q] at e; simp at e
        rw [hi] at e
        have : p = a := by simpa using e
        exact .inr ⟨by omega, this.symm⟩
    rcases fix i a ei with h1 | ⟨h1, h2⟩
    · rcases fix j a ej with h3 | ⟨h3, h4⟩
      · exact w.inj i j a h1 h3
      · exact (nl (by rw [← h4]; exact Liv.of h1)).elim
    · rcases fix j a ej with h3 | ⟨h3, h4⟩
      · exact (nl (by rw [← h2]; exact Liv.of h3)).elim
      · rw [h1, h3]
  · rcases List.mem_append.mp z with z | z
    · exact w.liv a z
    · have : a = p := by simpa using z
      rw [this]; exact hb
  · by_cases h : k < ω.length
    · rw [List.getElem?_append_left h] at e
      rcases w.cell k c e with ⟨h1, h2⟩ | ⟨a, h1, h2⟩
      · exact .inl ⟨h1, ap _ _ h2⟩
      · exact .inr ⟨a, ap _ _ h1, h2.mv m fun o e => e⟩
    · rw [List.getElem?_append_right (Nat.le_of_not_lt h)] at e
      have hk : k - ω.length = 0 := by
        cases q : k - ω.length with
        | zero => rfl
        | succ n => rw [q] at e; simp at e
      rw [hk] at e
      have ec : Cell.dic ds = c := by simpa using e
      subst ec
      have ek : k = A.length := by rw [w.len]; omega
      exact .inr ⟨p, by rw [ek]; simp, vs, hp, DpK.mv m _ _ l⟩
  · rcases List.mem_append.mp z with z | z
    · exact s.new a z
    · have : a = p := by simpa using z
      exact .inr (by rw [this]; exact h0)
  · rcases s.ids k x e with q | q
    · exact .inl (ap _ _ q)
    · exact .inr (ap _ _ q)
section
variable {g : G} {W : WX} {A A' : Ad} {B B' : Addr → Prop} {H H' H0 : Hp} {ω ω' : List Cell} {σ : St} {ρ : Rho}
theorem tDc_of {src : M (List D)} {T : TT1} {t : M Bool} {fk fv : M D} {is vs : List Nat} (hv : ∀ i ∈ is, i ∈ vs) : ∀ σ H Q, tM g rD W (dcM vs src T t fk fv) σ H Q → tDc (tI g W stayS src) (tGM g is T) (tM g rB W0 t) (tM g rD W0 fk) (tM g rD W0 fv) vs σ H Q := by
  rintro σ H Q ⟨H0, A, B, ρ, ω, r, fm, e, res⟩
  unfold dcM M.bind at e
  cases q : src ρ ω with
  | none => rw [q] at e; cases e
  | some z =>
    rw [q] at e
    cases z with
    | exc x ω' =>
      cases e
      exact ⟨H0, A, B, ρ, ω, _, fm, q, res⟩
    | val items ω1 =>
      refine ⟨H0, A, B, ρ, ω, _, fm, q, fun J C A1 B1 H1 t1 w1 ib hC c => ?_⟩
      intro L hL
      simp only at e
      cases q2 : dcGo vs T t fk fv ρ items [] ω1 with
      | none => simp only [q2] at e; cases e
      | some z =>
        obtain ⟨out, ω9⟩ := z
        simp only [q2] at e
        cases e
        have fm1 := fm.up t1 w1
        have hL0 : H L = none := t1.none hL
        have no : ∀ (i : Nat) (ds : List D), ρ[i]? = some (.ow ds) → σ[i]? ≠ some (some (.ref L)) := fun i ds ei z => by
          obtain ⟨p, ws, e1, e2, _⟩ := fm.sl.val i _ ei
          rw [z] at e1
          cases e1
          rw [hL0] at e2; cases e2
        refine ⟨fun i m H' => m = items.length - i ∧ i ≤ items.length ∧ ∃ A' B' ω' acc ws, Stp A1 B1 H1 A' B' H' ∧ Fm g H0 A' B' H' ω' σ ρ ∧ H' L = some (.dK ws) ∧ DpK g A' B' H' ws acc ∧ B' L ∧ ¬ Liv A' L ∧ dcGo vs T t fk fv ρ (items.drop i) acc ω' = some (out, ω9),
          ⟨_, rfl, Nat.zero_le _, A1, _, ω1, [], [], (Stp.refl A1 B1 H1).alloc hL, fm1.up ((Stp.refl A1 B1 H1).alloc hL) (w1.plus hL), upd_same, .nil, .inr rfl, fun z => w1.nb hL (w1.liv L z), q2⟩, ?_⟩
        rintro i m H' ⟨rfl, hi, A', B', ω', acc, ws, s', fm', hLs, l, hb, nl, e⟩
        have c' : C A' B' H' := hC _ _ _ _ _ _ w1.liv s' c
        by_cases hlt : i < items.length
        · refine .inr ⟨ib.go A' B' H' i c' hlt, fun H' => ∃ A' B' ω' acc ws, Stp A1 B1 H1 A' B' H' ∧ Fm g H0 A' B' H' ω' σ ρ ∧ H' L = some (.dK ws) ∧ DpK g A' B' H' ws acc ∧ B' L ∧ ¬ Liv A' L ∧ dcGo vs T t fk fv ρ (items.drop (i + 1)) acc ω' = some (out, ω9), fun H' p => ⟨_, by omega, rfl, hlt, p⟩, fun x H2 y => ?_⟩
          obtain ⟨d, hd, t2, w2, dp⟩ := ib.yld A' B' H' ω' i x H2 fm'.wo c' hlt y
          rw [drop_cons hd] at e
          unfold dcGo at e
          have fm2 := fm'.up t2 w2
          cases qT : T d (wipeE ρ vs) ω' with
          | none => simp only [qT] at e; cases e
          | some ρ2 =>
            simp only [qT] at e
            refine ⟨H0, A', B', wipeE ρ vs, ω', d, ρ2, ⟨fm2.wo, fm2.sl.wipe vs⟩, dp, qT, fun σ2 fm3 so => ⟨?_, ?_⟩⟩
            · rw [so.wipe hv]
              apply List.ext_getElem?
              intro j
              by_cases hj : j ∈ vs
              · rw [wipe_in hj, wipe_in hj, wipe_length]
              · rw [wipe_notin hj]
            cases qt : t ρ2 ω' with
            | none => simp only [qt] at e; cases e
            | some z =>
              cases z with
              | exc x ω5 => simp only [qt] at e; cases e
              | val b ω3 =>
                refine tM_val fm3 qt fun v A3 B3 H3 t3 w3 rl => ?_
                cases rl
                have fm4 := fm2.up t3 w3
                have fm4' := fm3.up t3 w3
                have hL2 : H2 L = some (.dK ws) := t2.keep L _ hLs nl
                have hL3 : H3 L = some (.dK ws) := t3.keep L _ hL2 nl
                have nl3 : ¬ Liv A3 L := fun z => by
                  rcases t3.new L z with z | z
                  · exact nl z
                  · rw [hL2] at z; cases z
                have hb3 : B3 L := (t3.old L _ hL2 nl).mpr hb
                have l3 : DpK g A3 B3 H3 ws acc := DpK.mv (fm2.wo.mv t3) _ _ (DpK.mv (fm'.wo.mv t2) _ _ l)
                have s3 := (s'.trans t2).trans t3
                cases b with
                | false =>
                  rw [if_neg Bool.false_ne_true]
                  simp only [qt] at e
                  exact ⟨A3, B3, ω3, acc, ws, s3, fm4, hL3, l3, hb3, nl3, e⟩
                | true =>
                  rw [if_pos rfl]
                  simp only [qt] at e
                  cases qk : fk ρ2 ω3 with
                  | none => simp only [qk] at e; cases e
                  | some z =>
                    cases z with
                    | exc x ω5 => simp only [qk] at e; cases e
                    | val yk ω5 =>
                      simp only [qk] at e
                      refine tM_val fm4' qk fun v A5 B5 H5 t5 w5 rl => ?_
                      cases qf : fv ρ2 ω5 with
                      | none => simp only [qf] at e; cases e
                      | some z =>
                        cases z with
                        | exc x ω7 => simp only [qf] at e; cases e
                        | val yv ω7 =>
                          simp only [qf] at e
                          cases kk : keyD yk with
                          | none => simp only [kk] at e; cases e
                          | some key =>
                            simp only [kk] at e
                            split at e
                            · rename_i hz
                              refine tM_val (fm4'.up t5 w5) qf fun v2 A7 B7 H7 t7 w7 rl7 => ?_
                              have hL5 : H5 L = some (.dK ws) := t5.keep L _ hL3 nl3
                              have nl5 : ¬ Liv A5 L := fun z => by
                                rcases t5.new L z with z | z
                                · exact nl3 z
                                · rw [hL3] at z; cases z
                              have hb5 : B5 L := (t5.old L _ hL3 nl3).mpr hb3
                              have hL7 : H7 L = some (.dK ws) := t7.keep L _ hL5 nl5
                              have nl7 : ¬ Liv A7 L := fun z => by
                                rcases t7.new L z with z | z
                                · exact nl5 z
                                · rw [hL5] at z; cases z
                              have hb7 : B7 L := (t7.old L _ hL5 nl5).mpr hb5
                              have l7 : DpK g A7 B7 H7 ws acc := DpK.mv ((fm4.up t5 w5).wo.mv t7) _ _ (DpK.mv (fm4.wo.mv t5) _ _ l3)
                              obtain ⟨fm8, m8⟩ := ((fm4.up t5 w5).up t7 w7).bump (o := .dK (putK ws key v2)) hb7 nl7 no (frz_not hL7)
                              refine ⟨ws, key, keyD_P kk rl, hL7, by rw [l7.len, sizeLine_eq]; omega, A7, B7, ω7, putKD acc key yv, putK ws key v2, ((s3.trans t5).trans t7).own hL nl7, fm8, upd_same, DpK.mv m8 _ _ (l7.put key rl7), hb7, nl7, e⟩
                            · cases e
        · have ei : i = items.length := by omega
          subst ei
          rw [List.drop_length] at e
          cases e
          obtain ⟨w2, s2⟩ := store_dic fm'.wo hLs l hb nl
          exact .inl ⟨ib.stop A' B' H' _ c' (Nat.le_refl _), res (.ref L) _ B' H' (t1.trans (s2 A1 B1 H1 s' hL)) w2 (.oid (by rw [← fm'.wo.len]; simp))⟩
end
section
variable {X : Cx} {g : G} {n : En} {W : WX} {kx vx tg iter : Expr} {ifs : List Expr} {scope : Scope} {own : List (Str × Nat)} {src : M (List D)} {T : TT1} {t : M Bool} {fk fv : M D} {is : List Nat} {pos : Pos}
theorem de_dc (hc : X.calm = true) (hN : X.N.Nodup) (hi : PI X tg iter (tI g W stayS src)) (ok : BlkOk X.N X.env.scope scope own) (hv : ∀ i ∈ is, i ∈ own.map (·.2))
    (hg : ∀ (s : Shared) (H : Hp) (C : Addr) (cl : List (Str × Addr)) (fp : List Addr), PG (X.blk s H scope (compEnvC scope cl C X.env) fp) tg (tGM g is T))
    (ht : ∀ (s : Shared) (H : Hp) (C : Addr) (cl : List (Str × Addr)) (fp : List Addr), PTs (X.blk s H scope (compEnvC scope cl C X.env) fp) ifs (tM g rB W0 t))
    (hk : ∀ (s : Shared) (H : Hp) (C : Addr) (cl : List (Str × Addr)) (fp : List Addr), PE (X.blk s H scope (compEnvC scope cl C X.env) fp) kx (tM g rD W0 fk))
    (he : ∀ (s : Shared) (H : Hp) (C : Addr) (cl : List (Str × Addr)) (fp : List Addr), PE (X.blk s H scope (compEnvC scope cl C X.env) fp) vx (tM g rD W0 fv)) (hs : ∀ x, foldedSetIterable iter X.env x = pure x := by intro _; rfl) :
    PE X (.DictComp kx vx [⟨tg, iter, ifs, 0⟩] scope pos) (tM g rD W (dcM (own.map (·.2)) src T t fk fv)) :=
  (pe_dc hc hN hi ok hg ht hk he hs).dl (tDc_of hv)
end
end DL
/-! DL39: append, extend, pop of any list of the store, as expressions. -/
namespace DL
open PySem L2
def setL (k : Nat) (c : Cell) (d : D) : M D := fun _ ω => some (.val d (ω.set k c))
def appM (fo fa : M D) : M D := fo.bind fun x => (isLst x).bind fun _ => fa.bind fun y => fun ρ ω => match x with
  | .oid k => match ω[k]? with
    | some (.lst ds) => if ds.length < 1000000 then some (.val .non (ω.set k (Cell.lst (ds ++ [y])))) else none
    | _ => none
  | _ => none
def extM (fo fa : M D) : M D := fo.bind fun x => (isLst x).bind fun _ => fa.bind fun y => fun ρ ω => match x with
  | .oid k => match ω[k]? with
    | some (.lst ds) => match view ω y with
      | some (.lst es) => if ds.length + es.length < 1000000 then some (.val .non (ω.set k (Cell.lst (ds ++ es)))) else none
      | _ => none
    | _ => none
  | _ => none
def popM (fo : M D) : M D := fo.bind fun x => fun ρ ω => match x with
  | .oid k => match ω[k]? with
    | some (.lst ds) => match ds[ds.length - 1]? with
      | some d => some (.val d (ω.set k (Cell.lst ds.dropLast)))
      | none => none
    | _ => none
  | _ => none
/-- a list of the store, where it lies -/
theorem lst_at {g : G} {A : Ad} {B : Addr → Prop} {H : Hp} {ω : List Cell} {v : V} {k : Nat} {ds : List D} (w : Wo g A B H ω) (hk : ω[k]? = some (.lst ds)) (h : Dp g A B H v (.oid k)) : ∃ a vs, v = .ref a ∧ A[k]? = some (some a) ∧ H a = some (.lst vs) ∧ DpL g A B H vs ds := by
  rcases w.cell k _ hk with ⟨z, _⟩ | ⟨a, ha, vs, h1, h2⟩
  · cases z
  · cases h with
    | oid e => rw [ha] at e; cases e; exact ⟨a, vs, rfl, ha, h1, h2⟩
    | ded e => rw [ha] at e; cases e
section
variable {X : Cx} {g : G} {W : WX} {e o : Expr} {fa fo : M D} {p pos apos : Pos}
theorem de_append (ho : PE X o (tM g rD W fo)) (ha : PE X e (tM g rD W fa)) (hbase : attributeBase o "append" X.env (eval o X.env) = eval o X.env := by rfl)
    (hfew : ((backTo pos (starEach [e] X.env)).all (fun x => !x.1) && (backToKw pos (keywordEach [] X.env)).all (fun x => x.1.isSome)
      && decide ([e].length + ([] : List Keyword).length + (if ([] : List Keyword).isEmpty then 0 else 1) < 30)) = true := by rfl)
    (hline : (apos.endLine == pos.line) = true := by rfl) (hst : starEach [e] X.env = (false, eval e X.env) :: starEach [] X.env := by rfl) (hplain : (backTo pos (starEach [] X.env)).any (·.1) = false := by rfl) :
    PE X (.Call (.Attribute o "append" apos) [e] [] pos) (tM g rD W (appM fo fa)) :=
  (pe_bm PySem.F.plainAttrs_list PySem.F.slot_list_append PySem.F.type_list_append mt_append ho (pa_cons ha pa_nil hst) hbase hfew hline hst hplain).dl fun σ H Q ⟨H0, A, B, ρ, ω, r, fm, e, res⟩ => by
    refine tM_mono (tM_bind fm e res) fun x H1 ⟨A1, B1, ω1, d1, t1, fm1, r1, e1, res1⟩ => ?_
    obtain ⟨ds0, ev0, e1⟩ := isLst_some e1
    obtain ⟨q0, vs0, rfl, hp0, l0⟩ := Vw.of r1 fm1.wo ev0
    refine ⟨.inl ⟨rfl, vs0, SqL.of hp0⟩, ?_⟩
    refine tM_mono (tM_bind fm1 e1 res1) fun y H2 ⟨A2, B2, ω2, d2, t2, fm2, r2, e2, res2⟩ => ?_
    cases d1 with
    | oid k =>
      simp only at e2
      cases q : ω2[k]? with
      | none => simp only [q] at e2; cases e2
      | some c =>
        cases c with
        | lst ds =>
          simp only [q] at e2
          split at e2
          · rename_i hz
            cases e2
            obtain ⟨a, vs, ea, ha2, hp, l⟩ := lst_at fm2.wo q (Dp.mv (fm1.wo.mv t2) _ _ r1)
            cases ea
            refine ⟨_, vs, y, rfl, rfl, hp, by rw [l.length, sizeLine_eq]; omega, ?_⟩
            obtain ⟨fm3, m3⟩ := fm2.cellW (u := .lst (vs ++ [y])) (c := .lst (ds ++ [d2])) ha2 (frz_not hp) fun H' _ hu m => ⟨_, hu, DpL.mv m _ _ (l.append (.cons r2 .nil))⟩
            exact res2 _ A2 B2 _ ((Stp.refl _ _ _).cellW (Liv.of ha2) (frz_not hp)) fm3.wo .non
          · cases e2
        | _ => simp only [q] at e2; cases e2
    | _ => simp only at e2; cases e2
theorem de_extend (ho : PE X o (tM g rD W fo)) (ha : PE X e (tM g rW W fa)) (hbase : attributeBase o "extend" X.env (eval o X.env) = eval o X.env := by rfl)
    (hfew : ((backTo pos (starEach [e] X.env)).all (fun x => !x.1) && (backToKw pos (keywordEach [] X.env)).all (fun x => x.1.isSome)
      && decide ([e].length + ([] : List Keyword).length + (if ([] : List Keyword).isEmpty then 0 else 1) < 30)) = true := by rfl)
    (hline : (apos.endLine == pos.line) = true := by rfl) (hst : starEach [e] X.env = (false, eval e X.env) :: starEach [] X.env := by rfl) (hplain : (backTo pos (starEach [] X.env)).any (·.1) = false := by rfl) :
    PE X (.Call (.Attribute o "extend" apos) [e] [] pos) (tM g rD W (extM fo fa)) :=
  (pe_bm PySem.F.plainAttrs_list PySem.F.slot_list_extend PySem.F.type_list_extend mt_extend ho (pa_cons ha pa_nil hst) hbase hfew hline hst hplain).dl fun σ H Q ⟨H0, A, B, ρ, ω, r, fm, e, res⟩ => by
    refine tM_mono (tM_bind fm e res) fun x H1 ⟨A1, B1, ω1, d1, t1, fm1, r1, e1, res1⟩ => ?_
    obtain ⟨ds0, ev0, e1⟩ := isLst_some e1
    obtain ⟨q0, vs0, rfl, hp0, l0⟩ := Vw.of r1 fm1.wo ev0
    refine ⟨.inl ⟨rfl, vs0, SqL.of hp0⟩, ?_⟩
    refine tM_mono (tM_bind fm1 e1 res1) fun y H2 ⟨A2, B2, ω2, d2, t2, fm2, r2, e2, res2⟩ => ?_
    cases d1 with
    | oid k =>
      simp only at e2
      cases q : ω2[k]? with
      | none => simp only [q] at e2; cases e2
      | some c =>
        cases c with
        | lst ds =>
          simp only [q] at e2
          cases q2 : view ω2 d2 with
          | none => simp only [q2] at e2; cases e2
          | some d2' =>
            cases d2' with
            | lst es =>
              simp only [q2] at e2
              split at e2
              · rename_i hz
                cases e2
                obtain ⟨b, ws, rfl, hb, lw⟩ := view_ok fm2.wo r2 q2
                obtain ⟨a, vs, ea, ha2, hp, l⟩ := lst_at fm2.wo q (Dp.mv (fm1.wo.mv t2) _ _ r1)
                cases ea
                refine ⟨_, b, vs, ws, rfl, rfl, hp, hb, by rw [l.length, lw.length, sizeLine_eq]; omega, ?_⟩
                obtain ⟨fm3, m3⟩ := fm2.cellW (u := .lst (vs ++ ws)) (c := .lst (ds ++ es)) ha2 (frz_not hp) fun H' _ hu m => ⟨_, hu, DpL.mv m _ _ (l.append lw)⟩
                exact res2 _ A2 B2 _ ((Stp.refl _ _ _).cellW (Liv.of ha2) (frz_not hp)) fm3.wo .non
              · cases e2
            | _ => simp only [q2] at e2; cases e2
        | _ => simp only [q] at e2; cases e2
    | _ => simp only at e2; cases e2
theorem de_pop (ho : PE X o (tM g rD W fo)) (hbase : attributeBase o "pop" X.env (eval o X.env) = eval o X.env := by rfl) (hline : (apos.endLine == pos.line) = true := by rfl) :
    PE X (.Call (.Attribute o "pop" apos) [] [] pos) (tM g rD W (popM fo)) :=
  (pe_bm0 PySem.F.plainAttrs_list PySem.F.slot_list_pop PySem.F.type_list_pop mt_pop ho hbase hline).dl fun σ H Q ⟨H0, A, B, ρ, ω, r, fm, e, res⟩ => by
    refine tM_mono (tM_bind fm e res) fun x H1 ⟨A1, B1, ω1, d1, t1, fm1, r1, e1, res1⟩ => ?_
    cases d1 with
    | oid k =>
      simp only at e1
      cases q : ω1[k]? with
      | none => simp only [q] at e1; cases e1
      | some c =>
        cases c with
        | lst ds =>
          simp only [q] at e1
          cases q2 : ds[ds.length - 1]? with
          | none => simp only [q2] at e1; cases e1
          | some d =>
            simp only [q2] at e1
            cases e1
            obtain ⟨a, vs, rfl, ha, hp, l⟩ := lst_at fm1.wo q r1
            obtain ⟨v, hv, dv⟩ := l.get q2
            refine ⟨.inl ⟨rfl, vs, SqL.of hp⟩, a, vs, v, rfl, rfl, hp, by rw [l.length]; exact hv, ?_⟩
            obtain ⟨fm3, m3⟩ := fm1.cellW (u := .lst vs.dropLast) (c := .lst ds.dropLast) ha (frz_not hp) fun H' _ hu m => ⟨_, hu, DpL.mv m _ _ l.dropLast⟩
            exact res1 _ A1 B1 _ ((Stp.refl _ _ _).cellW (Liv.of ha) (frz_not hp)) fm3.wo (Dp.mv m3 _ _ dv)
        | _ => simp only [q] at e1; cases e1
    | _ => simp only at e1; cases e1
end
end DL
/-! DL40: a list times a number. -/
namespace DL
open PySem L2
def mulLD : D → D → Option D
  | .lst ds, .int n => if 0 ≤ n ∧ n ≤ 1000 ∧ ds.length ≤ 1000 then some (.lst (List.replicate n.toNat ds).flatten) else none
  | _, _ => none
theorem DpL.rep {g : G} {A : Ad} {B : Addr → Prop} {H : Hp} {vs : List V} {ds : List D} (h : DpL g A B H vs ds) : ∀ n : Nat, DpL g A B H (List.replicate n vs).flatten (List.replicate n ds).flatten
  | 0 => .nil
  | n + 1 => by
    rw [List.replicate_succ, List.replicate_succ, List.flatten_cons, List.flatten_cons]
    exact h.append (DpL.rep h n)
section
variable {X : Cx} {g : G} {W : WX} {a b : Expr} {fa fb : M D} {pos : Pos}
theorem v_mulL : V2 g rRep mulLD := by
  intro A B H ω x y a b c Q w ha hb e q
  cases a with
  | lst ds =>
    cases b with
    | int n =>
      obtain ⟨p, vs, rfl, hp, l⟩ := ha
      cases hb
      simp only [mulLD] at e
      split at e
      · rename_i h
        cases e
        refine ⟨p, n, vs, rfl, rfl, hp, by omega, by omega, ?_, q.lst w (l.rep n.toNat)⟩
        rw [l.length, sizeLine_eq]
        have h1 : n.toNat ≤ 1000 := by omega
        have h2 : ds.length * n.toNat ≤ 1000 * 1000 := Nat.mul_le_mul h.2.2 h1
        omega
      · cases e
    | _ => cases e
  | _ => cases e
theorem de_mulL (ha : PE X a (tM g rW W fa)) (hb : PE X b (tM g rW W fb)) : PE X (.BinOp a .Mult b pos) (tM g rD W (bo mulLD fa fb)) := de_op op_rep v_mulL ha hb
end
theorem mulLD_ev {ds : List D} {n : Int} (h0 : 0 ≤ n) (h1 : n ≤ 1000) (h2 : ds.length ≤ 1000) : mulLD (.lst ds) (.int n) = some (.lst (List.replicate n.toNat ds).flatten) := if_pos ⟨h0, h1, h2⟩
end DL
noncomputable section
namespace L11
open PySem L2 DL
def ca_NoName : List (Str × Bool) := [("BadTerm", false), ("Endless", false), ("NoMachine", false), ("NoName", true), ("WrongCount", false)]
def ca_NoMachine : List (Str × Bool) := [("BadTerm", false), ("Endless", false), ("NoMachine", true), ("NoName", false), ("WrongCount", false)]
def ca_BadTerm : List (Str × Bool) := [("BadTerm", true), ("Endless", false), ("NoMachine", false), ("NoName", false), ("WrongCount", false)]
/-- the built-ins that the text leaves as they are, the classes' fields -/
structure Blt (K : PySem.W.Frag) (mg : Str → Option Value) : Prop where
  tt : True
  b_abs : mg "abs" = none
  b_all : mg "all" = none
  b_bool : mg "bool" = none
  b_dict : mg "dict" = none
  b_int : mg "int" = none
  b_isinstance : mg "isinstance" = none
  b_iter : mg "iter" = none
  b_len : mg "len" = none
  b_list : mg "list" = none
  b_max : mg "max" = none
  b_range : mg "range" = none
  b_set : mg "set" = none
  b_sorted : mg "sorted" = none
  b_str : mg "str" = none
  b_tuple : mg "tuple" = none
  f_body : ClFs K mg "body" ["Definition"]
  f_channel_rows : ClFs K mg "channel_rows" ["Program"]
  f_depth : ClFs K mg "depth" ["Process"]
  f_kind : ClFs K mg "kind" ["Process"]
  f_known : ClFs K mg "known" ["Program"]
  f_machines : ClFs K mg "machines" ["Program"]
  f_params : ClFs K mg "params" ["Definition"]
  f_parts : ClFs K mg "parts" ["Process"]
  f_rows : ClFs K mg "rows" ["Book", "Net"]
  f_size : ClFs K mg "size" ["Process"]
  f_starts : ClFs K mg "starts" ["Program"]
  sq_Book : SqF K mg "Book"
  g_RESERVED : GlT K mg "RESERVED" ["stop", "new", "if", "then", "else", "put", "get", "channel", "at", "define", "start"]
  c_DIGITS : ∃ t, mg "DIGITS" = some (.str "0123456789" t)
  c_LETTERS : ∃ t, mg "LETTERS" = some (.str "abcdefghijklmnopqrstuvwxyz" t)
  c_MOST_CHANNELS : ∃ t, mg "MOST_CHANNELS" = some (.int 8 t)
  c_MOST_DEFINITIONS : ∃ t, mg "MOST_DEFINITIONS" = some (.int 12 t)
  c_MOST_DEPTH : ∃ t, mg "MOST_DEPTH" = some (.int 20 t)
  c_MOST_MACHINES : ∃ t, mg "MOST_MACHINES" = some (.int 6 t)
  c_MOST_OPERANDS : ∃ t, mg "MOST_OPERANDS" = some (.int 4 t)
  c_MOST_PARAMS : ∃ t, mg "MOST_PARAMS" = some (.int 4 t)
  c_MOST_SEATS : ∃ t, mg "MOST_SEATS" = some (.int 4 t)
  c_MOST_SIGNS : ∃ t, mg "MOST_SIGNS" = some (.int 8 t)
  c_MOST_SIZE : ∃ t, mg "MOST_SIZE" = some (.int 400 t)
  c_VALUE_LIMIT : ∃ t, mg "VALUE_LIMIT" = some (.int 1000000000000000000000000000000 t)
  se_SeatsError : SeI K mg "SeatsError"
  ca_BadTerm : CatF K mg "BadTerm" ca_BadTerm
  ca_NoMachine : CatF K mg "NoMachine" ca_NoMachine
  ca_NoName : CatF K mg "NoName" ca_NoName
  xf_BadTerm : XfF K mg "BadTerm" "field"
  xf_NoMachine : XfF K mg "NoMachine" "machine"
  xf_NoName : XfF K mg "NoName" "name"
def top (i : Nat) : Stmt := PySem.Challenge.pw_fullseats_k11_channels_checked.main.body.getD i (.Pass ⟨0, 0, 0, 0⟩)

/-! ### BadTerm -/
abbrev s_x_BadTerm : Stmt := inClass (top 3) 0
abbrev P_x_BadTerm : List Str := ["self", "field"]
theorem sc_x_BadTerm : FnScope P_x_BadTerm P_x_BadTerm (defScope s_x_BadTerm) := ⟨rfl, rfl, rfl, by decide +kernel, rfl, by decide +kernel, by decide +kernel⟩
theorem kx_BadTerm {P : Program} {w : World} {K : PySem.W.Frag} {mg : Str → Option Value} {base : Heap} (T : FX K mg "BadTerm" "field" "BadTerm.__init__" s_x_BadTerm) (S : SeI K mg "SeatsError") : CalX P w K mg base "BadTerm" "field" P_x_BadTerm 1 :=
  calX_of (m := "term not allowed") T sc_x_BadTerm rfl rfl (fun a fd F => F.binds (ps := P_x_BadTerm) fun _ _ _ _ _ _ us hl => match us, hl with | [_, _], _ => rfl) fun fI cdv A outer s H E => pss_cons (ps_expr (pe_seinit S rfl (pa_cons (pv 0) (pa_cons pe_str pa_nil)))) (pss_one (ps_ost (pv 0) (pv 1)))

/-! ### Endless -/
abbrev s_x_Endless : Stmt := inClass (top 6) 0
abbrev P_x_Endless : List Str := ["self", "name"]
theorem sc_x_Endless : FnScope P_x_Endless P_x_Endless (defScope s_x_Endless) := ⟨rfl, rfl, rfl, by decide +kernel, rfl, by decide +kernel, by decide +kernel⟩
theorem kx_Endless {P : Program} {w : World} {K : PySem.W.Frag} {mg : Str → Option Value} {base : Heap} (T : FX K mg "Endless" "name" "Endless.__init__" s_x_Endless) (S : SeI K mg "SeatsError") : CalX P w K mg base "Endless" "name" P_x_Endless 1 :=
  calX_of (m := "endless definition") T sc_x_Endless rfl rfl (fun a fd F => F.binds (ps := P_x_Endless) fun _ _ _ _ _ _ us hl => match us, hl with | [_, _], _ => rfl) fun fI cdv A outer s H E => pss_cons (ps_expr (pe_seinit S rfl (pa_cons (pv 0) (pa_cons pe_str pa_nil)))) (pss_one (ps_ost (pv 0) (pv 1)))

/-! ### NoMachine -/
abbrev s_x_NoMachine : Stmt := inClass (top 8) 0
abbrev P_x_NoMachine : List Str := ["self", "machine"]
theorem sc_x_NoMachine : FnScope P_x_NoMachine P_x_NoMachine (defScope s_x_NoMachine) := ⟨rfl, rfl, rfl, by decide +kernel, rfl, by decide +kernel, by decide +kernel⟩
theorem kx_NoMachine {P : Program} {w : World} {K : PySem.W.Frag} {mg : Str → Option Value} {base : Heap} (T : FX K mg "NoMachine" "machine" "NoMachine.__init__" s_x_NoMachine) (S : SeI K mg "SeatsError") : CalX P w K mg base "NoMachine" "machine" P_x_NoMachine 1 :=
  calX_of (m := "no such machine") T sc_x_NoMachine rfl rfl (fun a fd F => F.binds (ps := P_x_NoMachine) fun _ _ _ _ _ _ us hl => match us, hl with | [_, _], _ => rfl) fun fI cdv A outer s H E => pss_cons (ps_expr (pe_seinit S rfl (pa_cons (pv 0) (pa_cons pe_str pa_nil)))) (pss_one (ps_ost (pv 0) (pv 1)))

/-! ### NoName -/
abbrev s_x_NoName : Stmt := inClass (top 4) 0
abbrev P_x_NoName : List Str := ["self", "name"]
theorem sc_x_NoName : FnScope P_x_NoName P_x_NoName (defScope s_x_NoName) := ⟨rfl, rfl, rfl, by decide +kernel, rfl, by decide +kernel, by decide +kernel⟩
theorem kx_NoName {P : Program} {w : World} {K : PySem.W.Frag} {mg : Str → Option Value} {base : Heap} (T : FX K mg "NoName" "name" "NoName.__init__" s_x_NoName) (S : SeI K mg "SeatsError") : CalX P w K mg base "NoName" "name" P_x_NoName 1 :=
  calX_of (m := "unknown name") T sc_x_NoName rfl rfl (fun a fd F => F.binds (ps := P_x_NoName) fun _ _ _ _ _ _ us hl => match us, hl with | [_, _], _ => rfl) fun fI cdv A outer s H E => pss_cons (ps_expr (pe_seinit S rfl (pa_cons (pv 0) (pa_cons pe_str pa_nil)))) (pss_one (ps_ost (pv 0) (pv 1)))

/-! ### WrongCount -/
abbrev s_x_WrongCount : Stmt := inClass (top 5) 0
abbrev P_x_WrongCount : List Str := ["self", "name"]
theorem sc_x_WrongCount : FnScope P_x_WrongCount P_x_WrongCount (defScope s_x_WrongCount) := ⟨rfl, rfl, rfl, by decide +kernel, rfl, by decide +kernel, by decide +kernel⟩
theorem kx_WrongCount {P : Program} {w : World} {K : PySem.W.Frag} {mg : Str → Option Value} {base : Heap} (T : FX K mg "WrongCount" "name" "WrongCount.__init__" s_x_WrongCount) (S : SeI K mg "SeatsError") : CalX P w K mg base "WrongCount" "name" P_x_WrongCount 1 :=
  calX_of (m := "wrong number of operands") T sc_x_WrongCount rfl rfl (fun a fd F => F.binds (ps := P_x_WrongCount) fun _ _ _ _ _ _ us hl => match us, hl with | [_, _], _ => rfl) fun fI cdv A outer s H E => pss_cons (ps_expr (pe_seinit S rfl (pa_cons (pv 0) (pa_cons pe_str pa_nil)))) (pss_one (ps_ost (pv 0) (pv 1)))

/-! ### Book.__iter__ -/
abbrev s_it_Book : Stmt := inClass (top 23) 2
abbrev P_it_Book : List Str := ["self"]
theorem sc_it_Book : FnScope P_it_Book P_it_Book (defScope s_it_Book) := ⟨rfl, rfl, rfl, by decide +kernel, rfl, by decide +kernel, by decide +kernel⟩
theorem ki_Book {P : Program} {w : World} {K : PySem.W.Frag} {mg : Str → Option Value} {base : Heap} (T : FIt K mg "Book" "rows" "Book.__iter__" s_it_Book) (B : Blt K mg) : CalIt P w K mg base "Book" "rows" P_it_Book :=
  calIt_of T sc_it_Book rfl rfl (fun a fd F => F.binds (ps := P_it_Book) fun _ _ _ _ _ _ us hl => match us, hl with | [_], _ => rfl) fun f cdv A outer s H E => ⟨_, pss_one (ps_ret (pe_callB call_iterK rfl B.b_iter (by decide +kernel) (pa_cons (pe_fld (pv 0) rfl) pa_nil rfl))), fun σ H Q x d C dx fs o kvs h1 h2 h3 h4 h5 h6 h7 => ⟨.ref x, h1, x, C, dx, fs, .ref d, rfl, h2, h3, h4, h5, d, o, kvs, rfl, h6, h7⟩⟩

/-! ### Book() -/
abbrev s_mk0_Book : Stmt := inClass (top 23) 0
abbrev P_mk0_Book : List Str := ["self", "rows"]
theorem sc_mk0_Book : FnScope P_mk0_Book P_mk0_Book (defScope s_mk0_Book) := ⟨rfl, rfl, rfl, by decide +kernel, rfl, by decide +kernel, by decide +kernel⟩
theorem k0_Book {P : Program} {w : World} {K : PySem.W.Frag} {mg : Str → Option Value} {base : Heap} (T : FI0 K mg "Book" "rows" "Book.__init__" s_mk0_Book) (B : Blt K mg) : CalG0 P w K mg base "Book" "rows" P_mk0_Book 1 :=
  calG0_of T sc_mk0_Book rfl rfl (fun a fd T0 F => F.binds1 1 0 (by simp) rfl fun T kV doc pm an cdv ct us its hu hi => match us, its, hu, hi with | [_], [_], _, _ => ⟨_, rfl, rfl⟩) fun T0 fI cdv A outer s H E h0 => ⟨_, pss_one (ps_fld (pv 0) (pe_callTy (call_dictT rfl h0) rfl B.b_dict (by decide +kernel) (pa_cons (pv 1) pa_nil rfl)) rfl), fun σ H Q h1 h2 => ⟨.ref T0, h1, rfl, h2⟩⟩

/-! ### is_name -/
abbrev s_is_name : Stmt := top 15
abbrev N_is_name : List Str := ["text", "sign"]
abbrev P_is_name : List Str := ["text"]
theorem sc_is_name : FnScope N_is_name P_is_name (defScope s_is_name) := ⟨rfl, rfl, rfl, by decide +kernel, rfl, by decide +kernel, by decide +kernel⟩
def cm_is_name_1  : M (List D) :=
  (lcM [1] ((vW 0).bind itemsOf) (nmT 1) (M.pure true) (orV (bo inD (vW 1) (M.pure (.str "abcdefghijklmnopqrstuvwxyz"))) (bo inD (vW 1) (M.pure (.str "0123456789")))))
def b_is_name  : MS :=
  (seqS (ifS (orM (notM (truM (uo (isiB "str") (vW 0)))) (orM (tst (bo ltD (uo lenD (vW 0)) (M.pure (.int 1)))) (orM (tst (bo gtD (uo lenD (vW 0)) (M.pure (.int 8)))) (tst (bo inD (vW 0) (M.pure (.tup ((["stop", "new", "if", "then", "else", "put", "get", "channel", "at", "define", "start"] : List Str).map D.str)))))))) (retS (M.pure (.bl false))) (fun ρ ω => some (.nx ρ ω)))
  (retS (andV (bo inD (bo ixD (vW 0) (M.pure (.int 0))) (M.pure (.str "abcdefghijklmnopqrstuvwxyz"))) (uo allD (cm_is_name_1.bind fun ds => M.pure (.lst ds))))))
theorem d_is_name {P : Program} {w : World} {K : PySem.W.Frag} {mg : Str → Option Value} {base : Heap}  {a : Addr} {cdv : Value} {A : Around} {outer : List PySem.Env} {s : Shared} {H : Hp} {E : XK} (n : En) (B : Blt K mg)
    (hr : Room 0 (A.deeper (PyProof.Rows.envOfC "is_name" (defScope s_is_name) s.heap.objs.size a cdv))) :
    PSs (cxOf (L2.CX P w) P w K mg base N_is_name "is_name" (defScope s_is_name) a cdv A outer s H E) (defBody s_is_name) (tS ⟨K, mg⟩ n (fun cls d _ H => E cls d H) (b_is_name)) := by
  unfold b_is_name
  have tk := takes_of (X := (cxOf (L2.CX P w) P w K mg base N_is_name "is_name" (defScope s_is_name) a cdv A outer s H E)) (E := E) rfl rfl rfl rfl
  have pw := passes_of (X := (cxOf (L2.CX P w) P w K mg base N_is_name "is_name" (defScope s_is_name) a cdv A outer s H E)) rfl
  exact (dss_cons (ds_if (dt_w (dw_or (dt_not (dt_truth rfl (dw (de_isiB rfl B.b_isinstance rfl B.b_str (by decide +kernel) (dw_v 0))))) (dw_or (dt_lt (dw (de_len rfl rfl B.b_len (dw_v 0))) (dw de_int)) (dw_or (dt_gt (dw (de_len rfl rfl B.b_len (dw_v 0))) (dw (de_globI B.c_MOST_SIGNS rfl))) (dw_or1 (dt_in rfl hr (dw_v 0) (dw (de_globT B.g_RESERVED rfl)))))))) (dss_one (ds_ret de_bl)) dss_nil)
  (dss_one (ds_ret (de_and (de_in rfl hr (dw (de_item rfl (dw_v 0) (dw de_int))) (dw (de_globS B.c_LETTERS rfl))) (de_one (de_all rfl rfl rfl B.b_all (dw (de_new (dn_lc rfl sc_is_name.nd (own := [("sign", 1)]) (di_own rfl (dw_v 0)) (blkOk_by (own := [("sign", 1)]) (N := N_is_name) (sc := defScope s_is_name) (by decide +kernel)) (by decide) (fun _ _ _ _ _ => (dg_name 1 sc_is_name.nd)) (fun _ _ _ _ _ => dts_nil) (fun _ _ _ _ _ => (de_or (de_in rfl hr (dw_v 1) (dw (de_globS B.c_LETTERS rfl))) (de_one (de_in rfl hr (dw_v 1) (dw (de_globS B.c_DIGITS rfl)))))))))))))))
theorem k_is_name {P : Program} {w : World} {K : PySem.W.Frag} {mg : Str → Option Value} {base : Heap}  {gg : Fn} (T : FT K mg "is_name" s_is_name) (B : Blt K mg)
    (hf : ∀ ds ω r, gg ds ω = some r → ds.length = 1 ∧ ∃ rs, b_is_name (startE N_is_name ds) ω = some rs ∧ retOf rs = some r) : Cal P w K mg base "is_name" P_is_name 1 gg :=
  cal_of T (fun a fd F => F.binds (ps := P_is_name) fun _ _ _ _ _ _ us hl => match us, hl with | [_], _ => rfl) fun a fd F => fn_x F sc_is_name (fun ds ω r e => (hf ds ω r e).1) (fun cdv A outer s H E n hr => d_is_name n B hr) fun ds ω r e => (hf ds ω r e).2

/-! ### is_number -/
abbrev s_is_number : Stmt := top 16
abbrev N_is_number : List Str := ["thing"]
abbrev P_is_number : List Str := ["thing"]
theorem sc_is_number : FnScope N_is_number P_is_number (defScope s_is_number) := ⟨rfl, rfl, rfl, by decide +kernel, rfl, by decide +kernel, by decide +kernel⟩
def b_is_number  : MS :=
  (retS (andV (uo (isiB "int") (vW 0)) (andV (notV (uo (isiB "bool") (vW 0))) (chainV ltD ltD (uo negD (M.pure (.int 1000000000000000000000000000000))) (vW 0) (M.pure (.int 1000000000000000000000000000000))))))
theorem d_is_number {P : Program} {w : World} {K : PySem.W.Frag} {mg : Str → Option Value} {base : Heap}  {a : Addr} {cdv : Value} {A : Around} {outer : List PySem.Env} {s : Shared} {H : Hp} {E : XK} (n : En) (B : Blt K mg)
    (hr : Room 0 (A.deeper (PyProof.Rows.envOfC "is_number" (defScope s_is_number) s.heap.objs.size a cdv))) :
    PSs (cxOf (L2.CX P w) P w K mg base N_is_number "is_number" (defScope s_is_number) a cdv A outer s H E) (defBody s_is_number) (tS ⟨K, mg⟩ n (fun cls d _ H => E cls d H) (b_is_number)) := by
  unfold b_is_number
  have tk := takes_of (X := (cxOf (L2.CX P w) P w K mg base N_is_number "is_number" (defScope s_is_number) a cdv A outer s H E)) (E := E) rfl rfl rfl rfl
  have pw := passes_of (X := (cxOf (L2.CX P w) P w K mg base N_is_number "is_number" (defScope s_is_number) a cdv A outer s H E)) rfl
  exact (dss_one (ds_ret (de_and (de_isiB rfl B.b_isinstance rfl B.b_int (by decide +kernel) (dw_v 0)) (de_and (de_not (de_isiB rfl B.b_isinstance rfl B.b_bool (by decide +kernel) (dw_v 0))) (de_one (de_ltlt (dw (de_neg (dw (de_globI B.c_VALUE_LIMIT rfl)))) (dw_v 0) (dw (de_globI B.c_VALUE_LIMIT rfl))))))))
theorem k_is_number {P : Program} {w : World} {K : PySem.W.Frag} {mg : Str → Option Value} {base : Heap}  {gg : Fn} (T : FT K mg "is_number" s_is_number) (B : Blt K mg)
    (hf : ∀ ds ω r, gg ds ω = some r → ds.length = 1 ∧ ∃ rs, b_is_number (startE N_is_number ds) ω = some rs ∧ retOf rs = some r) : Cal P w K mg base "is_number" P_is_number 1 gg :=
  cal_of T (fun a fd F => F.binds (ps := P_is_number) fun _ _ _ _ _ _ us hl => match us, hl with | [_], _ => rfl) fun a fd F => fn_x F sc_is_number (fun ds ω r e => (hf ds ω r e).1) (fun cdv A outer s H E n hr => d_is_number n B hr) fun ds ω r e => (hf ds ω r e).2

/-! ### is_operand -/
abbrev s_is_operand : Stmt := top 17
abbrev N_is_operand : List Str := ["thing"]
abbrev P_is_operand : List Str := ["thing"]
theorem sc_is_operand : FnScope N_is_operand P_is_operand (defScope s_is_operand) := ⟨rfl, rfl, rfl, by decide +kernel, rfl, by decide +kernel, by decide +kernel⟩
def b_is_operand (g_is_name : Fn) (g_is_number : Fn) : MS :=
  (retS (orV (calM g_is_number (consM (vF 0) (M.pure []))) (calM g_is_name (consM (vF 0) (M.pure [])))))
theorem d_is_operand {P : Program} {w : World} {K : PySem.W.Frag} {mg : Str → Option Value} {base : Heap} {g_is_name : Fn} {g_is_number : Fn} {a : Addr} {cdv : Value} {A : Around} {outer : List PySem.Env} {s : Shared} {H : Hp} {E : XK} (n : En) (B : Blt K mg) (c_is_name : Cal P w K mg base "is_name" P_is_name 1 g_is_name) (c_is_number : Cal P w K mg base "is_number" P_is_number 1 g_is_number)
    (hr : Room 1 (A.deeper (PyProof.Rows.envOfC "is_operand" (defScope s_is_operand) s.heap.objs.size a cdv))) :
    PSs (cxOf (L2.CX P w) P w K mg base N_is_operand "is_operand" (defScope s_is_operand) a cdv A outer s H E) (defBody s_is_operand) (tS ⟨K, mg⟩ n (fun cls d _ H => E cls d H) (b_is_operand g_is_name g_is_number)) := by
  unfold b_is_operand
  have tk := takes_of (X := (cxOf (L2.CX P w) P w K mg base N_is_operand "is_operand" (defScope s_is_operand) a cdv A outer s H E)) (E := E) rfl rfl rfl rfl
  have pw := passes_of (X := (cxOf (L2.CX P w) P w K mg base N_is_operand "is_operand" (defScope s_is_operand) a cdv A outer s H E)) rfl
  exact (dss_one (ds_ret (de_or (de_fn tk c_is_number hr (by decide) rfl (da_cons (de_v 0) da_nil)) (de_one (de_fn tk c_is_name hr (by decide) rfl (da_cons (de_v 0) da_nil))))))
theorem k_is_operand {P : Program} {w : World} {K : PySem.W.Frag} {mg : Str → Option Value} {base : Heap} {g_is_name : Fn} {g_is_number : Fn} {gg : Fn} (T : FT K mg "is_operand" s_is_operand) (B : Blt K mg) (c_is_name : Cal P w K mg base "is_name" P_is_name 1 g_is_name) (c_is_number : Cal P w K mg base "is_number" P_is_number 1 g_is_number)
    (hf : ∀ ds ω r, gg ds ω = some r → ds.length = 1 ∧ ∃ rs, b_is_operand g_is_name g_is_number (startE N_is_operand ds) ω = some rs ∧ retOf rs = some r) : Cal P w K mg base "is_operand" P_is_operand 2 gg :=
  cal_of T (fun a fd F => F.binds (ps := P_is_operand) fun _ _ _ _ _ _ us hl => match us, hl with | [_], _ => rfl) fun a fd F => fn_x F sc_is_operand (fun ds ω r e => (hf ds ω r e).1) (fun cdv A outer s H E n hr => d_is_operand n B c_is_name c_is_number hr) fun ds ω r e => (hf ds ω r e).2

/-! ### are_unlike_names -/
abbrev s_are_unlike_names : Stmt := top 18
abbrev N_are_unlike_names : List Str := ["texts", "text"]
abbrev P_are_unlike_names : List Str := ["texts"]
theorem sc_are_unlike_names : FnScope N_are_unlike_names P_are_unlike_names (defScope s_are_unlike_names) := ⟨rfl, rfl, rfl, by decide +kernel, rfl, by decide +kernel, by decide +kernel⟩
def cm_are_unlike_names_1 (g_is_name : Fn) : M (List D) :=
  (lcM [1] ((vW 0).bind itemsOf) (nmT 1) (M.pure true) (calM g_is_name (consM (vF 1) (M.pure []))))
def b_are_unlike_names (g_is_name : Fn) : MS :=
  (retS (andV (uo allD ((cm_are_unlike_names_1 g_is_name).bind fun ds => M.pure (.lst ds))) (bo eqD (uo lenSetD (vW 0)) (uo lenD (vW 0)))))
theorem d_are_unlike_names {P : Program} {w : World} {K : PySem.W.Frag} {mg : Str → Option Value} {base : Heap} {g_is_name : Fn} {a : Addr} {cdv : Value} {A : Around} {outer : List PySem.Env} {s : Shared} {H : Hp} {E : XK} (n : En) (B : Blt K mg) (c_is_name : Cal P w K mg base "is_name" P_is_name 1 g_is_name)
    (hr : Room 1 (A.deeper (PyProof.Rows.envOfC "are_unlike_names" (defScope s_are_unlike_names) s.heap.objs.size a cdv))) :
    PSs (cxOf (L2.CX P w) P w K mg base N_are_unlike_names "are_unlike_names" (defScope s_are_unlike_names) a cdv A outer s H E) (defBody s_are_unlike_names) (tS ⟨K, mg⟩ n (fun cls d _ H => E cls d H) (b_are_unlike_names g_is_name)) := by
  unfold b_are_unlike_names
  have tk := takes_of (X := (cxOf (L2.CX P w) P w K mg base N_are_unlike_names "are_unlike_names" (defScope s_are_unlike_names) a cdv A outer s H E)) (E := E) rfl rfl rfl rfl
  have pw := passes_of (X := (cxOf (L2.CX P w) P w K mg base N_are_unlike_names "are_unlike_names" (defScope s_are_unlike_names) a cdv A outer s H E)) rfl
  exact (dss_one (ds_ret (de_and (de_all rfl rfl rfl B.b_all (dw (de_new (dn_lc rfl sc_are_unlike_names.nd (own := [("text", 1)]) (di_own rfl (dw_v 0)) (blkOk_by (own := [("text", 1)]) (N := N_are_unlike_names) (sc := defScope s_are_unlike_names) (by decide +kernel)) (by decide) (fun _ _ _ _ _ => (dg_name 1 sc_are_unlike_names.nd)) (fun _ _ _ _ _ => dts_nil) (fun _ _ _ _ _ => (de_fn takes0 c_is_name hr (by decide) rfl (da_cons (de_v 1) da_nil))))))) (de_one (de_eq rfl hr (dw (de_lenSet rfl rfl rfl B.b_len rfl B.b_set (dw_v 0))) (dw (de_len rfl rfl B.b_len (dw_v 0))))))))
theorem k_are_unlike_names {P : Program} {w : World} {K : PySem.W.Frag} {mg : Str → Option Value} {base : Heap} {g_is_name : Fn} {gg : Fn} (T : FT K mg "are_unlike_names" s_are_unlike_names) (B : Blt K mg) (c_is_name : Cal P w K mg base "is_name" P_is_name 1 g_is_name)
    (hf : ∀ ds ω r, gg ds ω = some r → ds.length = 1 ∧ ∃ rs, b_are_unlike_names g_is_name (startE N_are_unlike_names ds) ω = some rs ∧ retOf rs = some r) : Cal P w K mg base "are_unlike_names" P_are_unlike_names 2 gg :=
  cal_of T (fun a fd F => F.binds (ps := P_are_unlike_names) fun _ _ _ _ _ _ us hl => match us, hl with | [_], _ => rfl) fun a fd F => fn_x F sc_are_unlike_names (fun ds ω r e => (hf ds ω r e).1) (fun cdv A outer s H E n hr => d_are_unlike_names n B c_is_name hr) fun ds ω r e => (hf ds ω r e).2

/-! ### Definition.__init__ -/
abbrev s_Definition___init__ : Stmt := inClass (top 22) 0
abbrev N_Definition___init__ : List Str := ["self", "params", "body", "names"]
abbrev P_Definition___init__ : List Str := ["self", "params", "body"]
theorem sc_Definition___init__ : FnScope N_Definition___init__ P_Definition___init__ (defScope s_Definition___init__) := ⟨rfl, rfl, rfl, by decide +kernel, rfl, by decide +kernel, by decide +kernel⟩
def b_Definition___init__ (g_are_unlike_names : Fn) : MS :=
  (seqS (setS 3 (uo tupleD (vW 1)))
  (seqS (ifS (orM (tst (bo gtD (uo lenD (vW 3)) (M.pure (.int 4)))) (notM (truM (calM g_are_unlike_names (consM (vF 3) (M.pure [])))))) (raiS "BadTerm" "field" (M.pure (.str "params"))) (fun ρ ω => some (.nx ρ ω)))
  (seqS (fldS ["Definition"] "params" (vF 0) (vF 3))
  (fldS ["Definition"] "body" (vF 0) (vF 2)))))
theorem d_Definition___init__ {P : Program} {w : World} {K : PySem.W.Frag} {mg : Str → Option Value} {base : Heap} {g_are_unlike_names : Fn} {a : Addr} {cdv : Value} {A : Around} {outer : List PySem.Env} {s : Shared} {H : Hp} {E : XK} (n : En) (B : Blt K mg) (c_are_unlike_names : Cal P w K mg base "are_unlike_names" P_are_unlike_names 2 g_are_unlike_names) (c_x_BadTerm : CalX P w K mg base "BadTerm" "field" P_x_BadTerm 1)
    (hr : Room 2 (A.deeper (PyProof.Rows.envOfC "Definition.__init__" (defScope s_Definition___init__) s.heap.objs.size a cdv))) :
    PSs (cxOf (L2.CX P w) P w K mg base N_Definition___init__ "Definition.__init__" (defScope s_Definition___init__) a cdv A outer s H E) (defBody s_Definition___init__) (tS ⟨K, mg⟩ n (fun cls d _ H => E cls d H) (b_Definition___init__ g_are_unlike_names)) := by
  unfold b_Definition___init__
  have tk := takes_of (X := (cxOf (L2.CX P w) P w K mg base N_Definition___init__ "Definition.__init__" (defScope s_Definition___init__) a cdv A outer s H E)) (E := E) rfl rfl rfl rfl
  have pw := passes_of (X := (cxOf (L2.CX P w) P w K mg base N_Definition___init__ "Definition.__init__" (defScope s_Definition___init__) a cdv A outer s H E)) rfl
  exact (dss_cons (ds_set (i := 3) sc_Definition___init__.nd (de_tuple rfl rfl B.b_tuple (dw_v 1)))
  (dss_cons (ds_if (dt_w (dw_or (dt_gt (dw (de_len rfl rfl B.b_len (dw_v 3))) (dw (de_globI B.c_MOST_PARAMS rfl))) (dw_or1 (dt_not (dt_truth rfl (dw (de_fn tk c_are_unlike_names hr (by decide) rfl (da_cons (de_v 3) da_nil)))))))) (dss_one (ds_raise tk rfl c_x_BadTerm hr (by decide) rfl de_str)) dss_nil)
  (dss_cons (ds_fld rfl B.f_params (de_v 0) (de_v 3))
  (dss_one (ds_fld rfl B.f_body (de_v 0) (de_v 2))))))
theorem k_mk_Definition {P : Program} {w : World} {K : PySem.W.Frag} {mg : Str → Option Value} {base : Heap} {g_are_unlike_names : Fn} {gg : Fn} (T : FI K mg "Definition" "Definition.__init__" s_Definition___init__) (B : Blt K mg) (c_are_unlike_names : Cal P w K mg base "are_unlike_names" P_are_unlike_names 2 g_are_unlike_names) (c_x_BadTerm : CalX P w K mg base "BadTerm" "field" P_x_BadTerm 1)
    (hf : ∀ ds ω r, gg ds ω = some r → ds.length = 3 ∧ ∃ rs, b_Definition___init__ g_are_unlike_names (startE N_Definition___init__ ds) ω = some rs ∧ retOf rs = some r) : CalG P w K mg base "Definition" P_Definition___init__ 3 gg :=
  calG_of T (fun a fd F => F.binds (ps := P_Definition___init__) fun _ _ _ _ _ _ us hl => match us, hl with | [_, _, _], _ => rfl) fun a fd F => fn_x F sc_Definition___init__ (fun ds ω r e => (hf ds ω r e).1) (fun cdv A outer s H E n hr => d_Definition___init__ n B c_are_unlike_names c_x_BadTerm hr) fun ds ω r e => (hf ds ω r e).2

/-! ### Book.__getitem__ -/
abbrev s_Book___getitem__ : Stmt := inClass (top 23) 4
abbrev N_Book___getitem__ : List Str := ["self", "name"]
abbrev P_Book___getitem__ : List Str := ["self", "name"]
theorem sc_Book___getitem__ : FnScope N_Book___getitem__ P_Book___getitem__ (defScope s_Book___getitem__) := ⟨rfl, rfl, rfl, by decide +kernel, rfl, by decide +kernel, by decide +kernel⟩
def b_Book___getitem__  : MS :=
  (seqS (ifS (tst (bo ninK (vW 1) (uo (fldD ["Book", "Net"] "rows") (vW 0)))) (raiS "NoName" "name" (vF 1)) (fun ρ ω => some (.nx ρ ω)))
  (retS (bo getK (uo (fldD ["Book", "Net"] "rows") (vW 0)) (vW 1))))
theorem d_Book___getitem__ {P : Program} {w : World} {K : PySem.W.Frag} {mg : Str → Option Value} {base : Heap}  {a : Addr} {cdv : Value} {A : Around} {outer : List PySem.Env} {s : Shared} {H : Hp} {E : XK} (n : En) (B : Blt K mg) (c_x_NoName : CalX P w K mg base "NoName" "name" P_x_NoName 1)
    (hr : Room 2 (A.deeper (PyProof.Rows.envOfC "Book.__getitem__" (defScope s_Book___getitem__) s.heap.objs.size a cdv))) :
    PSs (cxOf (L2.CX P w) P w K mg base N_Book___getitem__ "Book.__getitem__" (defScope s_Book___getitem__) a cdv A outer s H E) (defBody s_Book___getitem__) (tS ⟨K, mg⟩ n (fun cls d _ H => E cls d H) (b_Book___getitem__)) := by
  unfold b_Book___getitem__
  have tk := takes_of (X := (cxOf (L2.CX P w) P w K mg base N_Book___getitem__ "Book.__getitem__" (defScope s_Book___getitem__) a cdv A outer s H E)) (E := E) rfl rfl rfl rfl
  have pw := passes_of (X := (cxOf (L2.CX P w) P w K mg base N_Book___getitem__ "Book.__getitem__" (defScope s_Book___getitem__) a cdv A outer s H E)) rfl
  exact (dss_cons (ds_if (dt_ninK hr (dw_v 1) (dw (de_fld rfl B.f_rows (dw_v 0)))) (dss_one (ds_raise tk rfl c_x_NoName hr (by decide) rfl (de_v 1))) dss_nil)
  (dss_one (ds_ret (de_getK hr (dw (de_fld rfl B.f_rows (dw_v 0))) (dw_v 1)))))
theorem k_Book___getitem__ {P : Program} {w : World} {K : PySem.W.Frag} {mg : Str → Option Value} {base : Heap}  {gg : Fn} (T : FM K mg "Book" "__getitem__" "Book.__getitem__" s_Book___getitem__) (B : Blt K mg) (c_x_NoName : CalX P w K mg base "NoName" "name" P_x_NoName 1)
    (hf : ∀ ds ω r, gg ds ω = some r → ds.length = 2 ∧ ∃ rs, b_Book___getitem__ (startE N_Book___getitem__ ds) ω = some rs ∧ retOf rs = some r) : CalM P w K mg base "Book" "__getitem__" P_Book___getitem__ 3 gg :=
  calM_of T (fun a fd F => F.binds (ps := P_Book___getitem__) fun _ _ _ _ _ _ us hl => match us, hl with | [_, _], _ => rfl) fun a fd F => fn_x F sc_Book___getitem__ (fun ds ω r e => (hf ds ω r e).1) (fun cdv A outer s H E n hr => d_Book___getitem__ n B c_x_NoName hr) fun ds ω r e => (hf ds ω r e).2

/-! ### Book.__setitem__ -/
abbrev s_Book___setitem__ : Stmt := inClass (top 23) 5
abbrev N_Book___setitem__ : List Str := ["self", "name", "definition"]
abbrev P_Book___setitem__ : List Str := ["self", "name", "definition"]
theorem sc_Book___setitem__ : FnScope N_Book___setitem__ P_Book___setitem__ (defScope s_Book___setitem__) := ⟨rfl, rfl, rfl, by decide +kernel, rfl, by decide +kernel, by decide +kernel⟩
def b_Book___setitem__ (g_is_name : Fn) : MS :=
  (seqS (ifS (notM (truM (calM g_is_name (consM (vF 1) (M.pure []))))) (raiS "BadTerm" "field" (M.pure (.str "name"))) (fun ρ ω => some (.nx ρ ω)))
  (seqS (ifS (andM (tst (bo ninK (vW 1) (uo (fldD ["Book", "Net"] "rows") (vW 0)))) (tst (bo geD (uo lenK (uo (fldD ["Book", "Net"] "rows") (vW 0))) (M.pure (.int 12))))) (raiS "BadTerm" "field" (M.pure (.str "definitions"))) (fun ρ ω => some (.nx ρ ω)))
  (dputS (uo (fldD ["Book", "Net"] "rows") (vW 0)) (vF 1) (vF 2))))
theorem d_Book___setitem__ {P : Program} {w : World} {K : PySem.W.Frag} {mg : Str → Option Value} {base : Heap} {g_is_name : Fn} {a : Addr} {cdv : Value} {A : Around} {outer : List PySem.Env} {s : Shared} {H : Hp} {E : XK} (n : En) (B : Blt K mg) (c_is_name : Cal P w K mg base "is_name" P_is_name 1 g_is_name) (c_x_BadTerm : CalX P w K mg base "BadTerm" "field" P_x_BadTerm 1)
    (hr : Room 2 (A.deeper (PyProof.Rows.envOfC "Book.__setitem__" (defScope s_Book___setitem__) s.heap.objs.size a cdv))) :
    PSs (cxOf (L2.CX P w) P w K mg base N_Book___setitem__ "Book.__setitem__" (defScope s_Book___setitem__) a cdv A outer s H E) (defBody s_Book___setitem__) (tS ⟨K, mg⟩ n (fun cls d _ H => E cls d H) (b_Book___setitem__ g_is_name)) := by
  unfold b_Book___setitem__
  have tk := takes_of (X := (cxOf (L2.CX P w) P w K mg base N_Book___setitem__ "Book.__setitem__" (defScope s_Book___setitem__) a cdv A outer s H E)) (E := E) rfl rfl rfl rfl
  have pw := passes_of (X := (cxOf (L2.CX P w) P w K mg base N_Book___setitem__ "Book.__setitem__" (defScope s_Book___setitem__) a cdv A outer s H E)) rfl
  exact (dss_cons (ds_if (dt_not (dt_truth rfl (dw (de_fn tk c_is_name hr (by decide) rfl (da_cons (de_v 1) da_nil))))) (dss_one (ds_raise tk rfl c_x_BadTerm hr (by decide) rfl de_str)) dss_nil)
  (dss_cons (ds_if (dt_w (dw_and (dt_ninK hr (dw_v 1) (dw (de_fld rfl B.f_rows (dw_v 0)))) (dw_and1 (dt_ge (dw (de_lenK rfl B.b_len (dw (de_fld rfl B.f_rows (dw_v 0))))) (dw (de_globI B.c_MOST_DEFINITIONS rfl)))))) (dss_one (ds_raise tk rfl c_x_BadTerm hr (by decide) rfl de_str)) dss_nil)
  (dss_one (ds_dput hr (de_v 2) (de_fld rfl B.f_rows (dw_v 0)) (de_v 1)))))
theorem k_Book___setitem__ {P : Program} {w : World} {K : PySem.W.Frag} {mg : Str → Option Value} {base : Heap} {g_is_name : Fn} {gg : Fn} (T : FM K mg "Book" "__setitem__" "Book.__setitem__" s_Book___setitem__) (B : Blt K mg) (c_is_name : Cal P w K mg base "is_name" P_is_name 1 g_is_name) (c_x_BadTerm : CalX P w K mg base "BadTerm" "field" P_x_BadTerm 1)
    (hf : ∀ ds ω r, gg ds ω = some r → ds.length = 3 ∧ ∃ rs, b_Book___setitem__ g_is_name (startE N_Book___setitem__ ds) ω = some rs ∧ retOf rs = some r) : CalM P w K mg base "Book" "__setitem__" P_Book___setitem__ 3 gg :=
  calM_of T (fun a fd F => F.binds (ps := P_Book___setitem__) fun _ _ _ _ _ _ us hl => match us, hl with | [_, _, _], _ => rfl) fun a fd F => fn_x F sc_Book___setitem__ (fun ds ω r e => (hf ds ω r e).1) (fun cdv A outer s H E n hr => d_Book___setitem__ n B c_is_name c_x_BadTerm hr) fun ds ω r e => (hf ds ω r e).2

/-! ### check_seats -/
abbrev s_check_seats : Stmt := top 32
abbrev N_check_seats : List Str := ["seats"]
abbrev P_check_seats : List Str := ["seats"]
theorem sc_check_seats : FnScope N_check_seats P_check_seats (defScope s_check_seats) := ⟨rfl, rfl, rfl, by decide +kernel, rfl, by decide +kernel, by decide +kernel⟩
def b_check_seats  : MS :=
  (ifS (orM (tst (bo ltD (vW 0) (M.pure (.int 1)))) (tst (bo gtD (vW 0) (M.pure (.int 4))))) (raiS "BadTerm" "field" (M.pure (.str "seats"))) (fun ρ ω => some (.nx ρ ω)))
theorem d_check_seats {P : Program} {w : World} {K : PySem.W.Frag} {mg : Str → Option Value} {base : Heap}  {a : Addr} {cdv : Value} {A : Around} {outer : List PySem.Env} {s : Shared} {H : Hp} {E : XK} (n : En) (B : Blt K mg) (c_x_BadTerm : CalX P w K mg base "BadTerm" "field" P_x_BadTerm 1)
    (hr : Room 2 (A.deeper (PyProof.Rows.envOfC "check_seats" (defScope s_check_seats) s.heap.objs.size a cdv))) :
    PSs (cxOf (L2.CX P w) P w K mg base N_check_seats "check_seats" (defScope s_check_seats) a cdv A outer s H E) (defBody s_check_seats) (tS ⟨K, mg⟩ n (fun cls d _ H => E cls d H) (b_check_seats)) := by
  unfold b_check_seats
  have tk := takes_of (X := (cxOf (L2.CX P w) P w K mg base N_check_seats "check_seats" (defScope s_check_seats) a cdv A outer s H E)) (E := E) rfl rfl rfl rfl
  have pw := passes_of (X := (cxOf (L2.CX P w) P w K mg base N_check_seats "check_seats" (defScope s_check_seats) a cdv A outer s H E)) rfl
  exact (dss_one (ds_if (dt_w (dw_or (dt_lt (dw_v 0) (dw de_int)) (dw_or1 (dt_gt (dw_v 0) (dw (de_globI B.c_MOST_SEATS rfl)))))) (dss_one (ds_raise tk rfl c_x_BadTerm hr (by decide) rfl de_str)) dss_nil))
theorem k_check_seats {P : Program} {w : World} {K : PySem.W.Frag} {mg : Str → Option Value} {base : Heap}  {gg : Fn} (T : FT K mg "check_seats" s_check_seats) (B : Blt K mg) (c_x_BadTerm : CalX P w K mg base "BadTerm" "field" P_x_BadTerm 1)
    (hf : ∀ ds ω r, gg ds ω = some r → ds.length = 1 ∧ ∃ rs, b_check_seats (startE N_check_seats ds) ω = some rs ∧ retOf rs = some r) : Cal P w K mg base "check_seats" P_check_seats 3 gg :=
  cal_of T (fun a fd F => F.binds (ps := P_check_seats) fun _ _ _ _ _ _ us hl => match us, hl with | [_], _ => rfl) fun a fd F => fn_x F sc_check_seats (fun ds ω r e => (hf ds ω r e).1) (fun cdv A outer s H E n hr => d_check_seats n B c_x_BadTerm hr) fun ds ω r e => (hf ds ω r e).2

/-! ### Process.__init__ -/
abbrev s_Process___init__ : Stmt := inClass (top 34) 0
abbrev N_Process___init__ : List Str := ["self", "kind", "parts", "depth", "size"]
abbrev P_Process___init__ : List Str := ["self", "kind", "parts", "depth", "size"]
theorem sc_Process___init__ : FnScope N_Process___init__ P_Process___init__ (defScope s_Process___init__) := ⟨rfl, rfl, rfl, by decide +kernel, rfl, by decide +kernel, by decide +kernel⟩
def b_Process___init__  : MS :=
  (seqS (fldS ["Process"] "kind" (vF 0) (vF 1))
  (seqS (fldS ["Process"] "parts" (vF 0) (vF 2))
  (seqS (fldS ["Process"] "depth" (vF 0) (vF 3))
  (fldS ["Process"] "size" (vF 0) (vF 4)))))
theorem d_Process___init__ {P : Program} {w : World} {K : PySem.W.Frag} {mg : Str → Option Value} {base : Heap}  {a : Addr} {cdv : Value} {A : Around} {outer : List PySem.Env} {s : Shared} {H : Hp} {E : XK} (n : En) (B : Blt K mg)
    (hr : Room 0 (A.deeper (PyProof.Rows.envOfC "Process.__init__" (defScope s_Process___init__) s.heap.objs.size a cdv))) :
    PSs (cxOf (L2.CX P w) P w K mg base N_Process___init__ "Process.__init__" (defScope s_Process___init__) a cdv A outer s H E) (defBody s_Process___init__) (tS ⟨K, mg⟩ n (fun cls d _ H => E cls d H) (b_Process___init__)) := by
  unfold b_Process___init__
  have tk := takes_of (X := (cxOf (L2.CX P w) P w K mg base N_Process___init__ "Process.__init__" (defScope s_Process___init__) a cdv A outer s H E)) (E := E) rfl rfl rfl rfl
  have pw := passes_of (X := (cxOf (L2.CX P w) P w K mg base N_Process___init__ "Process.__init__" (defScope s_Process___init__) a cdv A outer s H E)) rfl
  exact (dss_cons (ds_fld rfl B.f_kind (de_v 0) (de_v 1))
  (dss_cons (ds_fld rfl B.f_parts (de_v 0) (de_v 2))
  (dss_cons (ds_fld rfl B.f_depth (de_v 0) (de_v 3))
  (dss_one (ds_fld rfl B.f_size (de_v 0) (de_v 4))))))
theorem k_mk_Process {P : Program} {w : World} {K : PySem.W.Frag} {mg : Str → Option Value} {base : Heap}  {gg : Fn} (T : FI K mg "Process" "Process.__init__" s_Process___init__) (B : Blt K mg)
    (hf : ∀ ds ω r, gg ds ω = some r → ds.length = 5 ∧ ∃ rs, b_Process___init__ (startE N_Process___init__ ds) ω = some rs ∧ retOf rs = some r) : CalG P w K mg base "Process" P_Process___init__ 1 gg :=
  calG_of T (fun a fd F => F.binds (ps := P_Process___init__) fun _ _ _ _ _ _ us hl => match us, hl with | [_, _, _, _, _], _ => rfl) fun a fd F => fn_x F sc_Process___init__ (fun ds ω r e => (hf ds ω r e).1) (fun cdv A outer s H E n hr => d_Process___init__ n B hr) fun ds ω r e => (hf ds ω r e).2

/-! ### built -/
abbrev s_built : Stmt := top 33
abbrev N_built : List Str := ["kind", "parts", "depth", "size"]
abbrev P_built : List Str := ["kind", "parts", "depth", "size"]
theorem sc_built : FnScope N_built P_built (defScope s_built) := ⟨rfl, rfl, rfl, by decide +kernel, rfl, by decide +kernel, by decide +kernel⟩
def b_built (g_mk_Process : Fn) : MS :=
  (seqS (ifS (tst (bo gtD (vW 2) (M.pure (.int 20)))) (raiS "BadTerm" "field" (M.pure (.str "depth"))) (fun ρ ω => some (.nx ρ ω)))
  (seqS (ifS (tst (bo gtD (vW 3) (M.pure (.int 400)))) (raiS "BadTerm" "field" (M.pure (.str "size"))) (fun ρ ω => some (.nx ρ ω)))
  (retS ((consM (vF 0) (consM (vF 1) (consM (vF 2) (consM (vF 3) (M.pure []))))).bind (mkG "Process" g_mk_Process)))))
theorem d_built {P : Program} {w : World} {K : PySem.W.Frag} {mg : Str → Option Value} {base : Heap} {g_mk_Process : Fn} {a : Addr} {cdv : Value} {A : Around} {outer : List PySem.Env} {s : Shared} {H : Hp} {E : XK} (n : En) (B : Blt K mg) (c_mk_Process : CalG P w K mg base "Process" P_Process___init__ 1 g_mk_Process) (c_x_BadTerm : CalX P w K mg base "BadTerm" "field" P_x_BadTerm 1)
    (hr : Room 2 (A.deeper (PyProof.Rows.envOfC "built" (defScope s_built) s.heap.objs.size a cdv))) :
    PSs (cxOf (L2.CX P w) P w K mg base N_built "built" (defScope s_built) a cdv A outer s H E) (defBody s_built) (tS ⟨K, mg⟩ n (fun cls d _ H => E cls d H) (b_built g_mk_Process)) := by
  unfold b_built
  have tk := takes_of (X := (cxOf (L2.CX P w) P w K mg base N_built "built" (defScope s_built) a cdv A outer s H E)) (E := E) rfl rfl rfl rfl
  have pw := passes_of (X := (cxOf (L2.CX P w) P w K mg base N_built "built" (defScope s_built) a cdv A outer s H E)) rfl
  exact (dss_cons (ds_if (dt_gt (dw_v 2) (dw (de_globI B.c_MOST_DEPTH rfl))) (dss_one (ds_raise tk rfl c_x_BadTerm hr (by decide) rfl de_str)) dss_nil)
  (dss_cons (ds_if (dt_gt (dw_v 3) (dw (de_globI B.c_MOST_SIZE rfl))) (dss_one (ds_raise tk rfl c_x_BadTerm hr (by decide) rfl de_str)) dss_nil)
  (dss_one (ds_ret (de_makeG tk c_mk_Process hr (by decide) rfl (da_cons (de_v 0) (da_cons (de_v 1) (da_cons (de_v 2) (da_cons (de_v 3) da_nil)))))))))
theorem k_built {P : Program} {w : World} {K : PySem.W.Frag} {mg : Str → Option Value} {base : Heap} {g_mk_Process : Fn} {gg : Fn} (T : FT K mg "built" s_built) (B : Blt K mg) (c_mk_Process : CalG P w K mg base "Process" P_Process___init__ 1 g_mk_Process) (c_x_BadTerm : CalX P w K mg base "BadTerm" "field" P_x_BadTerm 1)
    (hf : ∀ ds ω r, gg ds ω = some r → ds.length = 4 ∧ ∃ rs, b_built g_mk_Process (startE N_built ds) ω = some rs ∧ retOf rs = some r) : Cal P w K mg base "built" P_built 3 gg :=
  cal_of T (fun a fd F => F.binds (ps := P_built) fun _ _ _ _ _ _ us hl => match us, hl with | [_, _, _, _], _ => rfl) fun a fd F => fn_x F sc_built (fun ds ω r e => (hf ds ω r e).1) (fun cdv A outer s H E n hr => d_built n B c_mk_Process c_x_BadTerm hr) fun ds ω r e => (hf ds ω r e).2

/-! ### Process.stop -/
abbrev s_Process_stop : Stmt := inClass (top 34) 1
abbrev N_Process_stop : List Str := []
abbrev P_Process_stop : List Str := []
theorem sc_Process_stop : FnScope N_Process_stop P_Process_stop (defScope s_Process_stop) := ⟨rfl, rfl, rfl, by decide +kernel, rfl, by decide +kernel, by decide +kernel⟩
def b_Process_stop (g_mk_Process : Fn) : MS :=
  (retS ((consM (M.pure (.str "choice")) (consM ((M.pure []).bind mkTup) (consM (M.pure (.int 1)) (consM (M.pure (.int 1)) (M.pure []))))).bind (mkG "Process" g_mk_Process)))
theorem d_Process_stop {P : Program} {w : World} {K : PySem.W.Frag} {mg : Str → Option Value} {base : Heap} {g_mk_Process : Fn} {a : Addr} {cdv : Value} {A : Around} {outer : List PySem.Env} {s : Shared} {H : Hp} {E : XK} (n : En) (B : Blt K mg) (c_mk_Process : CalG P w K mg base "Process" P_Process___init__ 1 g_mk_Process)
    (hr : Room 2 (A.deeper (PyProof.Rows.envOfC "Process.stop" (defScope s_Process_stop) s.heap.objs.size a cdv))) :
    PSs (cxOf (L2.CX P w) P w K mg base N_Process_stop "Process.stop" (defScope s_Process_stop) a cdv A outer s H E) (defBody s_Process_stop) (tS ⟨K, mg⟩ n (fun cls d _ H => E cls d H) (b_Process_stop g_mk_Process)) := by
  unfold b_Process_stop
  have tk := takes_of (X := (cxOf (L2.CX P w) P w K mg base N_Process_stop "Process.stop" (defScope s_Process_stop) a cdv A outer s H E)) (E := E) rfl rfl rfl rfl
  have pw := passes_of (X := (cxOf (L2.CX P w) P w K mg base N_Process_stop "Process.stop" (defScope s_Process_stop) a cdv A outer s H E)) rfl
  exact (dss_one (ds_ret (de_makeG tk c_mk_Process hr (by decide) rfl (da_cons de_str (da_cons (de_tup da_nil) (da_cons de_int (da_cons de_int da_nil)))))))
theorem k_Process_stop {P : Program} {w : World} {K : PySem.W.Frag} {mg : Str → Option Value} {base : Heap} {g_mk_Process : Fn} {gg : Fn} (T : FS K mg "Process" "stop" "Process.stop" s_Process_stop) (B : Blt K mg) (c_mk_Process : CalG P w K mg base "Process" P_Process___init__ 1 g_mk_Process)
    (hf : ∀ ds ω r, gg ds ω = some r → ds.length = 0 ∧ ∃ rs, b_Process_stop g_mk_Process (startE N_Process_stop ds) ω = some rs ∧ retOf rs = some r) : CalS P w K mg base "Process" "stop" P_Process_stop 3 gg :=
  calS_of T (fun a fd F => F.binds (ps := P_Process_stop) fun _ _ _ _ _ _ us hl => match us, hl with | [], _ => rfl) fun a fd F => fn_x F sc_Process_stop (fun ds ω r e => (hf ds ω r e).1) (fun cdv A outer s H E n hr => d_Process_stop n B c_mk_Process hr) fun ds ω r e => (hf ds ω r e).2

/-! ### Process.offer -/
abbrev s_Process_offer : Stmt := inClass (top 34) 2
abbrev N_Process_offer : List Str := ["channel", "seat", "seats", "operand", "names", "rest", "bound", "only"]
abbrev P_Process_offer : List Str := ["channel", "seat", "seats", "operand", "names", "rest"]
theorem sc_Process_offer : FnScope N_Process_offer P_Process_offer (defScope s_Process_offer) := ⟨rfl, rfl, rfl, by decide +kernel, rfl, by decide +kernel, by decide +kernel⟩
def b_Process_offer (g_are_unlike_names : Fn) (g_built : Fn) (g_check_seats : Fn) (g_is_name : Fn) (g_is_operand : Fn) : MS :=
  (seqS (ifS (notM (truM (calM g_is_name (consM (vF 0) (M.pure []))))) (raiS "BadTerm" "field" (M.pure (.str "channel"))) (fun ρ ω => some (.nx ρ ω)))
  (seqS (exprS (calM g_check_seats (consM (vF 2) (M.pure []))))
  (seqS (ifS (orM (tst (bo ltD (vW 1) (M.pure (.int 0)))) (tst (bo geD (vW 1) (vW 2)))) (raiS "BadTerm" "field" (M.pure (.str "seat"))) (fun ρ ω => some (.nx ρ ω)))
  (seqS (ifS (notM (truM (calM g_is_operand (consM (vF 3) (M.pure []))))) (raiS "BadTerm" "field" (M.pure (.str "operand"))) (fun ρ ω => some (.nx ρ ω)))
  (seqS (setS 6 (uo tupleD (vW 4)))
  (seqS (ifS (orM (tst (bo neD (uo lenD (vW 6)) (bo subD (vW 2) (M.pure (.int 1))))) (notM (truM (calM g_are_unlike_names (consM (vF 6) (M.pure [])))))) (raiS "BadTerm" "field" (M.pure (.str "names"))) (fun ρ ω => some (.nx ρ ω)))
  (seqS (setS 7 ((consM (vF 0) (consM (vF 1) (consM (vF 2) (consM (vF 3) (consM (vF 6) (consM (vF 5) (M.pure []))))))).bind mkTup))
  (retS (calM g_built (consM (M.pure (.str "choice")) (consM ((consM (vF 7) (M.pure [])).bind mkTup) (consM (bo addD (uo (fldD ["Process"] "depth") (vW 5)) (M.pure (.int 1))) (consM (bo addD (uo (fldD ["Process"] "size") (vW 5)) (M.pure (.int 1))) (M.pure []))))))))))))))
theorem d_Process_offer {P : Program} {w : World} {K : PySem.W.Frag} {mg : Str → Option Value} {base : Heap} {g_are_unlike_names : Fn} {g_built : Fn} {g_check_seats : Fn} {g_is_name : Fn} {g_is_operand : Fn} {a : Addr} {cdv : Value} {A : Around} {outer : List PySem.Env} {s : Shared} {H : Hp} {E : XK} (n : En) (B : Blt K mg) (c_are_unlike_names : Cal P w K mg base "are_unlike_names" P_are_unlike_names 2 g_are_unlike_names) (c_built : Cal P w K mg base "built" P_built 3 g_built) (c_check_seats : Cal P w K mg base "check_seats" P_check_seats 3 g_check_seats) (c_is_name : Cal P w K mg base "is_name" P_is_name 1 g_is_name) (c_is_operand : Cal P w K mg base "is_operand" P_is_operand 2 g_is_operand) (c_x_BadTerm : CalX P w K mg base "BadTerm" "field" P_x_BadTerm 1)
    (hr : Room 3 (A.deeper (PyProof.Rows.envOfC "Process.offer" (defScope s_Process_offer) s.heap.objs.size a cdv))) :
    PSs (cxOf (L2.CX P w) P w K mg base N_Process_offer "Process.offer" (defScope s_Process_offer) a cdv A outer s H E) (defBody s_Process_offer) (tS ⟨K, mg⟩ n (fun cls d _ H => E cls d H) (b_Process_offer g_are_unlike_names g_built g_check_seats g_is_name g_is_operand)) := by
  unfold b_Process_offer
  have tk := takes_of (X := (cxOf (L2.CX P w) P w K mg base N_Process_offer "Process.offer" (defScope s_Process_offer) a cdv A outer s H E)) (E := E) rfl rfl rfl rfl
  have pw := passes_of (X := (cxOf (L2.CX P w) P w K mg base N_Process_offer "Process.offer" (defScope s_Process_offer) a cdv A outer s H E)) rfl
  exact (dss_cons (ds_if (dt_not (dt_truth rfl (dw (de_fn tk c_is_name hr (by decide) rfl (da_cons (de_v 0) da_nil))))) (dss_one (ds_raise tk rfl c_x_BadTerm hr (by decide) rfl de_str)) dss_nil)
  (dss_cons (ds_expr (de_fn tk c_check_seats hr (by decide) rfl (da_cons (de_v 2) da_nil)))
  (dss_cons (ds_if (dt_w (dw_or (dt_lt (dw_v 1) (dw de_int)) (dw_or1 (dt_ge (dw_v 1) (dw_v 2))))) (dss_one (ds_raise tk rfl c_x_BadTerm hr (by decide) rfl de_str)) dss_nil)
  (dss_cons (ds_if (dt_not (dt_truth rfl (dw (de_fn tk c_is_operand hr (by decide) rfl (da_cons (de_v 3) da_nil))))) (dss_one (ds_raise tk rfl c_x_BadTerm hr (by decide) rfl de_str)) dss_nil)
  (dss_cons (ds_set (i := 6) sc_Process_offer.nd (de_tuple rfl rfl B.b_tuple (dw_v 4)))
  (dss_cons (ds_if (dt_w (dw_or (dt_ne rfl hr (dw (de_len rfl rfl B.b_len (dw_v 6))) (dw (de_sub (dw_v 2) (dw de_int)))) (dw_or1 (dt_not (dt_truth rfl (dw (de_fn tk c_are_unlike_names hr (by decide) rfl (da_cons (de_v 6) da_nil)))))))) (dss_one (ds_raise tk rfl c_x_BadTerm hr (by decide) rfl de_str)) dss_nil)
  (dss_cons (ds_set (i := 7) sc_Process_offer.nd (de_tup (da_cons (de_v 0) (da_cons (de_v 1) (da_cons (de_v 2) (da_cons (de_v 3) (da_cons (de_v 6) (da_cons (de_v 5) da_nil))))))))
  (dss_one (ds_ret (de_fn tk c_built hr (by decide) rfl (da_cons de_str (da_cons (de_tup (da_cons (de_v 7) da_nil)) (da_cons (de_add rfl (dw (de_fld rfl B.f_depth (dw_v 5))) (dw de_int)) (da_cons (de_add rfl (dw (de_fld rfl B.f_size (dw_v 5))) (dw de_int)) da_nil))))))))))))))
theorem k_Process_offer {P : Program} {w : World} {K : PySem.W.Frag} {mg : Str → Option Value} {base : Heap} {g_are_unlike_names : Fn} {g_built : Fn} {g_check_seats : Fn} {g_is_name : Fn} {g_is_operand : Fn} {gg : Fn} (T : FS K mg "Process" "offer" "Process.offer" s_Process_offer) (B : Blt K mg) (c_are_unlike_names : Cal P w K mg base "are_unlike_names" P_are_unlike_names 2 g_are_unlike_names) (c_built : Cal P w K mg base "built" P_built 3 g_built) (c_check_seats : Cal P w K mg base "check_seats" P_check_seats 3 g_check_seats) (c_is_name : Cal P w K mg base "is_name" P_is_name 1 g_is_name) (c_is_operand : Cal P w K mg base "is_operand" P_is_operand 2 g_is_operand) (c_x_BadTerm : CalX P w K mg base "BadTerm" "field" P_x_BadTerm 1)
    (hf : ∀ ds ω r, gg ds ω = some r → ds.length = 6 ∧ ∃ rs, b_Process_offer g_are_unlike_names g_built g_check_seats g_is_name g_is_operand (startE N_Process_offer ds) ω = some rs ∧ retOf rs = some r) : CalS P w K mg base "Process" "offer" P_Process_offer 4 gg :=
  calS_of T (fun a fd F => F.binds (ps := P_Process_offer) fun _ _ _ _ _ _ us hl => match us, hl with | [_, _, _, _, _, _], _ => rfl) fun a fd F => fn_x F sc_Process_offer (fun ds ω r e => (hf ds ω r e).1) (fun cdv A outer s H E n hr => d_Process_offer n B c_are_unlike_names c_built c_check_seats c_is_name c_is_operand c_x_BadTerm hr) fun ds ω r e => (hf ds ω r e).2

/-! ### Process.new -/
abbrev s_Process_new : Stmt := inClass (top 34) 3
abbrev N_Process_new : List Str := ["name", "seats", "rest"]
abbrev P_Process_new : List Str := ["name", "seats", "rest"]
theorem sc_Process_new : FnScope N_Process_new P_Process_new (defScope s_Process_new) := ⟨rfl, rfl, rfl, by decide +kernel, rfl, by decide +kernel, by decide +kernel⟩
def b_Process_new (g_built : Fn) (g_check_seats : Fn) (g_is_name : Fn) : MS :=
  (seqS (ifS (notM (truM (calM g_is_name (consM (vF 0) (M.pure []))))) (raiS "BadTerm" "field" (M.pure (.str "name"))) (fun ρ ω => some (.nx ρ ω)))
  (seqS (exprS (calM g_check_seats (consM (vF 1) (M.pure []))))
  (retS (calM g_built (consM (M.pure (.str "new")) (consM ((consM (vF 0) (consM (vF 1) (consM (vF 2) (M.pure [])))).bind mkTup) (consM (bo addD (uo (fldD ["Process"] "depth") (vW 2)) (M.pure (.int 1))) (consM (bo addD (uo (fldD ["Process"] "size") (vW 2)) (M.pure (.int 1))) (M.pure [])))))))))
theorem d_Process_new {P : Program} {w : World} {K : PySem.W.Frag} {mg : Str → Option Value} {base : Heap} {g_built : Fn} {g_check_seats : Fn} {g_is_name : Fn} {a : Addr} {cdv : Value} {A : Around} {outer : List PySem.Env} {s : Shared} {H : Hp} {E : XK} (n : En) (B : Blt K mg) (c_built : Cal P w K mg base "built" P_built 3 g_built) (c_check_seats : Cal P w K mg base "check_seats" P_check_seats 3 g_check_seats) (c_is_name : Cal P w K mg base "is_name" P_is_name 1 g_is_name) (c_x_BadTerm : CalX P w K mg base "BadTerm" "field" P_x_BadTerm 1)
    (hr : Room 3 (A.deeper (PyProof.Rows.envOfC "Process.new" (defScope s_Process_new) s.heap.objs.size a cdv))) :
    PSs (cxOf (L2.CX P w) P w K mg base N_Process_new "Process.new" (defScope s_Process_new) a cdv A outer s H E) (defBody s_Process_new) (tS ⟨K, mg⟩ n (fun cls d _ H => E cls d H) (b_Process_new g_built g_check_seats g_is_name)) := by
  unfold b_Process_new
  have tk := takes_of (X := (cxOf (L2.CX P w) P w K mg base N_Process_new "Process.new" (defScope s_Process_new) a cdv A outer s H E)) (E := E) rfl rfl rfl rfl
  have pw := passes_of (X := (cxOf (L2.CX P w) P w K mg base N_Process_new "Process.new" (defScope s_Process_new) a cdv A outer s H E)) rfl
  exact (dss_cons (ds_if (dt_not (dt_truth rfl (dw (de_fn tk c_is_name hr (by decide) rfl (da_cons (de_v 0) da_nil))))) (dss_one (ds_raise tk rfl c_x_BadTerm hr (by decide) rfl de_str)) dss_nil)
  (dss_cons (ds_expr (de_fn tk c_check_seats hr (by decide) rfl (da_cons (de_v 1) da_nil)))
  (dss_one (ds_ret (de_fn tk c_built hr (by decide) rfl (da_cons de_str (da_cons (de_tup (da_cons (de_v 0) (da_cons (de_v 1) (da_cons (de_v 2) da_nil)))) (da_cons (de_add rfl (dw (de_fld rfl B.f_depth (dw_v 2))) (dw de_int)) (da_cons (de_add rfl (dw (de_fld rfl B.f_size (dw_v 2))) (dw de_int)) da_nil)))))))))
theorem k_Process_new {P : Program} {w : World} {K : PySem.W.Frag} {mg : Str → Option Value} {base : Heap} {g_built : Fn} {g_check_seats : Fn} {g_is_name : Fn} {gg : Fn} (T : FS K mg "Process" "new" "Process.new" s_Process_new) (B : Blt K mg) (c_built : Cal P w K mg base "built" P_built 3 g_built) (c_check_seats : Cal P w K mg base "check_seats" P_check_seats 3 g_check_seats) (c_is_name : Cal P w K mg base "is_name" P_is_name 1 g_is_name) (c_x_BadTerm : CalX P w K mg base "BadTerm" "field" P_x_BadTerm 1)
    (hf : ∀ ds ω r, gg ds ω = some r → ds.length = 3 ∧ ∃ rs, b_Process_new g_built g_check_seats g_is_name (startE N_Process_new ds) ω = some rs ∧ retOf rs = some r) : CalS P w K mg base "Process" "new" P_Process_new 4 gg :=
  calS_of T (fun a fd F => F.binds (ps := P_Process_new) fun _ _ _ _ _ _ us hl => match us, hl with | [_, _, _], _ => rfl) fun a fd F => fn_x F sc_Process_new (fun ds ω r e => (hf ds ω r e).1) (fun cdv A outer s H E n hr => d_Process_new n B c_built c_check_seats c_is_name c_x_BadTerm hr) fun ds ω r e => (hf ds ω r e).2

/-! ### Process.call -/
abbrev s_Process_call : Stmt := inClass (top 34) 5
abbrev N_Process_call : List Str := ["name", "operands", "given", "one"]
abbrev P_Process_call : List Str := ["name", "operands"]
theorem sc_Process_call : FnScope N_Process_call P_Process_call (defScope s_Process_call) := ⟨rfl, rfl, rfl, by decide +kernel, rfl, by decide +kernel, by decide +kernel⟩
def cm_Process_call_1 (g_is_operand : Fn) : M (List D) :=
  (lcM [3] ((vW 2).bind itemsOf) (nmT 3) (M.pure true) (calM g_is_operand (consM (vF 3) (M.pure []))))
def b_Process_call (g_is_name : Fn) (g_is_operand : Fn) (g_mk_Process : Fn) : MS :=
  (seqS (ifS (notM (truM (calM g_is_name (consM (vF 0) (M.pure []))))) (raiS "BadTerm" "field" (M.pure (.str "name"))) (fun ρ ω => some (.nx ρ ω)))
  (seqS (setS 2 (uo tupleD (vW 1)))
  (seqS (ifS (orM (tst (bo gtD (uo lenD (vW 2)) (M.pure (.int 4)))) (notM (truM (uo allD ((cm_Process_call_1 g_is_operand).bind fun ds => M.pure (.lst ds)))))) (raiS "BadTerm" "field" (M.pure (.str "operands"))) (fun ρ ω => some (.nx ρ ω)))
  (retS ((consM (M.pure (.str "call")) (consM ((consM (vF 0) (consM (vF 2) (M.pure []))).bind mkTup) (consM (M.pure (.int 1)) (consM (M.pure (.int 1)) (M.pure []))))).bind (mkG "Process" g_mk_Process))))))
theorem d_Process_call {P : Program} {w : World} {K : PySem.W.Frag} {mg : Str → Option Value} {base : Heap} {g_is_name : Fn} {g_is_operand : Fn} {g_mk_Process : Fn} {a : Addr} {cdv : Value} {A : Around} {outer : List PySem.Env} {s : Shared} {H : Hp} {E : XK} (n : En) (B : Blt K mg) (c_is_name : Cal P w K mg base "is_name" P_is_name 1 g_is_name) (c_is_operand : Cal P w K mg base "is_operand" P_is_operand 2 g_is_operand) (c_mk_Process : CalG P w K mg base "Process" P_Process___init__ 1 g_mk_Process) (c_x_BadTerm : CalX P w K mg base "BadTerm" "field" P_x_BadTerm 1)
    (hr : Room 2 (A.deeper (PyProof.Rows.envOfC "Process.call" (defScope s_Process_call) s.heap.objs.size a cdv))) :
    PSs (cxOf (L2.CX P w) P w K mg base N_Process_call "Process.call" (defScope s_Process_call) a cdv A outer s H E) (defBody s_Process_call) (tS ⟨K, mg⟩ n (fun cls d _ H => E cls d H) (b_Process_call g_is_name g_is_operand g_mk_Process)) := by
  unfold b_Process_call
  have tk := takes_of (X := (cxOf (L2.CX P w) P w K mg base N_Process_call "Process.call" (defScope s_Process_call) a cdv A outer s H E)) (E := E) rfl rfl rfl rfl
  have pw := passes_of (X := (cxOf (L2.CX P w) P w K mg base N_Process_call "Process.call" (defScope s_Process_call) a cdv A outer s H E)) rfl
  exact (dss_cons (ds_if (dt_not (dt_truth rfl (dw (de_fn tk c_is_name hr (by decide) rfl (da_cons (de_v 0) da_nil))))) (dss_one (ds_raise tk rfl c_x_BadTerm hr (by decide) rfl de_str)) dss_nil)
  (dss_cons (ds_set (i := 2) sc_Process_call.nd (de_tuple rfl rfl B.b_tuple (dw_v 1)))
  (dss_cons (ds_if (dt_w (dw_or (dt_gt (dw (de_len rfl rfl B.b_len (dw_v 2))) (dw (de_globI B.c_MOST_OPERANDS rfl))) (dw_or1 (dt_not (dt_truth rfl (dw (de_all rfl rfl rfl B.b_all (dw (de_new (dn_lc rfl sc_Process_call.nd (own := [("one", 3)]) (di_own rfl (dw_v 2)) (blkOk_by (own := [("one", 3)]) (N := N_Process_call) (sc := defScope s_Process_call) (by decide +kernel)) (by decide) (fun _ _ _ _ _ => (dg_name 3 sc_Process_call.nd)) (fun _ _ _ _ _ => dts_nil) (fun _ _ _ _ _ => (de_fn takes0 c_is_operand hr (by decide) rfl (da_cons (de_v 3) da_nil))))))))))))) (dss_one (ds_raise tk rfl c_x_BadTerm hr (by decide) rfl de_str)) dss_nil)
  (dss_one (ds_ret (de_makeG tk c_mk_Process hr (by decide) rfl (da_cons de_str (da_cons (de_tup (da_cons (de_v 0) (da_cons (de_v 2) da_nil))) (da_cons de_int (da_cons de_int da_nil))))))))))
theorem k_Process_call {P : Program} {w : World} {K : PySem.W.Frag} {mg : Str → Option Value} {base : Heap} {g_is_name : Fn} {g_is_operand : Fn} {g_mk_Process : Fn} {gg : Fn} (T : FS K mg "Process" "call" "Process.call" s_Process_call) (B : Blt K mg) (c_is_name : Cal P w K mg base "is_name" P_is_name 1 g_is_name) (c_is_operand : Cal P w K mg base "is_operand" P_is_operand 2 g_is_operand) (c_mk_Process : CalG P w K mg base "Process" P_Process___init__ 1 g_mk_Process) (c_x_BadTerm : CalX P w K mg base "BadTerm" "field" P_x_BadTerm 1)
    (hf : ∀ ds ω r, gg ds ω = some r → ds.length = 2 ∧ ∃ rs, b_Process_call g_is_name g_is_operand g_mk_Process (startE N_Process_call ds) ω = some rs ∧ retOf rs = some r) : CalS P w K mg base "Process" "call" P_Process_call 3 gg :=
  calS_of T (fun a fd F => F.binds (ps := P_Process_call) fun _ _ _ _ _ _ us hl => match us, hl with | [_, _], _ => rfl) fun a fd F => fn_x F sc_Process_call (fun ds ω r e => (hf ds ω r e).1) (fun cdv A outer s H E n hr => d_Process_call n B c_is_name c_is_operand c_mk_Process c_x_BadTerm hr) fun ds ω r e => (hf ds ω r e).2

/-! ### Net.__init__ -/
abbrev s_Net___init__ : Stmt := inClass (top 35) 0
abbrev N_Net___init__ : List Str := ["self", "processes"]
abbrev P_Net___init__ : List Str := ["self", "processes"]
theorem sc_Net___init__ : FnScope N_Net___init__ P_Net___init__ (defScope s_Net___init__) := ⟨rfl, rfl, rfl, by decide +kernel, rfl, by decide +kernel, by decide +kernel⟩
def b_Net___init__  : MS :=
  (seqS (ifS (tst (bo gtD (uo lenD (vW 1)) (M.pure (.int 6)))) (raiS "BadTerm" "field" (M.pure (.str "machines"))) (fun ρ ω => some (.nx ρ ω)))
  (fldS ["Book", "Net"] "rows" (vF 0) (uo listD (vW 1))))
theorem d_Net___init__ {P : Program} {w : World} {K : PySem.W.Frag} {mg : Str → Option Value} {base : Heap}  {a : Addr} {cdv : Value} {A : Around} {outer : List PySem.Env} {s : Shared} {H : Hp} {E : XK} (n : En) (B : Blt K mg) (c_x_BadTerm : CalX P w K mg base "BadTerm" "field" P_x_BadTerm 1)
    (hr : Room 2 (A.deeper (PyProof.Rows.envOfC "Net.__init__" (defScope s_Net___init__) s.heap.objs.size a cdv))) :
    PSs (cxOf (L2.CX P w) P w K mg base N_Net___init__ "Net.__init__" (defScope s_Net___init__) a cdv A outer s H E) (defBody s_Net___init__) (tS ⟨K, mg⟩ n (fun cls d _ H => E cls d H) (b_Net___init__)) := by
  unfold b_Net___init__
  have tk := takes_of (X := (cxOf (L2.CX P w) P w K mg base N_Net___init__ "Net.__init__" (defScope s_Net___init__) a cdv A outer s H E)) (E := E) rfl rfl rfl rfl
  have pw := passes_of (X := (cxOf (L2.CX P w) P w K mg base N_Net___init__ "Net.__init__" (defScope s_Net___init__) a cdv A outer s H E)) rfl
  exact (dss_cons (ds_if (dt_gt (dw (de_len rfl rfl B.b_len (dw_v 1))) (dw (de_globI B.c_MOST_MACHINES rfl))) (dss_one (ds_raise tk rfl c_x_BadTerm hr (by decide) rfl de_str)) dss_nil)
  (dss_one (ds_fld rfl B.f_rows (de_v 0) (de_list rfl rfl B.b_list (dw_v 1)))))
theorem k_mk_Net {P : Program} {w : World} {K : PySem.W.Frag} {mg : Str → Option Value} {base : Heap}  {gg : Fn} (T : FI K mg "Net" "Net.__init__" s_Net___init__) (B : Blt K mg) (c_x_BadTerm : CalX P w K mg base "BadTerm" "field" P_x_BadTerm 1)
    (hf : ∀ ds ω r, gg ds ω = some r → ds.length = 2 ∧ ∃ rs, b_Net___init__ (startE N_Net___init__ ds) ω = some rs ∧ retOf rs = some r) : CalG P w K mg base "Net" P_Net___init__ 3 gg :=
  calG_of T (fun a fd F => F.binds (ps := P_Net___init__) fun _ _ _ _ _ _ us hl => match us, hl with | [_, _], _ => rfl) fun a fd F => fn_x F sc_Net___init__ (fun ds ω r e => (hf ds ω r e).1) (fun cdv A outer s H E n hr => d_Net___init__ n B c_x_BadTerm hr) fun ds ω r e => (hf ds ω r e).2

/-! ### Net.__len__ -/
abbrev s_Net___len__ : Stmt := inClass (top 35) 1
abbrev N_Net___len__ : List Str := ["self"]
abbrev P_Net___len__ : List Str := ["self"]
theorem sc_Net___len__ : FnScope N_Net___len__ P_Net___len__ (defScope s_Net___len__) := ⟨rfl, rfl, rfl, by decide +kernel, rfl, by decide +kernel, by decide +kernel⟩
def b_Net___len__  : MS :=
  (retS (uo lenD (uo (fldD ["Book", "Net"] "rows") (vW 0))))
theorem d_Net___len__ {P : Program} {w : World} {K : PySem.W.Frag} {mg : Str → Option Value} {base : Heap}  {a : Addr} {cdv : Value} {A : Around} {outer : List PySem.Env} {s : Shared} {H : Hp} {E : XK} (n : En) (B : Blt K mg)
    (hr : Room 0 (A.deeper (PyProof.Rows.envOfC "Net.__len__" (defScope s_Net___len__) s.heap.objs.size a cdv))) :
    PSs (cxOf (L2.CX P w) P w K mg base N_Net___len__ "Net.__len__" (defScope s_Net___len__) a cdv A outer s H E) (defBody s_Net___len__) (tS ⟨K, mg⟩ n (fun cls d _ H => E cls d H) (b_Net___len__)) := by
  unfold b_Net___len__
  have tk := takes_of (X := (cxOf (L2.CX P w) P w K mg base N_Net___len__ "Net.__len__" (defScope s_Net___len__) a cdv A outer s H E)) (E := E) rfl rfl rfl rfl
  have pw := passes_of (X := (cxOf (L2.CX P w) P w K mg base N_Net___len__ "Net.__len__" (defScope s_Net___len__) a cdv A outer s H E)) rfl
  exact (dss_one (ds_ret (de_len rfl rfl B.b_len (dw (de_fld rfl B.f_rows (dw_v 0))))))
theorem k_Net___len__ {P : Program} {w : World} {K : PySem.W.Frag} {mg : Str → Option Value} {base : Heap}  {gg : Fn} (T : FM K mg "Net" "__len__" "Net.__len__" s_Net___len__) (B : Blt K mg)
    (hf : ∀ ds ω r, gg ds ω = some r → ds.length = 1 ∧ ∃ rs, b_Net___len__ (startE N_Net___len__ ds) ω = some rs ∧ retOf rs = some r) : CalM P w K mg base "Net" "__len__" P_Net___len__ 1 gg :=
  calM_of T (fun a fd F => F.binds (ps := P_Net___len__) fun _ _ _ _ _ _ us hl => match us, hl with | [_], _ => rfl) fun a fd F => fn_x F sc_Net___len__ (fun ds ω r e => (hf ds ω r e).1) (fun cdv A outer s H E n hr => d_Net___len__ n B hr) fun ds ω r e => (hf ds ω r e).2

/-! ### Net.__getitem__ -/
abbrev s_Net___getitem__ : Stmt := inClass (top 35) 2
abbrev N_Net___getitem__ : List Str := ["self", "at"]
abbrev P_Net___getitem__ : List Str := ["self", "at"]
theorem sc_Net___getitem__ : FnScope N_Net___getitem__ P_Net___getitem__ (defScope s_Net___getitem__) := ⟨rfl, rfl, rfl, by decide +kernel, rfl, by decide +kernel, by decide +kernel⟩
def b_Net___getitem__  : MS :=
  (retS (bo ixD (uo (fldD ["Book", "Net"] "rows") (vW 0)) (vW 1)))
theorem d_Net___getitem__ {P : Program} {w : World} {K : PySem.W.Frag} {mg : Str → Option Value} {base : Heap}  {a : Addr} {cdv : Value} {A : Around} {outer : List PySem.Env} {s : Shared} {H : Hp} {E : XK} (n : En) (B : Blt K mg)
    (hr : Room 0 (A.deeper (PyProof.Rows.envOfC "Net.__getitem__" (defScope s_Net___getitem__) s.heap.objs.size a cdv))) :
    PSs (cxOf (L2.CX P w) P w K mg base N_Net___getitem__ "Net.__getitem__" (defScope s_Net___getitem__) a cdv A outer s H E) (defBody s_Net___getitem__) (tS ⟨K, mg⟩ n (fun cls d _ H => E cls d H) (b_Net___getitem__)) := by
  unfold b_Net___getitem__
  have tk := takes_of (X := (cxOf (L2.CX P w) P w K mg base N_Net___getitem__ "Net.__getitem__" (defScope s_Net___getitem__) a cdv A outer s H E)) (E := E) rfl rfl rfl rfl
  have pw := passes_of (X := (cxOf (L2.CX P w) P w K mg base N_Net___getitem__ "Net.__getitem__" (defScope s_Net___getitem__) a cdv A outer s H E)) rfl
  exact (dss_one (ds_ret (de_item rfl (dw (de_fld rfl B.f_rows (dw_v 0))) (dw_v 1))))
theorem k_Net___getitem__ {P : Program} {w : World} {K : PySem.W.Frag} {mg : Str → Option Value} {base : Heap}  {gg : Fn} (T : FM K mg "Net" "__getitem__" "Net.__getitem__" s_Net___getitem__) (B : Blt K mg)
    (hf : ∀ ds ω r, gg ds ω = some r → ds.length = 2 ∧ ∃ rs, b_Net___getitem__ (startE N_Net___getitem__ ds) ω = some rs ∧ retOf rs = some r) : CalM P w K mg base "Net" "__getitem__" P_Net___getitem__ 1 gg :=
  calM_of T (fun a fd F => F.binds (ps := P_Net___getitem__) fun _ _ _ _ _ _ us hl => match us, hl with | [_, _], _ => rfl) fun a fd F => fn_x F sc_Net___getitem__ (fun ds ω r e => (hf ds ω r e).1) (fun cdv A outer s H E n hr => d_Net___getitem__ n B hr) fun ds ω r e => (hf ds ω r e).2

/-! ### check_channels -/
abbrev s_check_channels : Stmt := top 40
abbrev N_check_channels : List Str := ["rows", "machines", "earlier", "name", "seats", "machine"]
abbrev P_check_channels : List Str := ["rows", "machines"]
theorem sc_check_channels : FnScope N_check_channels P_check_channels (defScope s_check_channels) := ⟨rfl, rfl, rfl, by decide +kernel, rfl, by decide +kernel, by decide +kernel⟩
def lb_check_channels_1 (g_is_name : Fn) : MS :=
  (seqS (ifS (orM (notM (truM (calM g_is_name (consM (vF 3) (M.pure []))))) (tst (bo inD (vW 3) (vW 2)))) (raiS "BadTerm" "field" (M.pure (.str "name"))) (fun ρ ω => some (.nx ρ ω)))
  (seqS (ifS (orM (tst (bo ltD (vW 4) (M.pure (.int 1)))) (tst (bo gtD (vW 4) (M.pure (.int 4))))) (raiS "BadTerm" "field" (M.pure (.str "seats"))) (fun ρ ω => some (.nx ρ ω)))
  (seqS (ifS (orM (tst (bo ltD (vW 5) (M.pure (.int 0)))) (tst (bo geD (vW 5) (vW 1)))) (raiS "NoMachine" "machine" (vF 5)) (fun ρ ω => some (.nx ρ ω)))
  (appS 2 (vF 3)))))
def b_check_channels (g_is_name : Fn) : MS :=
  (seqS (setO 2 ((M.pure []).bind lenOk))
  (forS ((vF 0).bind itemsOf) (tupT 3 (consT (nmT 3) (consT (nmT 4) (consT (nmT 5) nilT)))) (lb_check_channels_1 g_is_name)))
theorem d_check_channels {P : Program} {w : World} {K : PySem.W.Frag} {mg : Str → Option Value} {base : Heap} {g_is_name : Fn} {a : Addr} {cdv : Value} {A : Around} {outer : List PySem.Env} {s : Shared} {H : Hp} {E : XK} (n : En) (B : Blt K mg) (c_is_name : Cal P w K mg base "is_name" P_is_name 1 g_is_name) (c_x_BadTerm : CalX P w K mg base "BadTerm" "field" P_x_BadTerm 1) (c_x_NoMachine : CalX P w K mg base "NoMachine" "machine" P_x_NoMachine 1)
    (hr : Room 2 (A.deeper (PyProof.Rows.envOfC "check_channels" (defScope s_check_channels) s.heap.objs.size a cdv))) :
    PSs (cxOf (L2.CX P w) P w K mg base N_check_channels "check_channels" (defScope s_check_channels) a cdv A outer s H E) (defBody s_check_channels) (tS ⟨K, mg⟩ n (fun cls d _ H => E cls d H) (b_check_channels g_is_name)) := by
  unfold b_check_channels
  have tk := takes_of (X := (cxOf (L2.CX P w) P w K mg base N_check_channels "check_channels" (defScope s_check_channels) a cdv A outer s H E)) (E := E) rfl rfl rfl rfl
  have pw := passes_of (X := (cxOf (L2.CX P w) P w K mg base N_check_channels "check_channels" (defScope s_check_channels) a cdv A outer s H E)) rfl
  exact (dss_cons (ds_setO (i := 2) sc_check_channels.nd (dn_lst da_nil))
  (dss_one (ds_for pw rfl (di_data rfl (de_v 0)) (dg_tup rfl rfl (dgs_cons (dg_name 3 sc_check_channels.nd) (dgs_cons (dg_name 4 sc_check_channels.nd) (dgs_cons (dg_name 5 sc_check_channels.nd) dgs_nil)))) (dss_cons (ds_if (dt_w (dw_or (dt_not (dt_truth rfl (dw (de_fn tk c_is_name hr (by decide) rfl (da_cons (de_v 3) da_nil))))) (dw_or1 (dt_in rfl hr (dw_v 3) (dw_v 2))))) (dss_one (ds_raise tk rfl c_x_BadTerm hr (by decide) rfl de_str)) dss_nil)
  (dss_cons (ds_if (dt_w (dw_or (dt_lt (dw_v 4) (dw de_int)) (dw_or1 (dt_gt (dw_v 4) (dw (de_globI B.c_MOST_SEATS rfl)))))) (dss_one (ds_raise tk rfl c_x_BadTerm hr (by decide) rfl de_str)) dss_nil)
  (dss_cons (ds_if (dt_w (dw_or (dt_lt (dw_v 5) (dw de_int)) (dw_or1 (dt_ge (dw_v 5) (dw_v 1))))) (dss_one (ds_raise tk rfl c_x_NoMachine hr (by decide) rfl (de_v 5))) dss_nil)
  (dss_one (ds_app (i := 2) (de_v 3)))))))))
theorem k_check_channels {P : Program} {w : World} {K : PySem.W.Frag} {mg : Str → Option Value} {base : Heap} {g_is_name : Fn} {gg : Fn} (T : FT K mg "check_channels" s_check_channels) (B : Blt K mg) (c_is_name : Cal P w K mg base "is_name" P_is_name 1 g_is_name) (c_x_BadTerm : CalX P w K mg base "BadTerm" "field" P_x_BadTerm 1) (c_x_NoMachine : CalX P w K mg base "NoMachine" "machine" P_x_NoMachine 1)
    (hf : ∀ ds ω r, gg ds ω = some r → ds.length = 2 ∧ ∃ rs, b_check_channels g_is_name (startE N_check_channels ds) ω = some rs ∧ retOf rs = some r) : Cal P w K mg base "check_channels" P_check_channels 3 gg :=
  cal_of T (fun a fd F => F.binds (ps := P_check_channels) fun _ _ _ _ _ _ us hl => match us, hl with | [_, _], _ => rfl) fun a fd F => fn_x F sc_check_channels (fun ds ω r e => (hf ds ω r e).1) (fun cdv A outer s H E n hr => d_check_channels n B c_is_name c_x_BadTerm c_x_NoMachine hr) fun ds ω r e => (hf ds ω r e).2

/-! ### direct_calls -/
abbrev s_direct_calls : Stmt := top 43
abbrev N_direct_calls : List Str := ["process"]
abbrev P_direct_calls : List Str := ["process"]
theorem sc_direct_calls : FnScope N_direct_calls P_direct_calls (defScope s_direct_calls) := ⟨rfl, rfl, rfl, by decide +kernel, rfl, by decide +kernel, by decide +kernel⟩
def b_direct_calls (g_direct_calls : Fn) : MS :=
  (seqS (ifS (tst (bo eqD (uo (fldD ["Process"] "kind") (vW 0)) (M.pure (.str "new")))) (retS (calM g_direct_calls (consM (bo ixD (uo (fldD ["Process"] "parts") (vW 0)) (M.pure (.int 2))) (M.pure [])))) (fun ρ ω => some (.nx ρ ω)))
  (seqS (ifS (tst (bo eqD (uo (fldD ["Process"] "kind") (vW 0)) (M.pure (.str "if")))) (retS (((calM g_direct_calls (consM (bo ixD (uo (fldD ["Process"] "parts") (vW 0)) (M.pure (.int 2))) (M.pure []))).bind fun x => (calM g_direct_calls (consM (bo ixD (uo (fldD ["Process"] "parts") (vW 0)) (M.pure (.int 3))) (M.pure []))).bind fun y => catL x y).bind newS)) (fun ρ ω => some (.nx ρ ω)))
  (seqS (ifS (tst (bo eqD (uo (fldD ["Process"] "kind") (vW 0)) (M.pure (.str "call")))) (retS (((consM (bo ixD (uo (fldD ["Process"] "parts") (vW 0)) (M.pure (.int 0))) (M.pure [])).bind lenOk).bind newS)) (fun ρ ω => some (.nx ρ ω)))
  (retS (((M.pure []).bind lenOk).bind newS)))))
theorem d_direct_calls {P : Program} {w : World} {K : PySem.W.Frag} {mg : Str → Option Value} {base : Heap} {g_direct_calls : Fn} {a : Addr} {cdv : Value} {A : Around} {outer : List PySem.Env} {s : Shared} {H : Hp} {E : XK} (n : En) (B : Blt K mg) {v : Nat} (hv : 0 ≤ v) (c_direct_calls : Cal P w K mg base "direct_calls" P_direct_calls v g_direct_calls)
    (hr : Room (v + 0) (A.deeper (PyProof.Rows.envOfC "direct_calls" (defScope s_direct_calls) s.heap.objs.size a cdv))) :
    PSs (cxOf (L2.CX P w) P w K mg base N_direct_calls "direct_calls" (defScope s_direct_calls) a cdv A outer s H E) (defBody s_direct_calls) (tS ⟨K, mg⟩ n (fun cls d _ H => E cls d H) (b_direct_calls g_direct_calls)) := by
  unfold b_direct_calls
  have tk := takes_of (X := (cxOf (L2.CX P w) P w K mg base N_direct_calls "direct_calls" (defScope s_direct_calls) a cdv A outer s H E)) (E := E) rfl rfl rfl rfl
  have pw := passes_of (X := (cxOf (L2.CX P w) P w K mg base N_direct_calls "direct_calls" (defScope s_direct_calls) a cdv A outer s H E)) rfl
  exact (dss_cons (ds_if (dt_eq rfl hr (dw (de_fld rfl B.f_kind (dw_v 0))) (dw de_str)) (dss_one (ds_ret (de_fn tk c_direct_calls hr (by first | decide | omega) rfl (da_cons (de_item rfl (dw (de_fld rfl B.f_parts (dw_v 0))) (dw de_int)) da_nil)))) dss_nil)
  (dss_cons (ds_if (dt_eq rfl hr (dw (de_fld rfl B.f_kind (dw_v 0))) (dw de_str)) (dss_one (ds_ret (de_newS (dn_cat (dw (de_fn tk c_direct_calls hr (by first | decide | omega) rfl (da_cons (de_item rfl (dw (de_fld rfl B.f_parts (dw_v 0))) (dw de_int)) da_nil))) (dw (de_fn tk c_direct_calls hr (by first | decide | omega) rfl (da_cons (de_item rfl (dw (de_fld rfl B.f_parts (dw_v 0))) (dw de_int)) da_nil))))))) dss_nil)
  (dss_cons (ds_if (dt_eq rfl hr (dw (de_fld rfl B.f_kind (dw_v 0))) (dw de_str)) (dss_one (ds_ret (de_newS (dn_lst (da_cons (de_item rfl (dw (de_fld rfl B.f_parts (dw_v 0))) (dw de_int)) da_nil))))) dss_nil)
  (dss_one (ds_ret (de_newS (dn_lst da_nil)))))))
theorem k_direct_calls {P : Program} {w : World} {K : PySem.W.Frag} {mg : Str → Option Value} {base : Heap} {g_direct_calls : Fn} {gg : Fn} (T : FT K mg "direct_calls" s_direct_calls) (B : Blt K mg) {v : Nat} (hv : 0 ≤ v) (c_direct_calls : Cal P w K mg base "direct_calls" P_direct_calls v g_direct_calls)
    (hf : ∀ ds ω r, gg ds ω = some r → ds.length = 1 ∧ ∃ rs, b_direct_calls g_direct_calls (startE N_direct_calls ds) ω = some rs ∧ retOf rs = some r) : Cal P w K mg base "direct_calls" P_direct_calls (v + 1) gg :=
  cal_of T (fun a fd F => F.binds (ps := P_direct_calls) fun _ _ _ _ _ _ us hl => match us, hl with | [_], _ => rfl) fun a fd F => fn_x F sc_direct_calls (fun ds ω r e => (hf ds ω r e).1) (fun cdv A outer s H E n hr => d_direct_calls n B hv c_direct_calls hr) fun ds ω r e => (hf ds ω r e).2
theorem z_direct_calls {P : Program} {w : World} {K : PySem.W.Frag} {mg : Str → Option Value} {base : Heap} {v : Nat} (T : FT K mg "direct_calls" s_direct_calls) : Cal P w K mg base "direct_calls" P_direct_calls v (fun _ _ => none) :=
  cal_of T (fun a fd F => F.binds (ps := P_direct_calls) fun _ _ _ _ _ _ us hl => match us, hl with | [_], _ => rfl) fun a fd F => fnOk_none

/-! ### check_endless -/
abbrev s_check_endless : Stmt := top 44
abbrev N_check_endless : List Str := ["known", "name", "seen", "waiting", "one"]
abbrev P_check_endless : List Str := ["known"]
theorem sc_check_endless : FnScope N_check_endless P_check_endless (defScope s_check_endless) := ⟨rfl, rfl, rfl, by decide +kernel, rfl, by decide +kernel, by decide +kernel⟩
def lb_check_endless_1 (g_direct_calls : Fn) : MS :=
  (seqS (setS 4 (popM (vF 3)))
  (seqS (ifS (tst (bo eqD (vW 4) (vW 1))) (raiS "Endless" "name" (vF 1)) (fun ρ ω => some (.nx ρ ω)))
  (ifS (tst (bo notInD (vW 4) (vW 2))) (seqS (appS 2 (vF 4))
  (exprS (extM (vF 3) (calM g_direct_calls (consM (uo (fldD ["Definition"] "body") (bo getK (vW 0) (vW 4))) (M.pure [])))))) (fun ρ ω => some (.nx ρ ω)))))
def lb_check_endless_2 (g_direct_calls : Fn) : MS :=
  (seqS (setO 2 ((M.pure []).bind lenOk))
  (seqS (setS 3 (calM g_direct_calls (consM (uo (fldD ["Definition"] "body") (bo getK (vW 0) (vW 1))) (M.pure []))))
  (whileGo (truM (vW 3)) (lb_check_endless_1 g_direct_calls) 1000)))
def b_check_endless (g_direct_calls : Fn) : MS :=
  (forS ((((((vW 0).bind listK).bind fun ds => M.pure (.lst ds)).bind sortL).bind fun ds => M.pure (.lst ds)).bind itemsOf) (nmT 1) (lb_check_endless_2 g_direct_calls))
theorem d_check_endless {P : Program} {w : World} {K : PySem.W.Frag} {mg : Str → Option Value} {base : Heap} {g_direct_calls : Fn} {a : Addr} {cdv : Value} {A : Around} {outer : List PySem.Env} {s : Shared} {H : Hp} {E : XK} (n : En) (B : Blt K mg) (c_direct_calls : Cal P w K mg base "direct_calls" P_direct_calls 8 g_direct_calls) (c_x_Endless : CalX P w K mg base "Endless" "name" P_x_Endless 1)
    (hr : Room 8 (A.deeper (PyProof.Rows.envOfC "check_endless" (defScope s_check_endless) s.heap.objs.size a cdv))) :
    PSs (cxOf (L2.CX P w) P w K mg base N_check_endless "check_endless" (defScope s_check_endless) a cdv A outer s H E) (defBody s_check_endless) (tS ⟨K, mg⟩ n (fun cls d _ H => E cls d H) (b_check_endless g_direct_calls)) := by
  unfold b_check_endless
  have tk := takes_of (X := (cxOf (L2.CX P w) P w K mg base N_check_endless "check_endless" (defScope s_check_endless) a cdv A outer s H E)) (E := E) rfl rfl rfl rfl
  have pw := passes_of (X := (cxOf (L2.CX P w) P w K mg base N_check_endless "check_endless" (defScope s_check_endless) a cdv A outer s H E)) rfl
  exact (dss_one (ds_for pw rfl (di_data rfl (de_new (dn_sort rfl rfl B.b_sorted (dw (de_new (dn_listK rfl rfl B.b_list (dw_v 0))))))) (dg_name 1 sc_check_endless.nd) (dss_cons (ds_setO (i := 2) sc_check_endless.nd (dn_lst da_nil))
  (dss_cons (ds_set (i := 3) sc_check_endless.nd (de_fn tk c_direct_calls hr (by decide) rfl (da_cons (de_fld rfl B.f_body (dw (de_getK hr (dw_v 0) (dw_v 1)))) da_nil)))
  (dss_one (ds_while 1000 pw (dt_truth rfl (dw_v 3)) (dss_cons (ds_set (i := 4) sc_check_endless.nd (de_pop (de_v 3)))
  (dss_cons (ds_if (dt_eq rfl hr (dw_v 4) (dw_v 1)) (dss_one (ds_raise tk rfl c_x_Endless hr (by decide) rfl (de_v 1))) dss_nil)
  (dss_one (ds_if (dt_notin rfl hr (dw_v 4) (dw_v 2)) (dss_cons (ds_app (i := 2) (de_v 4))
  (dss_one (ds_expr (de_extend (de_v 3) (dw (de_fn tk c_direct_calls hr (by decide) rfl (da_cons (de_fld rfl B.f_body (dw (de_getK hr (dw_v 0) (dw_v 4)))) da_nil))))))) dss_nil))))))))))
theorem k_check_endless {P : Program} {w : World} {K : PySem.W.Frag} {mg : Str → Option Value} {base : Heap} {g_direct_calls : Fn} {gg : Fn} (T : FT K mg "check_endless" s_check_endless) (B : Blt K mg) (c_direct_calls : Cal P w K mg base "direct_calls" P_direct_calls 8 g_direct_calls) (c_x_Endless : CalX P w K mg base "Endless" "name" P_x_Endless 1)
    (hf : ∀ ds ω r, gg ds ω = some r → ds.length = 1 ∧ ∃ rs, b_check_endless g_direct_calls (startE N_check_endless ds) ω = some rs ∧ retOf rs = some r) : Cal P w K mg base "check_endless" P_check_endless 9 gg :=
  cal_of T (fun a fd F => F.binds (ps := P_check_endless) fun _ _ _ _ _ _ us hl => match us, hl with | [_], _ => rfl) fun a fd F => fn_x F sc_check_endless (fun ds ω r e => (hf ds ω r e).1) (fun cdv A outer s H E n hr => d_check_endless n B c_direct_calls c_x_Endless hr) fun ds ω r e => (hf ds ω r e).2

/-! ### check_operand -/
abbrev s_check_operand : Stmt := top 41
abbrev N_check_operand : List Str := ["operand", "bound"]
abbrev P_check_operand : List Str := ["operand", "bound"]
theorem sc_check_operand : FnScope N_check_operand P_check_operand (defScope s_check_operand) := ⟨rfl, rfl, rfl, by decide +kernel, rfl, by decide +kernel, by decide +kernel⟩
def b_check_operand  : MS :=
  (ifS (andM (truM (uo (isiB "str") (vW 0))) (tst (bo notInD (vW 0) (vW 1)))) (raiS "NoName" "name" (vF 0)) (fun ρ ω => some (.nx ρ ω)))
theorem d_check_operand {P : Program} {w : World} {K : PySem.W.Frag} {mg : Str → Option Value} {base : Heap}  {a : Addr} {cdv : Value} {A : Around} {outer : List PySem.Env} {s : Shared} {H : Hp} {E : XK} (n : En) (B : Blt K mg) (c_x_NoName : CalX P w K mg base "NoName" "name" P_x_NoName 1)
    (hr : Room 2 (A.deeper (PyProof.Rows.envOfC "check_operand" (defScope s_check_operand) s.heap.objs.size a cdv))) :
    PSs (cxOf (L2.CX P w) P w K mg base N_check_operand "check_operand" (defScope s_check_operand) a cdv A outer s H E) (defBody s_check_operand) (tS ⟨K, mg⟩ n (fun cls d _ H => E cls d H) (b_check_operand)) := by
  unfold b_check_operand
  have tk := takes_of (X := (cxOf (L2.CX P w) P w K mg base N_check_operand "check_operand" (defScope s_check_operand) a cdv A outer s H E)) (E := E) rfl rfl rfl rfl
  have pw := passes_of (X := (cxOf (L2.CX P w) P w K mg base N_check_operand "check_operand" (defScope s_check_operand) a cdv A outer s H E)) rfl
  exact (dss_one (ds_if (dt_w (dw_and (dt_truth rfl (dw (de_isiB rfl B.b_isinstance rfl B.b_str (by decide +kernel) (dw_v 0)))) (dw_and1 (dt_notin rfl hr (dw_v 0) (dw_v 1))))) (dss_one (ds_raise tk rfl c_x_NoName hr (by decide) rfl (de_v 0))) dss_nil))
theorem k_check_operand {P : Program} {w : World} {K : PySem.W.Frag} {mg : Str → Option Value} {base : Heap}  {gg : Fn} (T : FT K mg "check_operand" s_check_operand) (B : Blt K mg) (c_x_NoName : CalX P w K mg base "NoName" "name" P_x_NoName 1)
    (hf : ∀ ds ω r, gg ds ω = some r → ds.length = 2 ∧ ∃ rs, b_check_operand (startE N_check_operand ds) ω = some rs ∧ retOf rs = some r) : Cal P w K mg base "check_operand" P_check_operand 3 gg :=
  cal_of T (fun a fd F => F.binds (ps := P_check_operand) fun _ _ _ _ _ _ us hl => match us, hl with | [_, _], _ => rfl) fun a fd F => fn_x F sc_check_operand (fun ds ω r e => (hf ds ω r e).1) (fun cdv A outer s H E n hr => d_check_operand n B c_x_NoName hr) fun ds ω r e => (hf ds ω r e).2

/-! ### check_names -/
abbrev s_check_names : Stmt := top 42
abbrev N_check_names : List Str := ["process", "bound", "known", "channel", "seat", "seats", "operand", "names", "rest", "name", "left", "right", "yes", "no", "operands"]
abbrev P_check_names : List Str := ["process", "bound", "known"]
theorem sc_check_names : FnScope N_check_names P_check_names (defScope s_check_names) := ⟨rfl, rfl, rfl, by decide +kernel, rfl, by decide +kernel, by decide +kernel⟩
def lb_check_names_1 (g_check_names : Fn) (g_check_operand : Fn) : MS :=
  (seqS (exprS (calM g_check_operand (consM (vF 3) (consM (vF 1) (M.pure [])))))
  (seqS (exprS (calM g_check_operand (consM (vF 6) (consM (vF 1) (M.pure [])))))
  (exprS (calM g_check_names (consM (vF 8) (consM (bo addD (vW 1) (vW 7)) (consM (vF 2) (M.pure []))))))))
def lb_check_names_2 (g_check_operand : Fn) : MS :=
  (exprS (calM g_check_operand (consM (vF 6) (consM (vF 1) (M.pure [])))))
def b_check_names (g_check_names : Fn) (g_check_operand : Fn) : MS :=
  (ifS (tst (bo eqD (uo (fldD ["Process"] "kind") (vW 0)) (M.pure (.str "choice")))) (forS ((uo (fldD ["Process"] "parts") (vW 0)).bind itemsOf) (tupT 6 (consT (nmT 3) (consT (nmT 4) (consT (nmT 5) (consT (nmT 6) (consT (nmT 7) (consT (nmT 8) nilT))))))) (lb_check_names_1 g_check_names g_check_operand)) (ifS (tst (bo eqD (uo (fldD ["Process"] "kind") (vW 0)) (M.pure (.str "new")))) (seqS (asgS (uo (fldD ["Process"] "parts") (vW 0)) (tupT 3 (consT (nmT 9) (consT (nmT 5) (consT (nmT 8) nilT)))))
  (exprS (calM g_check_names (consM (vF 8) (consM (bo addD (vW 1) ((consM (vF 9) (M.pure [])).bind mkTup)) (consM (vF 2) (M.pure []))))))) (ifS (tst (bo eqD (uo (fldD ["Process"] "kind") (vW 0)) (M.pure (.str "if")))) (seqS (asgS (uo (fldD ["Process"] "parts") (vW 0)) (tupT 4 (consT (nmT 10) (consT (nmT 11) (consT (nmT 12) (consT (nmT 13) nilT))))))
  (seqS (exprS (calM g_check_operand (consM (vF 10) (consM (vF 1) (M.pure [])))))
  (seqS (exprS (calM g_check_operand (consM (vF 11) (consM (vF 1) (M.pure [])))))
  (seqS (exprS (calM g_check_names (consM (vF 12) (consM (vF 1) (consM (vF 2) (M.pure []))))))
  (exprS (calM g_check_names (consM (vF 13) (consM (vF 1) (consM (vF 2) (M.pure [])))))))))) (seqS (asgS (uo (fldD ["Process"] "parts") (vW 0)) (tupT 2 (consT (nmT 9) (consT (nmT 14) nilT))))
  (seqS (ifS (tst (bo ninK (vW 9) (vW 2))) (raiS "NoName" "name" (vF 9)) (fun ρ ω => some (.nx ρ ω)))
  (seqS (ifS (tst (bo neD (uo lenD (vW 14)) (uo lenD (uo (fldD ["Definition"] "params") (bo getK (vW 2) (vW 9)))))) (raiS "WrongCount" "name" (vF 9)) (fun ρ ω => some (.nx ρ ω)))
  (forS ((vF 14).bind itemsOf) (nmT 6) (lb_check_names_2 g_check_operand))))))))
theorem d_check_names {P : Program} {w : World} {K : PySem.W.Frag} {mg : Str → Option Value} {base : Heap} {g_check_names : Fn} {g_check_operand : Fn} {a : Addr} {cdv : Value} {A : Around} {outer : List PySem.Env} {s : Shared} {H : Hp} {E : XK} (n : En) (B : Blt K mg) {v : Nat} (hv : 3 ≤ v) (c_check_names : Cal P w K mg base "check_names" P_check_names v g_check_names) (c_check_operand : Cal P w K mg base "check_operand" P_check_operand 3 g_check_operand) (c_x_NoName : CalX P w K mg base "NoName" "name" P_x_NoName 1) (c_x_WrongCount : CalX P w K mg base "WrongCount" "name" P_x_WrongCount 1)
    (hr : Room (v + 0) (A.deeper (PyProof.Rows.envOfC "check_names" (defScope s_check_names) s.heap.objs.size a cdv))) :
    PSs (cxOf (L2.CX P w) P w K mg base N_check_names "check_names" (defScope s_check_names) a cdv A outer s H E) (defBody s_check_names) (tS ⟨K, mg⟩ n (fun cls d _ H => E cls d H) (b_check_names g_check_names g_check_operand)) := by
  unfold b_check_names
  have tk := takes_of (X := (cxOf (L2.CX P w) P w K mg base N_check_names "check_names" (defScope s_check_names) a cdv A outer s H E)) (E := E) rfl rfl rfl rfl
  have pw := passes_of (X := (cxOf (L2.CX P w) P w K mg base N_check_names "check_names" (defScope s_check_names) a cdv A outer s H E)) rfl
  exact (dss_one (ds_if (dt_eq rfl hr (dw (de_fld rfl B.f_kind (dw_v 0))) (dw de_str)) (dss_one (ds_for pw rfl (di_data rfl (de_fld rfl B.f_parts (dw_v 0))) (dg_tup rfl rfl (dgs_cons (dg_name 3 sc_check_names.nd) (dgs_cons (dg_name 4 sc_check_names.nd) (dgs_cons (dg_name 5 sc_check_names.nd) (dgs_cons (dg_name 6 sc_check_names.nd) (dgs_cons (dg_name 7 sc_check_names.nd) (dgs_cons (dg_name 8 sc_check_names.nd) dgs_nil))))))) (dss_cons (ds_expr (de_fn tk c_check_operand hr (by first | decide | omega) rfl (da_cons (de_v 3) (da_cons (de_v 1) da_nil))))
  (dss_cons (ds_expr (de_fn tk c_check_operand hr (by first | decide | omega) rfl (da_cons (de_v 6) (da_cons (de_v 1) da_nil))))
  (dss_one (ds_expr (de_fn tk c_check_names hr (by first | decide | omega) rfl (da_cons (de_v 8) (da_cons (de_add rfl (dw_v 1) (dw_v 7)) (da_cons (de_v 2) da_nil)))))))))) (dss_one (ds_if (dt_eq rfl hr (dw (de_fld rfl B.f_kind (dw_v 0))) (dw de_str)) (dss_cons (ds_asg (de_fld rfl B.f_parts (dw_v 0)) (dg_tup rfl rfl (dgs_cons (dg_name 9 sc_check_names.nd) (dgs_cons (dg_name 5 sc_check_names.nd) (dgs_cons (dg_name 8 sc_check_names.nd) dgs_nil)))))
  (dss_one (ds_expr (de_fn tk c_check_names hr (by first | decide | omega) rfl (da_cons (de_v 8) (da_cons (de_add rfl (dw_v 1) (dw (de_tup (da_cons (de_v 9) da_nil)))) (da_cons (de_v 2) da_nil))))))) (dss_one (ds_if (dt_eq rfl hr (dw (de_fld rfl B.f_kind (dw_v 0))) (dw de_str)) (dss_cons (ds_asg (de_fld rfl B.f_parts (dw_v 0)) (dg_tup rfl rfl (dgs_cons (dg_name 10 sc_check_names.nd) (dgs_cons (dg_name 11 sc_check_names.nd) (dgs_cons (dg_name 12 sc_check_names.nd) (dgs_cons (dg_name 13 sc_check_names.nd) dgs_nil))))))
  (dss_cons (ds_expr (de_fn tk c_check_operand hr (by first | decide | omega) rfl (da_cons (de_v 10) (da_cons (de_v 1) da_nil))))
  (dss_cons (ds_expr (de_fn tk c_check_operand hr (by first | decide | omega) rfl (da_cons (de_v 11) (da_cons (de_v 1) da_nil))))
  (dss_cons (ds_expr (de_fn tk c_check_names hr (by first | decide | omega) rfl (da_cons (de_v 12) (da_cons (de_v 1) (da_cons (de_v 2) da_nil)))))
  (dss_one (ds_expr (de_fn tk c_check_names hr (by first | decide | omega) rfl (da_cons (de_v 13) (da_cons (de_v 1) (da_cons (de_v 2) da_nil)))))))))) (dss_cons (ds_asg (de_fld rfl B.f_parts (dw_v 0)) (dg_tup rfl rfl (dgs_cons (dg_name 9 sc_check_names.nd) (dgs_cons (dg_name 14 sc_check_names.nd) dgs_nil))))
  (dss_cons (ds_if (dt_ninK hr (dw_v 9) (dw_v 2)) (dss_one (ds_raise tk rfl c_x_NoName hr (by first | decide | omega) rfl (de_v 9))) dss_nil)
  (dss_cons (ds_if (dt_ne rfl hr (dw (de_len rfl rfl B.b_len (dw_v 14))) (dw (de_len rfl rfl B.b_len (dw (de_fld rfl B.f_params (dw (de_getK hr (dw_v 2) (dw_v 9)))))))) (dss_one (ds_raise tk rfl c_x_WrongCount hr (by first | decide | omega) rfl (de_v 9))) dss_nil)
  (dss_one (ds_for pw rfl (di_data rfl (de_v 14)) (dg_name 6 sc_check_names.nd) (dss_one (ds_expr (de_fn tk c_check_operand hr (by first | decide | omega) rfl (da_cons (de_v 6) (da_cons (de_v 1) da_nil))))))))))))))))
theorem k_check_names {P : Program} {w : World} {K : PySem.W.Frag} {mg : Str → Option Value} {base : Heap} {g_check_names : Fn} {g_check_operand : Fn} {gg : Fn} (T : FT K mg "check_names" s_check_names) (B : Blt K mg) {v : Nat} (hv : 3 ≤ v) (c_check_names : Cal P w K mg base "check_names" P_check_names v g_check_names) (c_check_operand : Cal P w K mg base "check_operand" P_check_operand 3 g_check_operand) (c_x_NoName : CalX P w K mg base "NoName" "name" P_x_NoName 1) (c_x_WrongCount : CalX P w K mg base "WrongCount" "name" P_x_WrongCount 1)
    (hf : ∀ ds ω r, gg ds ω = some r → ds.length = 3 ∧ ∃ rs, b_check_names g_check_names g_check_operand (startE N_check_names ds) ω = some rs ∧ retOf rs = some r) : Cal P w K mg base "check_names" P_check_names (v + 1) gg :=
  cal_of T (fun a fd F => F.binds (ps := P_check_names) fun _ _ _ _ _ _ us hl => match us, hl with | [_, _, _], _ => rfl) fun a fd F => fn_x F sc_check_names (fun ds ω r e => (hf ds ω r e).1) (fun cdv A outer s H E n hr => d_check_names n B hv c_check_names c_check_operand c_x_NoName c_x_WrongCount hr) fun ds ω r e => (hf ds ω r e).2
theorem z_check_names {P : Program} {w : World} {K : PySem.W.Frag} {mg : Str → Option Value} {base : Heap} {v : Nat} (T : FT K mg "check_names" s_check_names) : Cal P w K mg base "check_names" P_check_names v (fun _ _ => none) :=
  cal_of T (fun a fd F => F.binds (ps := P_check_names) fun _ _ _ _ _ _ us hl => match us, hl with | [_, _, _], _ => rfl) fun a fd F => fnOk_none

/-! ### Program.__init__ -/
abbrev s_Program___init__ : Stmt := inClass (top 39) 0
abbrev N_Program___init__ : List Str := ["self", "channels", "book", "net", "outer", "name", "definition", "process", "row", "k"]
abbrev P_Program___init__ : List Str := ["self", "channels", "book", "net"]
theorem sc_Program___init__ : FnScope N_Program___init__ P_Program___init__ (defScope s_Program___init__) := ⟨rfl, rfl, rfl, by decide +kernel, rfl, by decide +kernel, by decide +kernel⟩
def cm_Program___init___1  : M (List D) :=
  (lcM [8] ((vW 1).bind itemsOf) (nmT 8) (M.pure true) (uo tupleD (vW 8)))
def dc_Program___init___1 (g_Book___getitem__ : Fn) : M D :=
  (dcM [5] ((vF 2).bind (ownK "Book" "rows")) (nmT 5) (M.pure true) (vF 5) (ixO [("Book", g_Book___getitem__)] (vF 2) (vF 5)))
def cm_Program___init___2 (g_Net___getitem__ : Fn) (g_Net___len__ : Fn) : M (List D) :=
  (lcM [9] ((lenO [("Net", g_Net___len__)] (vF 3)).bind rng1) (nmT 9) (M.pure true) (ixO [("Net", g_Net___getitem__)] (vF 3) (vF 9)))
def cm_Program___init___3  : M (List D) :=
  (lcM [8] ((uo (fldD ["Program"] "channel_rows") (vW 0)).bind itemsOf) (nmT 8) (M.pure true) (bo ixD (vW 8) (M.pure (.int 0))))
def lb_Program___init___1 (g_check_names : Fn) : MS :=
  (seqS (setS 6 (bo getK (uo (fldD ["Program"] "known") (vW 0)) (vW 5)))
  (exprS (calM g_check_names (consM (uo (fldD ["Definition"] "body") (vW 6)) (consM (bo addD (vW 4) (uo (fldD ["Definition"] "params") (vW 6))) (consM (uo (fldD ["Program"] "known") (vW 0)) (M.pure [])))))))
def lb_Program___init___2 (g_check_names : Fn) : MS :=
  (exprS (calM g_check_names (consM (vF 7) (consM (vF 4) (consM (uo (fldD ["Program"] "known") (vW 0)) (M.pure []))))))
def b_Program___init__ (g_Book___getitem__ : Fn) (g_Net___getitem__ : Fn) (g_Net___len__ : Fn) (g_check_channels : Fn) (g_check_endless : Fn) (g_check_names : Fn) : MS :=
  (seqS (ifS (tst (bo ltD (lenO [("Net", g_Net___len__)] (vF 3)) (M.pure (.int 1)))) (raiS "BadTerm" "field" (M.pure (.str "machines"))) (fun ρ ω => some (.nx ρ ω)))
  (seqS (ifS (tst (bo gtD (uo lenD (vW 1)) (M.pure (.int 8)))) (raiS "BadTerm" "field" (M.pure (.str "channels"))) (fun ρ ω => some (.nx ρ ω)))
  (seqS (fldS ["Program"] "machines" (vF 0) (lenO [("Net", g_Net___len__)] (vF 3)))
  (seqS (fldS ["Program"] "channel_rows" (vF 0) (cm_Program___init___1.bind fun ds => M.pure (.lst ds)))
  (seqS (lockS (uo (fldD ["Book"] "rows") (vW 2)) (fldS ["Program"] "known" (vF 0) (dc_Program___init___1 g_Book___getitem__)))
  (seqS (fldS ["Program"] "starts" (vF 0) ((cm_Program___init___2 g_Net___getitem__ g_Net___len__).bind fun ds => M.pure (.lst ds)))
  (seqS (exprS (calM g_check_channels (consM (uo (fldD ["Program"] "channel_rows") (vW 0)) (consM (uo (fldD ["Program"] "machines") (vW 0)) (M.pure [])))))
  (seqS (setS 4 (uo tupleD (cm_Program___init___3.bind fun ds => M.pure (.lst ds))))
  (seqS (forS ((((((uo (fldD ["Program"] "known") (vW 0)).bind listK).bind fun ds => M.pure (.lst ds)).bind sortL).bind fun ds => M.pure (.lst ds)).bind itemsOf) (nmT 5) (lb_Program___init___1 g_check_names))
  (seqS (forS ((uo (fldD ["Program"] "starts") (vW 0)).bind itemsOf) (nmT 7) (lb_Program___init___2 g_check_names))
  (exprS (calM g_check_endless (consM (uo (fldD ["Program"] "known") (vW 0)) (M.pure []))))))))))))))
theorem d_Program___init__ {P : Program} {w : World} {K : PySem.W.Frag} {mg : Str → Option Value} {base : Heap} {g_Book___getitem__ : Fn} {g_Net___getitem__ : Fn} {g_Net___len__ : Fn} {g_check_channels : Fn} {g_check_endless : Fn} {g_check_names : Fn} {a : Addr} {cdv : Value} {A : Around} {outer : List PySem.Env} {s : Shared} {H : Hp} {E : XK} (n : En) (B : Blt K mg) (c_Book___getitem__ : CalM P w K mg base "Book" "__getitem__" P_Book___getitem__ 3 g_Book___getitem__) (c_Net___getitem__ : CalM P w K mg base "Net" "__getitem__" P_Net___getitem__ 1 g_Net___getitem__) (c_Net___len__ : CalM P w K mg base "Net" "__len__" P_Net___len__ 1 g_Net___len__) (c_check_channels : Cal P w K mg base "check_channels" P_check_channels 3 g_check_channels) (c_check_endless : Cal P w K mg base "check_endless" P_check_endless 9 g_check_endless) (c_check_names : Cal P w K mg base "check_names" P_check_names 11 g_check_names) (c_it_Book : CalIt P w K mg base "Book" "rows" P_it_Book) (c_x_BadTerm : CalX P w K mg base "BadTerm" "field" P_x_BadTerm 1)
    (hr : Room 11 (A.deeper (PyProof.Rows.envOfC "Program.__init__" (defScope s_Program___init__) s.heap.objs.size a cdv))) :
    PSs (cxOf (L2.CX P w) P w K mg base N_Program___init__ "Program.__init__" (defScope s_Program___init__) a cdv A outer s H E) (defBody s_Program___init__) (tS ⟨K, mg⟩ n (fun cls d _ H => E cls d H) (b_Program___init__ g_Book___getitem__ g_Net___getitem__ g_Net___len__ g_check_channels g_check_endless g_check_names)) := by
  unfold b_Program___init__
  have tk := takes_of (X := (cxOf (L2.CX P w) P w K mg base N_Program___init__ "Program.__init__" (defScope s_Program___init__) a cdv A outer s H E)) (E := E) rfl rfl rfl rfl
  have pw := passes_of (X := (cxOf (L2.CX P w) P w K mg base N_Program___init__ "Program.__init__" (defScope s_Program___init__) a cdv A outer s H E)) rfl
  exact (dss_cons (ds_if (dt_lt (dw (de_lenO (k := 1) tk (cms_cons c_Net___len__ (by decide) cms_nil) hr (by decide) rfl B.b_len (de_v 3))) (dw de_int)) (dss_one (ds_raise tk rfl c_x_BadTerm hr (by decide) rfl de_str)) dss_nil)
  (dss_cons (ds_if (dt_gt (dw (de_len rfl rfl B.b_len (dw_v 1))) (dw (de_globI B.c_MOST_CHANNELS rfl))) (dss_one (ds_raise tk rfl c_x_BadTerm hr (by decide) rfl de_str)) dss_nil)
  (dss_cons (ds_fld rfl B.f_machines (de_v 0) (de_lenO (k := 1) tk (cms_cons c_Net___len__ (by decide) cms_nil) hr (by decide) rfl B.b_len (de_v 3)))
  (dss_cons (ds_fld rfl B.f_channel_rows (de_v 0) (de_new (dn_lc rfl sc_Program___init__.nd (own := [("row", 8)]) (di_own rfl (dw_v 1)) (blkOk_by (own := [("row", 8)]) (N := N_Program___init__) (sc := defScope s_Program___init__) (by decide +kernel)) (by decide) (fun _ _ _ _ _ => (dg_name 8 sc_Program___init__.nd)) (fun _ _ _ _ _ => dts_nil) (fun _ _ _ _ _ => (de_tuple rfl rfl B.b_tuple (dw_v 8))))))
  (dss_cons (ds_lock (uo (fldD ["Book"] "rows") (vW 2)) (ds_fld rfl B.f_known (de_v 0) (de_dc rfl sc_Program___init__.nd (own := [("name", 5)]) (di_ownS c_it_Book rfl hr (by decide) (de_v 2)) (blkOk_by (own := [("name", 5)]) (N := N_Program___init__) (sc := defScope s_Program___init__) (by decide +kernel)) (by decide) (fun _ _ _ _ _ => (dg_name 5 sc_Program___init__.nd)) (fun _ _ _ _ _ => dts_nil) (fun _ _ _ _ _ => (de_v 5)) (fun _ _ _ _ _ => (de_ixO (k := 3) takes0 (cms_cons c_Book___getitem__ (by decide) cms_nil) hr (by decide) (de_v 2) (de_v 5))))))
  (dss_cons (ds_fld rfl B.f_starts (de_v 0) (de_new (dn_lc rfl sc_Program___init__.nd (own := [("k", 9)]) (di_s (di_range1 rfl B.b_range (de_lenO (k := 1) tk (cms_cons c_Net___len__ (by decide) cms_nil) hr (by decide) rfl B.b_len (de_v 3)))) (blkOk_by (own := [("k", 9)]) (N := N_Program___init__) (sc := defScope s_Program___init__) (by decide +kernel)) (by decide) (fun _ _ _ _ _ => (dg_name 9 sc_Program___init__.nd)) (fun _ _ _ _ _ => dts_nil) (fun _ _ _ _ _ => (de_ixO (k := 1) takes0 (cms_cons c_Net___getitem__ (by decide) cms_nil) hr (by decide) (de_v 3) (de_v 9))))))
  (dss_cons (ds_expr (de_fn tk c_check_channels hr (by decide) rfl (da_cons (de_fld rfl B.f_channel_rows (dw_v 0)) (da_cons (de_fld rfl B.f_machines (dw_v 0)) da_nil))))
  (dss_cons (ds_set (i := 4) sc_Program___init__.nd (de_tuple rfl rfl B.b_tuple (dw (de_new (dn_lc rfl sc_Program___init__.nd (own := [("row", 8)]) (di_own rfl (dw (de_fld rfl B.f_channel_rows (dw_v 0)))) (blkOk_by (own := [("row", 8)]) (N := N_Program___init__) (sc := defScope s_Program___init__) (by decide +kernel)) (by decide) (fun _ _ _ _ _ => (dg_name 8 sc_Program___init__.nd)) (fun _ _ _ _ _ => dts_nil) (fun _ _ _ _ _ => (de_item rfl (dw_v 8) (dw de_int))))))))
  (dss_cons (ds_for pw rfl (di_data rfl (de_new (dn_sort rfl rfl B.b_sorted (dw (de_new (dn_listK rfl rfl B.b_list (dw (de_fld rfl B.f_known (dw_v 0))))))))) (dg_name 5 sc_Program___init__.nd) (dss_cons (ds_set (i := 6) sc_Program___init__.nd (de_getK hr (dw (de_fld rfl B.f_known (dw_v 0))) (dw_v 5)))
  (dss_one (ds_expr (de_fn tk c_check_names hr (by decide) rfl (da_cons (de_fld rfl B.f_body (dw_v 6)) (da_cons (de_add rfl (dw_v 4) (dw (de_fld rfl B.f_params (dw_v 6)))) (da_cons (de_fld rfl B.f_known (dw_v 0)) da_nil))))))))
  (dss_cons (ds_for pw rfl (di_data rfl (de_fld rfl B.f_starts (dw_v 0))) (dg_name 7 sc_Program___init__.nd) (dss_one (ds_expr (de_fn tk c_check_names hr (by decide) rfl (da_cons (de_v 7) (da_cons (de_v 4) (da_cons (de_fld rfl B.f_known (dw_v 0)) da_nil)))))))
  (dss_one (ds_expr (de_fn tk c_check_endless hr (by decide) rfl (da_cons (de_fld rfl B.f_known (dw_v 0)) da_nil))))))))))))))
theorem k_mk_Program {P : Program} {w : World} {K : PySem.W.Frag} {mg : Str → Option Value} {base : Heap} {g_Book___getitem__ : Fn} {g_Net___getitem__ : Fn} {g_Net___len__ : Fn} {g_check_channels : Fn} {g_check_endless : Fn} {g_check_names : Fn} {gg : Fn} (T : FI K mg "Program" "Program.__init__" s_Program___init__) (B : Blt K mg) (c_Book___getitem__ : CalM P w K mg base "Book" "__getitem__" P_Book___getitem__ 3 g_Book___getitem__) (c_Net___getitem__ : CalM P w K mg base "Net" "__getitem__" P_Net___getitem__ 1 g_Net___getitem__) (c_Net___len__ : CalM P w K mg base "Net" "__len__" P_Net___len__ 1 g_Net___len__) (c_check_channels : Cal P w K mg base "check_channels" P_check_channels 3 g_check_channels) (c_check_endless : Cal P w K mg base "check_endless" P_check_endless 9 g_check_endless) (c_check_names : Cal P w K mg base "check_names" P_check_names 11 g_check_names) (c_it_Book : CalIt P w K mg base "Book" "rows" P_it_Book) (c_x_BadTerm : CalX P w K mg base "BadTerm" "field" P_x_BadTerm 1)
    (hf : ∀ ds ω r, gg ds ω = some r → ds.length = 4 ∧ ∃ rs, b_Program___init__ g_Book___getitem__ g_Net___getitem__ g_Net___len__ g_check_channels g_check_endless g_check_names (startE N_Program___init__ ds) ω = some rs ∧ retOf rs = some r) : CalG P w K mg base "Program" P_Program___init__ 12 gg :=
  calG_of T (fun a fd F => F.binds (ps := P_Program___init__) fun _ _ _ _ _ _ us hl => match us, hl with | [_, _, _, _], _ => rfl) fun a fd F => fn_x F sc_Program___init__ (fun ds ω r e => (hf ds ω r e).1) (fun cdv A outer s H E n hr => d_Program___init__ n B c_Book___getitem__ c_Net___getitem__ c_Net___len__ c_check_channels c_check_endless c_check_names c_it_Book c_x_BadTerm hr) fun ds ω r e => (hf ds ω r e).2

/-! ### Program.declared -/
abbrev s_Program_declared : Stmt := inClass (top 39) 2
abbrev N_Program_declared : List Str := ["self"]
abbrev P_Program_declared : List Str := ["self"]
theorem sc_Program_declared : FnScope N_Program_declared P_Program_declared (defScope s_Program_declared) := ⟨rfl, rfl, rfl, by decide +kernel, rfl, by decide +kernel, by decide +kernel⟩
def b_Program_declared  : MS :=
  (retS (uo listD (uo (fldD ["Program"] "channel_rows") (vW 0))))
theorem d_Program_declared {P : Program} {w : World} {K : PySem.W.Frag} {mg : Str → Option Value} {base : Heap}  {a : Addr} {cdv : Value} {A : Around} {outer : List PySem.Env} {s : Shared} {H : Hp} {E : XK} (n : En) (B : Blt K mg)
    (hr : Room 0 (A.deeper (PyProof.Rows.envOfC "Program.declared" (defScope s_Program_declared) s.heap.objs.size a cdv))) :
    PSs (cxOf (L2.CX P w) P w K mg base N_Program_declared "Program.declared" (defScope s_Program_declared) a cdv A outer s H E) (defBody s_Program_declared) (tS ⟨K, mg⟩ n (fun cls d _ H => E cls d H) (b_Program_declared)) := by
  unfold b_Program_declared
  have tk := takes_of (X := (cxOf (L2.CX P w) P w K mg base N_Program_declared "Program.declared" (defScope s_Program_declared) a cdv A outer s H E)) (E := E) rfl rfl rfl rfl
  have pw := passes_of (X := (cxOf (L2.CX P w) P w K mg base N_Program_declared "Program.declared" (defScope s_Program_declared) a cdv A outer s H E)) rfl
  exact (dss_one (ds_ret (de_list rfl rfl B.b_list (dw (de_fld rfl B.f_channel_rows (dw_v 0))))))
theorem k_Program_declared {P : Program} {w : World} {K : PySem.W.Frag} {mg : Str → Option Value} {base : Heap}  {gg : Fn} (T : FM K mg "Program" "declared" "Program.declared" s_Program_declared) (B : Blt K mg)
    (hf : ∀ ds ω r, gg ds ω = some r → ds.length = 1 ∧ ∃ rs, b_Program_declared (startE N_Program_declared ds) ω = some rs ∧ retOf rs = some r) : CalM P w K mg base "Program" "declared" P_Program_declared 1 gg :=
  calM_of T (fun a fd F => F.binds (ps := P_Program_declared) fun _ _ _ _ _ _ us hl => match us, hl with | [_], _ => rfl) fun a fd F => fn_x F sc_Program_declared (fun ds ω r e => (hf ds ω r e).1) (fun cdv A outer s H E n hr => d_Program_declared n B hr) fun ds ω r e => (hf ds ω r e).2

/-! ### _law_cell_at -/
abbrev s__law_cell_at : Stmt := top 46
abbrev N__law_cell_at : List Str := ["_law_script", "_law_k"]
abbrev P__law_cell_at : List Str := ["_law_script", "_law_k"]
theorem sc__law_cell_at : FnScope N__law_cell_at P__law_cell_at (defScope s__law_cell_at) := ⟨rfl, rfl, rfl, by decide +kernel, rfl, by decide +kernel, by decide +kernel⟩
def b__law_cell_at  : MS :=
  (seqS (ifS (tst (bo ltD (vW 1) (uo lenD (vW 0)))) (retS (bo ixD (vW 0) (vW 1))) (fun ρ ω => some (.nx ρ ω)))
  (retS (M.pure (.int 0))))
theorem d__law_cell_at {P : Program} {w : World} {K : PySem.W.Frag} {mg : Str → Option Value} {base : Heap}  {a : Addr} {cdv : Value} {A : Around} {outer : List PySem.Env} {s : Shared} {H : Hp} {E : XK} (n : En) (B : Blt K mg)
    (hr : Room 0 (A.deeper (PyProof.Rows.envOfC "_law_cell_at" (defScope s__law_cell_at) s.heap.objs.size a cdv))) :
    PSs (cxOf (L2.CX P w) P w K mg base N__law_cell_at "_law_cell_at" (defScope s__law_cell_at) a cdv A outer s H E) (defBody s__law_cell_at) (tS ⟨K, mg⟩ n (fun cls d _ H => E cls d H) (b__law_cell_at)) := by
  unfold b__law_cell_at
  have tk := takes_of (X := (cxOf (L2.CX P w) P w K mg base N__law_cell_at "_law_cell_at" (defScope s__law_cell_at) a cdv A outer s H E)) (E := E) rfl rfl rfl rfl
  have pw := passes_of (X := (cxOf (L2.CX P w) P w K mg base N__law_cell_at "_law_cell_at" (defScope s__law_cell_at) a cdv A outer s H E)) rfl
  exact (dss_cons (ds_if (dt_lt (dw_v 1) (dw (de_len rfl rfl B.b_len (dw_v 0)))) (dss_one (ds_ret (de_item rfl (dw_v 0) (dw_v 1)))) dss_nil)
  (dss_one (ds_ret de_int)))
theorem k__law_cell_at {P : Program} {w : World} {K : PySem.W.Frag} {mg : Str → Option Value} {base : Heap}  {gg : Fn} (T : FT K mg "_law_cell_at" s__law_cell_at) (B : Blt K mg)
    (hf : ∀ ds ω r, gg ds ω = some r → ds.length = 2 ∧ ∃ rs, b__law_cell_at (startE N__law_cell_at ds) ω = some rs ∧ retOf rs = some r) : Cal P w K mg base "_law_cell_at" P__law_cell_at 1 gg :=
  cal_of T (fun a fd F => F.binds (ps := P__law_cell_at) fun _ _ _ _ _ _ us hl => match us, hl with | [_, _], _ => rfl) fun a fd F => fn_x F sc__law_cell_at (fun ds ω r e => (hf ds ω r e).1) (fun cdv A outer s H E n hr => d__law_cell_at n B hr) fun ds ω r e => (hf ds ω r e).2

/-! ### _law_mixed -/
abbrev s__law_mixed : Stmt := top 47
abbrev N__law_mixed : List Str := ["_law_cell", "_law_k"]
abbrev P__law_mixed : List Str := ["_law_cell", "_law_k"]
theorem sc__law_mixed : FnScope N__law_mixed P__law_mixed (defScope s__law_mixed) := ⟨rfl, rfl, rfl, by decide +kernel, rfl, by decide +kernel, by decide +kernel⟩
def b__law_mixed  : MS :=
  (retS (bo modD (bo mulD (uo intD (bo addD (bo modD (bo powD (bo addD (bo addD (bo modD (uo intD (vW 0)) (M.pure (.int 2147483647))) (bo mulD (M.pure (.int 7919)) (vW 1))) (M.pure (.int 104729))) (M.pure (.int 5))) (M.pure (.int 2147483647))) (vW 1))) (M.pure (.int 40692))) (M.pure (.int 2147483629))))
theorem d__law_mixed {P : Program} {w : World} {K : PySem.W.Frag} {mg : Str → Option Value} {base : Heap}  {a : Addr} {cdv : Value} {A : Around} {outer : List PySem.Env} {s : Shared} {H : Hp} {E : XK} (n : En) (B : Blt K mg)
    (hr : Room 0 (A.deeper (PyProof.Rows.envOfC "_law_mixed" (defScope s__law_mixed) s.heap.objs.size a cdv))) :
    PSs (cxOf (L2.CX P w) P w K mg base N__law_mixed "_law_mixed" (defScope s__law_mixed) a cdv A outer s H E) (defBody s__law_mixed) (tS ⟨K, mg⟩ n (fun cls d _ H => E cls d H) (b__law_mixed)) := by
  unfold b__law_mixed
  have tk := takes_of (X := (cxOf (L2.CX P w) P w K mg base N__law_mixed "_law_mixed" (defScope s__law_mixed) a cdv A outer s H E)) (E := E) rfl rfl rfl rfl
  have pw := passes_of (X := (cxOf (L2.CX P w) P w K mg base N__law_mixed "_law_mixed" (defScope s__law_mixed) a cdv A outer s H E)) rfl
  exact (dss_one (ds_ret (de_mod (dw (de_mul (dw (de_toInt rfl B.b_int (dw (de_add rfl (dw (de_mod (dw (de_pow (dw (de_add rfl (dw (de_add rfl (dw (de_mod (dw (de_toInt rfl B.b_int (dw_v 0))) (dw de_int))) (dw (de_mul (dw de_int) (dw_v 1))))) (dw de_int))) (dw de_int))) (dw de_int))) (dw_v 1))))) (dw de_int))) (dw de_int))))
theorem k__law_mixed {P : Program} {w : World} {K : PySem.W.Frag} {mg : Str → Option Value} {base : Heap}  {gg : Fn} (T : FT K mg "_law_mixed" s__law_mixed) (B : Blt K mg)
    (hf : ∀ ds ω r, gg ds ω = some r → ds.length = 2 ∧ ∃ rs, b__law_mixed (startE N__law_mixed ds) ω = some rs ∧ retOf rs = some r) : Cal P w K mg base "_law_mixed" P__law_mixed 1 gg :=
  cal_of T (fun a fd F => F.binds (ps := P__law_mixed) fun _ _ _ _ _ _ us hl => match us, hl with | [_, _], _ => rfl) fun a fd F => fn_x F sc__law_mixed (fun ds ω r e => (hf ds ω r e).1) (fun cdv A outer s H E n hr => d__law_mixed n B hr) fun ds ω r e => (hf ds ω r e).2

/-! ### _law_row -/
abbrev s__law_row : Stmt := top 48
abbrev N__law_row : List Str := ["_law_cell", "_law_many", "_law_row_here", "_law_rest", "_law_k"]
abbrev P__law_row : List Str := ["_law_cell", "_law_many"]
theorem sc__law_row : FnScope N__law_row P__law_row (defScope s__law_row) := ⟨rfl, rfl, rfl, by decide +kernel, rfl, by decide +kernel, by decide +kernel⟩
def lb__law_row_1 (g__law_mixed : Fn) : MS :=
  (ifS (tst (bo gtD (vW 3) (M.pure (.int 0)))) (seqS (appS 2 (bo modD (uo intD (vW 3)) (M.pure (.int 1000))))
  (setS 3 (bo fdivD (vW 3) (M.pure (.int 1000))))) (appS 2 (bo modD (uo intD (calM g__law_mixed (consM (vF 0) (consM (vF 4) (M.pure []))))) (M.pure (.int 1000)))))
def b__law_row (g__law_mixed : Fn) : MS :=
  (seqS (setO 2 ((M.pure []).bind lenOk))
  (seqS (setS 3 (M.pure (.int 0)))
  (seqS (ifS (tst (bo geD (uo absD (vW 0)) (bo powD (M.pure (.int 10)) (M.pure (.int 18))))) (setS 3 (uo absD (vW 0))) (fun ρ ω => some (.nx ρ ω)))
  (seqS (forS ((vF 1).bind rng1) (nmT 4) (lb__law_row_1 g__law_mixed))
  (frz 2 (retS (vF 2)))))))
theorem d__law_row {P : Program} {w : World} {K : PySem.W.Frag} {mg : Str → Option Value} {base : Heap} {g__law_mixed : Fn} {a : Addr} {cdv : Value} {A : Around} {outer : List PySem.Env} {s : Shared} {H : Hp} {E : XK} (n : En) (B : Blt K mg) (c__law_mixed : Cal P w K mg base "_law_mixed" P__law_mixed 1 g__law_mixed)
    (hr : Room 1 (A.deeper (PyProof.Rows.envOfC "_law_row" (defScope s__law_row) s.heap.objs.size a cdv))) :
    PSs (cxOf (L2.CX P w) P w K mg base N__law_row "_law_row" (defScope s__law_row) a cdv A outer s H E) (defBody s__law_row) (tS ⟨K, mg⟩ n (fun cls d _ H => E cls d H) (b__law_row g__law_mixed)) := by
  unfold b__law_row
  have tk := takes_of (X := (cxOf (L2.CX P w) P w K mg base N__law_row "_law_row" (defScope s__law_row) a cdv A outer s H E)) (E := E) rfl rfl rfl rfl
  have pw := passes_of (X := (cxOf (L2.CX P w) P w K mg base N__law_row "_law_row" (defScope s__law_row) a cdv A outer s H E)) rfl
  exact (dss_cons (ds_setO (i := 2) sc__law_row.nd (dn_lst da_nil))
  (dss_cons (ds_set (i := 3) sc__law_row.nd de_int)
  (dss_cons (ds_if (dt_ge (dw (de_abs rfl B.b_abs (dw_v 0))) (dw (de_pow (dw de_int) (dw de_int)))) (dss_one (ds_set (i := 3) sc__law_row.nd (de_abs rfl B.b_abs (dw_v 0)))) dss_nil)
  (dss_cons (ds_for pw rfl (di_range1 rfl B.b_range (de_v 1)) (dg_name 4 sc__law_row.nd) (dss_one (ds_if (dt_gt (dw_v 3) (dw de_int)) (dss_cons (ds_app (i := 2) (de_mod (dw (de_toInt rfl B.b_int (dw_v 3))) (dw de_int)))
  (dss_one (ds_set (i := 3) sc__law_row.nd (de_fdiv (dw_v 3) (dw de_int))))) (dss_one (ds_app (i := 2) (de_mod (dw (de_toInt rfl B.b_int (dw (de_fn tk c__law_mixed hr (by decide) rfl (da_cons (de_v 0) (da_cons (de_v 4) da_nil)))))) (dw de_int)))))))
  (dss_one (ds_frz 2 (ds_ret (de_v 2))))))))
theorem k__law_row {P : Program} {w : World} {K : PySem.W.Frag} {mg : Str → Option Value} {base : Heap} {g__law_mixed : Fn} {gg : Fn} (T : FT K mg "_law_row" s__law_row) (B : Blt K mg) (c__law_mixed : Cal P w K mg base "_law_mixed" P__law_mixed 1 g__law_mixed)
    (hf : ∀ ds ω r, gg ds ω = some r → ds.length = 2 ∧ ∃ rs, b__law_row g__law_mixed (startE N__law_row ds) ω = some rs ∧ retOf rs = some r) : Cal P w K mg base "_law_row" P__law_row 2 gg :=
  cal_of T (fun a fd F => F.binds (ps := P__law_row) fun _ _ _ _ _ _ us hl => match us, hl with | [_, _], _ => rfl) fun a fd F => fn_x F sc__law_row (fun ds ω r e => (hf ds ω r e).1) (fun cdv A outer s H E n hr => d__law_row n B c__law_mixed hr) fun ds ω r e => (hf ds ω r e).2

/-! ### _law_channels -/
abbrev s__law_channels : Stmt := top 49
abbrev N__law_channels : List Str := ["_law_row_here", "_law_machines", "_law_names", "_law_found", "_law_k", "_law_name", "_law_seats", "_law_machine"]
abbrev P__law_channels : List Str := ["_law_row_here", "_law_machines"]
theorem sc__law_channels : FnScope N__law_channels P__law_channels (defScope s__law_channels) := ⟨rfl, rfl, rfl, by decide +kernel, rfl, by decide +kernel, by decide +kernel⟩
def lb__law_channels_1  : MS :=
  (seqS (setS 5 (bo ixD (vW 2) (bo modD (uo intD (bo ixD (vW 0) (bo addD (bo mulD (M.pure (.int 3)) (vW 4)) (M.pure (.int 1))))) (M.pure (.int 10)))))
  (seqS (ifS (tst (bo eqD (bo modD (bo fdivD (bo ixD (vW 0) (bo addD (bo mulD (M.pure (.int 3)) (vW 4)) (M.pure (.int 1)))) (M.pure (.int 10))) (M.pure (.int 6))) (M.pure (.int 0)))) (setS 5 (bo ixD (vW 2) (bo addD (M.pure (.int 10)) (bo modD (bo fdivD (bo ixD (vW 0) (bo addD (bo mulD (M.pure (.int 3)) (vW 4)) (M.pure (.int 1)))) (M.pure (.int 60))) (M.pure (.int 6)))))) (ifS (tst (bo ltD (bo modD (bo fdivD (bo ixD (vW 0) (bo addD (bo mulD (M.pure (.int 3)) (vW 4)) (M.pure (.int 1)))) (M.pure (.int 10))) (M.pure (.int 6))) (M.pure (.int 5)))) (setS 5 (bo ixD (vW 2) (vW 4))) (fun ρ ω => some (.nx ρ ω))))
  (seqS (setS 6 (bo addD (M.pure (.int 1)) (bo modD (uo intD (bo ixD (vW 0) (bo addD (bo mulD (M.pure (.int 3)) (vW 4)) (M.pure (.int 2))))) (M.pure (.int 4)))))
  (seqS (ifS (tst (bo eqD (bo modD (bo fdivD (bo ixD (vW 0) (bo addD (bo mulD (M.pure (.int 3)) (vW 4)) (M.pure (.int 2)))) (M.pure (.int 4))) (M.pure (.int 8))) (M.pure (.int 0)))) (setS 6 (bo subD (bo modD (bo fdivD (bo ixD (vW 0) (bo addD (bo mulD (M.pure (.int 3)) (vW 4)) (M.pure (.int 2)))) (M.pure (.int 32))) (M.pure (.int 8))) (M.pure (.int 1)))) (fun ρ ω => some (.nx ρ ω)))
  (seqS (setS 7 (bo modD (uo intD (bo ixD (vW 0) (bo addD (bo mulD (M.pure (.int 3)) (vW 4)) (M.pure (.int 3))))) (uo maxLD (((consM (vF 1) (consM (M.pure (.int 1)) (M.pure []))).bind lenOk).bind fun ds => M.pure (.lst ds)))))
  (seqS (ifS (tst (bo eqD (bo modD (bo fdivD (bo ixD (vW 0) (bo addD (bo mulD (M.pure (.int 3)) (vW 4)) (M.pure (.int 3)))) (M.pure (.int 6))) (M.pure (.int 8))) (M.pure (.int 0)))) (setS 7 (bo subD (bo modD (bo fdivD (bo ixD (vW 0) (bo addD (bo mulD (M.pure (.int 3)) (vW 4)) (M.pure (.int 3)))) (M.pure (.int 48))) (M.pure (.int 9))) (M.pure (.int 1)))) (fun ρ ω => some (.nx ρ ω)))
  (appS 3 ((consM (vF 5) (consM (vF 6) (consM (vF 7) (M.pure [])))).bind mkTup))))))))
def b__law_channels  : MS :=
  (seqS (setS 2 (((consM (M.pure (.str "a")) (consM (M.pure (.str "b")) (consM (M.pure (.str "c")) (consM (M.pure (.str "d")) (consM (M.pure (.str "e1")) (consM (M.pure (.str "f2")) (consM (M.pure (.str "g")) (consM (M.pure (.str "abcdefgh")) (consM (M.pure (.str "i")) (consM (M.pure (.str "j")) (consM (M.pure (.str "")) (consM (M.pure (.str "A")) (consM (M.pure (.str "put")) (consM (M.pure (.str "abcdefghi")) (consM (M.pure (.str "a b")) (consM (M.pure (.str "1a")) (M.pure []))))))))))))))))).bind lenOk).bind fun ds => M.pure (.lst ds)))
  (seqS (setO 3 ((M.pure []).bind lenOk))
  (seqS (forS ((bo modD (uo intD (bo ixD (vW 0) (M.pure (.int 0)))) (M.pure (.int 11))).bind rng1) (nmT 4) lb__law_channels_1)
  (frz 3 (retS (vF 3))))))
theorem d__law_channels {P : Program} {w : World} {K : PySem.W.Frag} {mg : Str → Option Value} {base : Heap}  {a : Addr} {cdv : Value} {A : Around} {outer : List PySem.Env} {s : Shared} {H : Hp} {E : XK} (n : En) (B : Blt K mg)
    (hr : Room 0 (A.deeper (PyProof.Rows.envOfC "_law_channels" (defScope s__law_channels) s.heap.objs.size a cdv))) :
    PSs (cxOf (L2.CX P w) P w K mg base N__law_channels "_law_channels" (defScope s__law_channels) a cdv A outer s H E) (defBody s__law_channels) (tS ⟨K, mg⟩ n (fun cls d _ H => E cls d H) (b__law_channels)) := by
  unfold b__law_channels
  have tk := takes_of (X := (cxOf (L2.CX P w) P w K mg base N__law_channels "_law_channels" (defScope s__law_channels) a cdv A outer s H E)) (E := E) rfl rfl rfl rfl
  have pw := passes_of (X := (cxOf (L2.CX P w) P w K mg base N__law_channels "_law_channels" (defScope s__law_channels) a cdv A outer s H E)) rfl
  exact (dss_cons (ds_set (i := 2) sc__law_channels.nd (de_new (dn_lst (da_cons de_str (da_cons de_str (da_cons de_str (da_cons de_str (da_cons de_str (da_cons de_str (da_cons de_str (da_cons de_str (da_cons de_str (da_cons de_str (da_cons de_str (da_cons de_str (da_cons de_str (da_cons de_str (da_cons de_str (da_cons de_str da_nil)))))))))))))))))))
  (dss_cons (ds_setO (i := 3) sc__law_channels.nd (dn_lst da_nil))
  (dss_cons (ds_for pw rfl (di_range1 rfl B.b_range (de_mod (dw (de_toInt rfl B.b_int (dw (de_item rfl (dw_v 0) (dw de_int))))) (dw de_int))) (dg_name 4 sc__law_channels.nd) (dss_cons (ds_set (i := 5) sc__law_channels.nd (de_item rfl (dw_v 2) (dw (de_mod (dw (de_toInt rfl B.b_int (dw (de_item rfl (dw_v 0) (dw (de_add rfl (dw (de_mul (dw de_int) (dw_v 4))) (dw de_int))))))) (dw de_int)))))
  (dss_cons (ds_if (dt_eq rfl hr (dw (de_mod (dw (de_fdiv (dw (de_item rfl (dw_v 0) (dw (de_add rfl (dw (de_mul (dw de_int) (dw_v 4))) (dw de_int))))) (dw de_int))) (dw de_int))) (dw de_int)) (dss_one (ds_set (i := 5) sc__law_channels.nd (de_item rfl (dw_v 2) (dw (de_add rfl (dw de_int) (dw (de_mod (dw (de_fdiv (dw (de_item rfl (dw_v 0) (dw (de_add rfl (dw (de_mul (dw de_int) (dw_v 4))) (dw de_int))))) (dw de_int))) (dw de_int)))))))) (dss_one (ds_if (dt_lt (dw (de_mod (dw (de_fdiv (dw (de_item rfl (dw_v 0) (dw (de_add rfl (dw (de_mul (dw de_int) (dw_v 4))) (dw de_int))))) (dw de_int))) (dw de_int))) (dw de_int)) (dss_one (ds_set (i := 5) sc__law_channels.nd (de_item rfl (dw_v 2) (dw_v 4)))) dss_nil)))
  (dss_cons (ds_set (i := 6) sc__law_channels.nd (de_add rfl (dw de_int) (dw (de_mod (dw (de_toInt rfl B.b_int (dw (de_item rfl (dw_v 0) (dw (de_add rfl (dw (de_mul (dw de_int) (dw_v 4))) (dw de_int))))))) (dw de_int)))))
  (dss_cons (ds_if (dt_eq rfl hr (dw (de_mod (dw (de_fdiv (dw (de_item rfl (dw_v 0) (dw (de_add rfl (dw (de_mul (dw de_int) (dw_v 4))) (dw de_int))))) (dw de_int))) (dw de_int))) (dw de_int)) (dss_one (ds_set (i := 6) sc__law_channels.nd (de_sub (dw (de_mod (dw (de_fdiv (dw (de_item rfl (dw_v 0) (dw (de_add rfl (dw (de_mul (dw de_int) (dw_v 4))) (dw de_int))))) (dw de_int))) (dw de_int))) (dw de_int)))) dss_nil)
  (dss_cons (ds_set (i := 7) sc__law_channels.nd (de_mod (dw (de_toInt rfl B.b_int (dw (de_item rfl (dw_v 0) (dw (de_add rfl (dw (de_mul (dw de_int) (dw_v 4))) (dw de_int))))))) (dw (de_maxL rfl rfl rfl B.b_max (dw (de_new (dn_lst (da_cons (de_v 1) (da_cons de_int da_nil)))))))))
  (dss_cons (ds_if (dt_eq rfl hr (dw (de_mod (dw (de_fdiv (dw (de_item rfl (dw_v 0) (dw (de_add rfl (dw (de_mul (dw de_int) (dw_v 4))) (dw de_int))))) (dw de_int))) (dw de_int))) (dw de_int)) (dss_one (ds_set (i := 7) sc__law_channels.nd (de_sub (dw (de_mod (dw (de_fdiv (dw (de_item rfl (dw_v 0) (dw (de_add rfl (dw (de_mul (dw de_int) (dw_v 4))) (dw de_int))))) (dw de_int))) (dw de_int))) (dw de_int)))) dss_nil)
  (dss_one (ds_app (i := 3) (de_tup (da_cons (de_v 5) (da_cons (de_v 6) (da_cons (de_v 7) da_nil)))))))))))))
  (dss_one (ds_frz 3 (ds_ret (de_v 3)))))))
theorem k__law_channels {P : Program} {w : World} {K : PySem.W.Frag} {mg : Str → Option Value} {base : Heap}  {gg : Fn} (T : FT K mg "_law_channels" s__law_channels) (B : Blt K mg)
    (hf : ∀ ds ω r, gg ds ω = some r → ds.length = 2 ∧ ∃ rs, b__law_channels (startE N__law_channels ds) ω = some rs ∧ retOf rs = some r) : Cal P w K mg base "_law_channels" P__law_channels 1 gg :=
  cal_of T (fun a fd F => F.binds (ps := P__law_channels) fun _ _ _ _ _ _ us hl => match us, hl with | [_, _], _ => rfl) fun a fd F => fn_x F sc__law_channels (fun ds ω r e => (hf ds ω r e).1) (fun cdv A outer s H E n hr => d__law_channels n B hr) fun ds ω r e => (hf ds ω r e).2

/-! ### _law_due -/
abbrev s__law_due : Stmt := top 50
abbrev N__law_due : List Str := ["_law_machines", "_law_channels_here", "_law_lost", "_law_known", "_law_name", "_law_seats", "_law_machine"]
abbrev P__law_due : List Str := ["_law_machines", "_law_channels_here", "_law_lost"]
theorem sc__law_due : FnScope N__law_due P__law_due (defScope s__law_due) := ⟨rfl, rfl, rfl, by decide +kernel, rfl, by decide +kernel, by decide +kernel⟩
def lb__law_due_1  : MS :=
  (seqS (ifS (orM (tst (bo inD (vW 4) (vW 3))) (tst (bo inD (vW 4) (((consM (M.pure (.str "")) (consM (M.pure (.str "A")) (consM (M.pure (.str "put")) (consM (M.pure (.str "abcdefghi")) (consM (M.pure (.str "a b")) (consM (M.pure (.str "1a")) (M.pure []))))))).bind lenOk).bind fun ds => M.pure (.lst ds))))) (retS ((consM (M.pure (.str "term")) (consM (M.pure (.str "name")) (M.pure []))).bind mkTup)) (fun ρ ω => some (.nx ρ ω)))
  (seqS (ifS (orM (tst (bo ltD (vW 5) (M.pure (.int 1)))) (tst (bo gtD (vW 5) (M.pure (.int 4))))) (retS ((consM (M.pure (.str "term")) (consM (M.pure (.str "seats")) (M.pure []))).bind mkTup)) (fun ρ ω => some (.nx ρ ω)))
  (seqS (ifS (orM (tst (bo ltD (vW 6) (M.pure (.int 0)))) (tst (bo geD (vW 6) (vW 0)))) (retS ((consM (M.pure (.str "machine")) (consM (vF 6) (M.pure []))).bind mkTup)) (fun ρ ω => some (.nx ρ ω)))
  (appS 3 (vF 4)))))
def b__law_due  : MS :=
  (seqS (ifS (tst (bo eqD (vW 0) (M.pure (.int 0)))) (retS ((consM (M.pure (.str "term")) (consM (M.pure (.str "machines")) (M.pure []))).bind mkTup)) (fun ρ ω => some (.nx ρ ω)))
  (seqS (ifS (tst (bo gtD (uo lenD (vW 1)) (M.pure (.int 8)))) (retS ((consM (M.pure (.str "term")) (consM (M.pure (.str "channels")) (M.pure []))).bind mkTup)) (fun ρ ω => some (.nx ρ ω)))
  (seqS (setO 3 ((M.pure []).bind lenOk))
  (seqS (forS ((vF 1).bind itemsOf) (tupT 3 (consT (nmT 4) (consT (nmT 5) (consT (nmT 6) nilT)))) lb__law_due_1)
  (seqS (ifS (truM (vW 2)) (retS ((consM (M.pure (.str "name")) (consM (M.pure (.str "lost")) (M.pure []))).bind mkTup)) (fun ρ ω => some (.nx ρ ω)))
  (retS ((consM (M.pure (.str "")) (consM (M.pure (.str "")) (M.pure []))).bind mkTup)))))))
theorem d__law_due {P : Program} {w : World} {K : PySem.W.Frag} {mg : Str → Option Value} {base : Heap}  {a : Addr} {cdv : Value} {A : Around} {outer : List PySem.Env} {s : Shared} {H : Hp} {E : XK} (n : En) (B : Blt K mg)
    (hr : Room 0 (A.deeper (PyProof.Rows.envOfC "_law_due" (defScope s__law_due) s.heap.objs.size a cdv))) :
    PSs (cxOf (L2.CX P w) P w K mg base N__law_due "_law_due" (defScope s__law_due) a cdv A outer s H E) (defBody s__law_due) (tS ⟨K, mg⟩ n (fun cls d _ H => E cls d H) (b__law_due)) := by
  unfold b__law_due
  have tk := takes_of (X := (cxOf (L2.CX P w) P w K mg base N__law_due "_law_due" (defScope s__law_due) a cdv A outer s H E)) (E := E) rfl rfl rfl rfl
  have pw := passes_of (X := (cxOf (L2.CX P w) P w K mg base N__law_due "_law_due" (defScope s__law_due) a cdv A outer s H E)) rfl
  exact (dss_cons (ds_if (dt_eq rfl hr (dw_v 0) (dw de_int)) (dss_one (ds_ret (de_tup (da_cons de_str (da_cons de_str da_nil))))) dss_nil)
  (dss_cons (ds_if (dt_gt (dw (de_len rfl rfl B.b_len (dw_v 1))) (dw de_int)) (dss_one (ds_ret (de_tup (da_cons de_str (da_cons de_str da_nil))))) dss_nil)
  (dss_cons (ds_setO (i := 3) sc__law_due.nd (dn_lst da_nil))
  (dss_cons (ds_for pw rfl (di_data rfl (de_v 1)) (dg_tup rfl rfl (dgs_cons (dg_name 4 sc__law_due.nd) (dgs_cons (dg_name 5 sc__law_due.nd) (dgs_cons (dg_name 6 sc__law_due.nd) dgs_nil)))) (dss_cons (ds_if (dt_w (dw_or (dt_in rfl hr (dw_v 4) (dw_v 3)) (dw_or1 (dt_in rfl hr (dw_v 4) (dw (de_new (dn_lst (da_cons de_str (da_cons de_str (da_cons de_str (da_cons de_str (da_cons de_str (da_cons de_str da_nil))))))))))))) (dss_one (ds_ret (de_tup (da_cons de_str (da_cons de_str da_nil))))) dss_nil)
  (dss_cons (ds_if (dt_w (dw_or (dt_lt (dw_v 5) (dw de_int)) (dw_or1 (dt_gt (dw_v 5) (dw de_int))))) (dss_one (ds_ret (de_tup (da_cons de_str (da_cons de_str da_nil))))) dss_nil)
  (dss_cons (ds_if (dt_w (dw_or (dt_lt (dw_v 6) (dw de_int)) (dw_or1 (dt_ge (dw_v 6) (dw_v 0))))) (dss_one (ds_ret (de_tup (da_cons de_str (da_cons (de_v 6) da_nil))))) dss_nil)
  (dss_one (ds_app (i := 3) (de_v 4)))))))
  (dss_cons (ds_if (dt_truth rfl (dw_v 2)) (dss_one (ds_ret (de_tup (da_cons de_str (da_cons de_str da_nil))))) dss_nil)
  (dss_one (ds_ret (de_tup (da_cons de_str (da_cons de_str da_nil))))))))))
theorem k__law_due {P : Program} {w : World} {K : PySem.W.Frag} {mg : Str → Option Value} {base : Heap}  {gg : Fn} (T : FT K mg "_law_due" s__law_due) (B : Blt K mg)
    (hf : ∀ ds ω r, gg ds ω = some r → ds.length = 3 ∧ ∃ rs, b__law_due (startE N__law_due ds) ω = some rs ∧ retOf rs = some r) : Cal P w K mg base "_law_due" P__law_due 1 gg :=
  cal_of T (fun a fd F => F.binds (ps := P__law_due) fun _ _ _ _ _ _ us hl => match us, hl with | [_, _, _], _ => rfl) fun a fd F => fn_x F sc__law_due (fun ds ω r e => (hf ds ω r e).1) (fun cdv A outer s H E n hr => d__law_due n B hr) fun ds ω r e => (hf ds ω r e).2

/-! ### _law_tried -/
abbrev s__law_tried : Stmt := top 51
abbrev N__law_tried : List Str := ["_law_channels_here", "_law_book", "_law_net", "_law_program", "e"]
abbrev P__law_tried : List Str := ["_law_channels_here", "_law_book", "_law_net"]
theorem sc__law_tried : FnScope N__law_tried P__law_tried (defScope s__law_tried) := ⟨rfl, rfl, rfl, by decide +kernel, rfl, by decide +kernel, by decide +kernel⟩
def tb__law_tried_1 (g_mk_Program : Fn) : MS :=
  (setS 3 ((consM (vF 0) (consM (vF 1) (consM (vF 2) (M.pure [])))).bind (mkN "Program" g_mk_Program)))
def su__law_tried_1  : XP → MS :=
  (fun p => (retS ((consM (M.pure (.str "name")) (consM (xfM 4 "NoName" "name" p) (M.pure []))).bind mkTup)))
def su__law_tried_2  : XP → MS :=
  (fun p => (retS ((consM (M.pure (.str "machine")) (consM (xfM 4 "NoMachine" "machine" p) (M.pure []))).bind mkTup)))
def su__law_tried_3  : XP → MS :=
  (fun p => (retS ((consM (M.pure (.str "term")) (consM (xfM 4 "BadTerm" "field" p) (M.pure []))).bind mkTup)))
def b__law_tried (g_Net___len__ : Fn) (g_Program_declared : Fn) (g_mk_Program : Fn) : MS :=
  (seqS (tryS (tb__law_tried_1 g_mk_Program) [(ca_BadTerm, some 4, su__law_tried_3), (ca_NoMachine, some 4, su__law_tried_2), (ca_NoName, some 4, su__law_tried_1)])
  (seqS (ifS (orM (tst (bo neD (uo (fldD ["Program"] "machines") (vW 3)) (lenO [("Net", g_Net___len__)] (vF 2)))) (tst (bo neD (methM "declared" [("Program", g_Program_declared)] (vF 3) (M.pure [])) (vW 0)))) (retS ((consM (M.pure (.str "other")) (consM (M.pure (.str "")) (M.pure []))).bind mkTup)) (fun ρ ω => some (.nx ρ ω)))
  (retS ((consM (M.pure (.str "")) (consM (M.pure (.str "")) (M.pure []))).bind mkTup))))
theorem d__law_tried {P : Program} {w : World} {K : PySem.W.Frag} {mg : Str → Option Value} {base : Heap} {g_Net___len__ : Fn} {g_Program_declared : Fn} {g_mk_Program : Fn} {a : Addr} {cdv : Value} {A : Around} {outer : List PySem.Env} {s : Shared} {H : Hp} {E : XK} (n : En) (B : Blt K mg) (c_Net___len__ : CalM P w K mg base "Net" "__len__" P_Net___len__ 1 g_Net___len__) (c_Program_declared : CalM P w K mg base "Program" "declared" P_Program_declared 1 g_Program_declared) (c_mk_Program : CalG P w K mg base "Program" P_Program___init__ 12 g_mk_Program)
    (hr : Room 13 (A.deeper (PyProof.Rows.envOfC "_law_tried" (defScope s__law_tried) s.heap.objs.size a cdv))) :
    PSs (cxOf (L2.CX P w) P w K mg base N__law_tried "_law_tried" (defScope s__law_tried) a cdv A outer s H E) (defBody s__law_tried) (tS ⟨K, mg⟩ n (fun cls d _ H => E cls d H) (b__law_tried g_Net___len__ g_Program_declared g_mk_Program)) := by
  unfold b__law_tried
  have tk := takes_of (X := (cxOf (L2.CX P w) P w K mg base N__law_tried "_law_tried" (defScope s__law_tried) a cdv A outer s H E)) (E := E) rfl rfl rfl rfl
  have pw := passes_of (X := (cxOf (L2.CX P w) P w K mg base N__law_tried "_law_tried" (defScope s__law_tried) a cdv A outer s H E)) rfl
  exact (dss_cons (ds_try rfl rfl tk (fun W2 pn xe tk pw => (dss_one (ds_set (i := 3) sc__law_tried.nd (de_makeN tk c_mk_Program hr (by decide) rfl (da_cons (de_v 0) (da_cons (de_v 1) (da_cons (de_v 2) da_nil))))))) (cs_as 4 B.ca_BadTerm rfl sc__law_tried.nd (fun a oe cls d pn hz hf => (dss_one (ds_ret (de_tup (da_cons de_str (da_cons (de_xf 4 B.xf_BadTerm hz hf) da_nil)))))) (cs_as 4 B.ca_NoMachine rfl sc__law_tried.nd (fun a oe cls d pn hz hf => (dss_one (ds_ret (de_tup (da_cons de_str (da_cons (de_xf 4 B.xf_NoMachine hz hf) da_nil)))))) (cs_as 4 B.ca_NoName rfl sc__law_tried.nd (fun a oe cls d pn hz hf => (dss_one (ds_ret (de_tup (da_cons de_str (da_cons (de_xf 4 B.xf_NoName hz hf) da_nil)))))) CsOk.nil))))
  (dss_cons (ds_if (dt_w (dw_or (dt_ne rfl hr (dw (de_fld rfl B.f_machines (dw_v 3))) (dw (de_lenO (k := 1) tk (cms_cons c_Net___len__ (by decide) cms_nil) hr (by decide) rfl B.b_len (de_v 2)))) (dw_or1 (dt_ne rfl hr (dw (de_meth0 (k := 1) tk (cms_cons c_Program_declared (by decide) cms_nil) hr (by decide) (de_v 3))) (dw_v 0))))) (dss_one (ds_ret (de_tup (da_cons de_str (da_cons de_str da_nil))))) dss_nil)
  (dss_one (ds_ret (de_tup (da_cons de_str (da_cons de_str da_nil)))))))
theorem k__law_tried {P : Program} {w : World} {K : PySem.W.Frag} {mg : Str → Option Value} {base : Heap} {g_Net___len__ : Fn} {g_Program_declared : Fn} {g_mk_Program : Fn} {gg : Fn} (T : FT K mg "_law_tried" s__law_tried) (B : Blt K mg) (c_Net___len__ : CalM P w K mg base "Net" "__len__" P_Net___len__ 1 g_Net___len__) (c_Program_declared : CalM P w K mg base "Program" "declared" P_Program_declared 1 g_Program_declared) (c_mk_Program : CalG P w K mg base "Program" P_Program___init__ 12 g_mk_Program)
    (hf : ∀ ds ω r, gg ds ω = some r → ds.length = 3 ∧ ∃ rs, b__law_tried g_Net___len__ g_Program_declared g_mk_Program (startE N__law_tried ds) ω = some rs ∧ retOf rs = some r) : Cal P w K mg base "_law_tried" P__law_tried 14 gg :=
  cal_of T (fun a fd F => F.binds (ps := P__law_tried) fun _ _ _ _ _ _ us hl => match us, hl with | [_, _, _], _ => rfl) fun a fd F => fn_x F sc__law_tried (fun ds ω r e => (hf ds ω r e).1) (fun cdv A outer s H E n hr => d__law_tried n B c_Net___len__ c_Program_declared c_mk_Program hr) fun ds ω r e => (hf ds ω r e).2

/-! ### law -/
abbrev s_law : Stmt := top 52
abbrev N_law : List Str := ["_law_script", "_law_sizes", "_law_machines", "_law_channels_here", "_law_lost", "_law_book", "_law_net", "_law_passed"]
abbrev P_law : List Str := ["_law_script"]
theorem sc_law : FnScope N_law P_law (defScope s_law) := ⟨rfl, rfl, rfl, by decide +kernel, rfl, by decide +kernel, by decide +kernel⟩
def b_law (g_Book___setitem__ : Fn) (g_Process_offer : Fn) (g_Process_stop : Fn) (g__law_cell_at : Fn) (g__law_channels : Fn) (g__law_due : Fn) (g__law_row : Fn) (g__law_tried : Fn) (g_mk_Definition : Fn) (g_mk_Net : Fn) : MS :=
  (seqS (setS 1 (calM g__law_row (consM (calM g__law_cell_at (consM (vF 0) (consM (M.pure (.int 0)) (M.pure [])))) (consM (M.pure (.int 2)) (M.pure [])))))
  (seqS (setS 2 (bo modD (uo intD (bo ixD (vW 1) (M.pure (.int 0)))) (M.pure (.int 7))))
  (seqS (setS 3 (calM g__law_channels (consM (calM g__law_row (consM (calM g__law_cell_at (consM (vF 0) (consM (M.pure (.int 1)) (M.pure [])))) (consM (M.pure (.int 31)) (M.pure [])))) (consM (vF 2) (M.pure [])))))
  (seqS (setS 4 (bo eqD (bo modD (uo intD (bo ixD (vW 1) (M.pure (.int 1)))) (M.pure (.int 3))) (M.pure (.int 0))))
  (seqS (setS 5 (mk0 "Book" "rows"))
  (seqS (ifS (truM (vW 4)) (putO [("Book", g_Book___setitem__)] (vF 5) (M.pure (.str "g")) ((consM (((M.pure []).bind lenOk).bind fun ds => M.pure (.lst ds)) (consM (calM g_Process_offer (consM (M.pure (.str "lost")) (consM (M.pure (.int 0)) (consM (M.pure (.int 1)) (consM (M.pure (.int 5)) (consM (((M.pure []).bind lenOk).bind fun ds => M.pure (.lst ds)) (consM (calM g_Process_stop (M.pure [])) (M.pure [])))))))) (M.pure []))).bind (mkG "Definition" g_mk_Definition))) (fun ρ ω => some (.nx ρ ω)))
  (seqS (setS 6 ((consM (bo mulLD (((consM (calM g_Process_stop (M.pure [])) (M.pure [])).bind lenOk).bind fun ds => M.pure (.lst ds)) (vW 2)) (M.pure [])).bind (mkG "Net" g_mk_Net)))
  (seqS (setS 7 (bo addD (vW 3) (((M.pure []).bind lenOk).bind fun ds => M.pure (.lst ds))))
  (retS (andV (bo eqD (calM g__law_tried (consM (vF 7) (consM (vF 5) (consM (vF 6) (M.pure []))))) (calM g__law_due (consM (vF 2) (consM (vF 3) (consM (vF 4) (M.pure [])))))) (bo eqD (vW 7) (vW 3))))))))))))
theorem d_law {P : Program} {w : World} {K : PySem.W.Frag} {mg : Str → Option Value} {base : Heap} {g_Book___setitem__ : Fn} {g_Process_offer : Fn} {g_Process_stop : Fn} {g__law_cell_at : Fn} {g__law_channels : Fn} {g__law_due : Fn} {g__law_row : Fn} {g__law_tried : Fn} {g_mk_Definition : Fn} {g_mk_Net : Fn} {a : Addr} {cdv : Value} {A : Around} {outer : List PySem.Env} {s : Shared} {H : Hp} {E : XK} (n : En) (B : Blt K mg) (c_Book___setitem__ : CalM P w K mg base "Book" "__setitem__" P_Book___setitem__ 3 g_Book___setitem__) (c_Process_offer : CalS P w K mg base "Process" "offer" P_Process_offer 4 g_Process_offer) (c_Process_stop : CalS P w K mg base "Process" "stop" P_Process_stop 3 g_Process_stop) (c__law_cell_at : Cal P w K mg base "_law_cell_at" P__law_cell_at 1 g__law_cell_at) (c__law_channels : Cal P w K mg base "_law_channels" P__law_channels 1 g__law_channels) (c__law_due : Cal P w K mg base "_law_due" P__law_due 1 g__law_due) (c__law_row : Cal P w K mg base "_law_row" P__law_row 2 g__law_row) (c__law_tried : Cal P w K mg base "_law_tried" P__law_tried 14 g__law_tried) (c_mk0_Book : CalG0 P w K mg base "Book" "rows" P_mk0_Book 1) (c_mk_Definition : CalG P w K mg base "Definition" P_Definition___init__ 3 g_mk_Definition) (c_mk_Net : CalG P w K mg base "Net" P_Net___init__ 3 g_mk_Net)
    (hr : Room 14 (A.deeper (PyProof.Rows.envOfC "law" (defScope s_law) s.heap.objs.size a cdv))) :
    PSs (cxOf CX0 P w K mg base N_law "law" (defScope s_law) a cdv A outer s H E).nox (defBody s_law) (tS ⟨K, mg⟩ n W0 (b_law g_Book___setitem__ g_Process_offer g_Process_stop g__law_cell_at g__law_channels g__law_due g__law_row g__law_tried g_mk_Definition g_mk_Net)) := by
  unfold b_law
  have tk := (takes0 : Takes (cxOf CX0 P w K mg base N_law "law" (defScope s_law) a cdv A outer s H E).nox W0)
  have pw := (PassesOwn.never : PassesOwn (model P w) (cxOf CX0 P w K mg base N_law "law" (defScope s_law) a cdv A outer s H E).nox.A (cxOf CX0 P w K mg base N_law "law" (defScope s_law) a cdv A outer s H E).nox.env (fun _ _ => False))
  exact (dss_cons (ds_set (i := 1) sc_law.nd (de_fn tk c__law_row hr (by decide) rfl (da_cons (de_fn tk c__law_cell_at hr (by decide) rfl (da_cons (de_v 0) (da_cons de_int da_nil))) (da_cons de_int da_nil))))
  (dss_cons (ds_set (i := 2) sc_law.nd (de_mod (dw (de_toInt rfl B.b_int (dw (de_item rfl (dw_v 1) (dw de_int))))) (dw de_int)))
  (dss_cons (ds_set (i := 3) sc_law.nd (de_fn tk c__law_channels hr (by decide) rfl (da_cons (de_fn tk c__law_row hr (by decide) rfl (da_cons (de_fn tk c__law_cell_at hr (by decide) rfl (da_cons (de_v 0) (da_cons de_int da_nil))) (da_cons de_int da_nil))) (da_cons (de_v 2) da_nil))))
  (dss_cons (ds_set (i := 4) sc_law.nd (de_eq rfl hr (dw (de_mod (dw (de_toInt rfl B.b_int (dw (de_item rfl (dw_v 1) (dw de_int))))) (dw de_int))) (dw de_int)))
  (dss_cons (ds_set (i := 5) sc_law.nd (de_mk0 c_mk0_Book hr (by decide) rfl))
  (dss_cons (ds_if (dt_truth rfl (dw_v 4)) (dss_one (ds_putO (k := 3) tk (cms_cons c_Book___setitem__ (by decide) cms_nil) (sqf_cons B.sq_Book sqf_nil) hr (by decide) (de_makeG tk c_mk_Definition hr (by decide) rfl (da_cons (de_new (dn_lst da_nil)) (da_cons (de_stat tk c_Process_offer hr (by decide) rfl (da_cons de_str (da_cons de_int (da_cons de_int (da_cons de_int (da_cons (de_new (dn_lst da_nil)) (da_cons (de_stat0 tk c_Process_stop hr (by decide) rfl) da_nil))))))) da_nil))) (de_v 5) de_str)) dss_nil)
  (dss_cons (ds_set (i := 6) sc_law.nd (de_makeG tk c_mk_Net hr (by decide) rfl (da_cons (de_mulL (dw (de_new (dn_lst (da_cons (de_stat0 tk c_Process_stop hr (by decide) rfl) da_nil)))) (dw_v 2)) da_nil)))
  (dss_cons (ds_set (i := 7) sc_law.nd (de_add rfl (dw_v 3) (dw (de_new (dn_lst da_nil)))))
  (dss_one (ds_ret (de_and (de_eq rfl hr (dw (de_fn tk c__law_tried hr (by decide) rfl (da_cons (de_v 7) (da_cons (de_v 5) (da_cons (de_v 6) da_nil))))) (dw (de_fn tk c__law_due hr (by decide) rfl (da_cons (de_v 2) (da_cons (de_v 3) (da_cons (de_v 4) da_nil)))))) (de_one (de_eq rfl hr (dw_v 7) (dw_v 3))))))))))))))

/-! ### the text -/
structure Txt (K : PySem.W.Frag) (mg : Str → Option Value) : Prop where
  B : Blt K mg
  t_is_name : FT K mg "is_name" s_is_name
  t_is_number : FT K mg "is_number" s_is_number
  t_is_operand : FT K mg "is_operand" s_is_operand
  t_are_unlike_names : FT K mg "are_unlike_names" s_are_unlike_names
  t_mk_Definition : FI K mg "Definition" "Definition.__init__" s_Definition___init__
  t_Book___getitem__ : FM K mg "Book" "__getitem__" "Book.__getitem__" s_Book___getitem__
  t_Book___setitem__ : FM K mg "Book" "__setitem__" "Book.__setitem__" s_Book___setitem__
  t_check_seats : FT K mg "check_seats" s_check_seats
  t_mk_Process : FI K mg "Process" "Process.__init__" s_Process___init__
  t_built : FT K mg "built" s_built
  t_Process_stop : FS K mg "Process" "stop" "Process.stop" s_Process_stop
  t_Process_offer : FS K mg "Process" "offer" "Process.offer" s_Process_offer
  t_Process_new : FS K mg "Process" "new" "Process.new" s_Process_new
  t_Process_call : FS K mg "Process" "call" "Process.call" s_Process_call
  t_mk_Net : FI K mg "Net" "Net.__init__" s_Net___init__
  t_Net___len__ : FM K mg "Net" "__len__" "Net.__len__" s_Net___len__
  t_Net___getitem__ : FM K mg "Net" "__getitem__" "Net.__getitem__" s_Net___getitem__
  t_check_channels : FT K mg "check_channels" s_check_channels
  t_direct_calls : FT K mg "direct_calls" s_direct_calls
  t_check_endless : FT K mg "check_endless" s_check_endless
  t_check_operand : FT K mg "check_operand" s_check_operand
  t_check_names : FT K mg "check_names" s_check_names
  t_mk_Program : FI K mg "Program" "Program.__init__" s_Program___init__
  t_Program_declared : FM K mg "Program" "declared" "Program.declared" s_Program_declared
  t__law_cell_at : FT K mg "_law_cell_at" s__law_cell_at
  t__law_mixed : FT K mg "_law_mixed" s__law_mixed
  t__law_row : FT K mg "_law_row" s__law_row
  t__law_channels : FT K mg "_law_channels" s__law_channels
  t__law_due : FT K mg "_law_due" s__law_due
  t__law_tried : FT K mg "_law_tried" s__law_tried
  t_law : FT K mg "law" s_law
  t_it_Book : FIt K mg "Book" "rows" "Book.__iter__" s_it_Book
  t_mk0_Book : FI0 K mg "Book" "rows" "Book.__init__" s_mk0_Book
  t_x_BadTerm : FX K mg "BadTerm" "field" "BadTerm.__init__" s_x_BadTerm
  t_x_Endless : FX K mg "Endless" "name" "Endless.__init__" s_x_Endless
  t_x_NoMachine : FX K mg "NoMachine" "machine" "NoMachine.__init__" s_x_NoMachine
  t_x_NoName : FX K mg "NoName" "name" "NoName.__init__" s_x_NoName
  t_x_WrongCount : FX K mg "WrongCount" "name" "WrongCount.__init__" s_x_WrongCount
theorem txt_mk {K : PySem.W.Frag} {h : Heap} {mg : Str → Option Value} (X : K.In h) (G : h.Ns mainGlobals mg)
    {C_Definition : Addr}
    {C_Book : Addr}
    {C_Process : Addr}
    {C_Net : Addr}
    {C_Program : Addr}
    {at_RESERVED : Addr} {tk_RESERVED_0 tk_RESERVED_1 tk_RESERVED_2 tk_RESERVED_3 tk_RESERVED_4 tk_RESERVED_5 tk_RESERVED_6 tk_RESERVED_7 tk_RESERVED_8 tk_RESERVED_9 tk_RESERVED_10 : Nat} {od_RESERVED : Option Addr} {nn_RESERVED : Nat} {sl_RESERVED : Array (Option Value)}
    {tk_DIGITS : Nat}
    {tk_LETTERS : Nat}
    {tk_MOST_CHANNELS : Nat}
    {tk_MOST_DEFINITIONS : Nat}
    {tk_MOST_DEPTH : Nat}
    {tk_MOST_MACHINES : Nat}
    {tk_MOST_OPERANDS : Nat}
    {tk_MOST_PARAMS : Nat}
    {tk_MOST_SEATS : Nat}
    {tk_MOST_SIGNS : Nat}
    {tk_MOST_SIZE : Nat}
    {tk_VALUE_LIMIT : Nat}
    {f_is_name : Addr} {od_is_name an_is_name : Option Addr} {sl_is_name : Array (Option Value)} {oc_is_name kV_is_name dc_is_name pm_is_name cd_is_name ct_is_name : Value}
    {f_is_number : Addr} {od_is_number an_is_number : Option Addr} {sl_is_number : Array (Option Value)} {oc_is_number kV_is_number dc_is_number pm_is_number cd_is_number ct_is_number : Value}
    {f_is_operand : Addr} {od_is_operand an_is_operand : Option Addr} {sl_is_operand : Array (Option Value)} {oc_is_operand kV_is_operand dc_is_operand pm_is_operand cd_is_operand ct_is_operand : Value}
    {f_are_unlike_names : Addr} {od_are_unlike_names an_are_unlike_names : Option Addr} {sl_are_unlike_names : Array (Option Value)} {oc_are_unlike_names kV_are_unlike_names dc_are_unlike_names pm_are_unlike_names cd_are_unlike_names ct_are_unlike_names : Value}
    {f_Definition___init__ : Addr} {od_Definition___init__ an_Definition___init__ : Option Addr} {sl_Definition___init__ : Array (Option Value)} {oc_Definition___init__ kV_Definition___init__ dc_Definition___init__ pm_Definition___init__ cd_Definition___init__ ct_Definition___init__ : Value}
    {f_Book___getitem__ : Addr} {od_Book___getitem__ an_Book___getitem__ : Option Addr} {sl_Book___getitem__ : Array (Option Value)} {oc_Book___getitem__ kV_Book___getitem__ dc_Book___getitem__ pm_Book___getitem__ cd_Book___getitem__ ct_Book___getitem__ : Value}
    {f_Book___setitem__ : Addr} {od_Book___setitem__ an_Book___setitem__ : Option Addr} {sl_Book___setitem__ : Array (Option Value)} {oc_Book___setitem__ kV_Book___setitem__ dc_Book___setitem__ pm_Book___setitem__ cd_Book___setitem__ ct_Book___setitem__ : Value}
    {f_check_seats : Addr} {od_check_seats an_check_seats : Option Addr} {sl_check_seats : Array (Option Value)} {oc_check_seats kV_check_seats dc_check_seats pm_check_seats cd_check_seats ct_check_seats : Value}
    {f_Process___init__ : Addr} {od_Process___init__ an_Process___init__ : Option Addr} {sl_Process___init__ : Array (Option Value)} {oc_Process___init__ kV_Process___init__ dc_Process___init__ pm_Process___init__ cd_Process___init__ ct_Process___init__ : Value}
    {f_built : Addr} {od_built an_built : Option Addr} {sl_built : Array (Option Value)} {oc_built kV_built dc_built pm_built cd_built ct_built : Value}
    {f_Process_stop : Addr} {od_Process_stop an_Process_stop : Option Addr} {sl_Process_stop : Array (Option Value)} {oc_Process_stop kV_Process_stop dc_Process_stop pm_Process_stop cd_Process_stop ct_Process_stop : Value}
    {sp_Process_stop : Addr} {sr_Process_stop : List Value}
    {f_Process_offer : Addr} {od_Process_offer an_Process_offer : Option Addr} {sl_Process_offer : Array (Option Value)} {oc_Process_offer kV_Process_offer dc_Process_offer pm_Process_offer cd_Process_offer ct_Process_offer : Value}
    {sp_Process_offer : Addr} {sr_Process_offer : List Value}
    {f_Process_new : Addr} {od_Process_new an_Process_new : Option Addr} {sl_Process_new : Array (Option Value)} {oc_Process_new kV_Process_new dc_Process_new pm_Process_new cd_Process_new ct_Process_new : Value}
    {sp_Process_new : Addr} {sr_Process_new : List Value}
    {f_Process_call : Addr} {od_Process_call an_Process_call : Option Addr} {sl_Process_call : Array (Option Value)} {oc_Process_call kV_Process_call dc_Process_call pm_Process_call cd_Process_call ct_Process_call : Value}
    {sp_Process_call : Addr} {sr_Process_call : List Value}
    {f_Net___init__ : Addr} {od_Net___init__ an_Net___init__ : Option Addr} {sl_Net___init__ : Array (Option Value)} {oc_Net___init__ kV_Net___init__ dc_Net___init__ pm_Net___init__ cd_Net___init__ ct_Net___init__ : Value}
    {f_Net___len__ : Addr} {od_Net___len__ an_Net___len__ : Option Addr} {sl_Net___len__ : Array (Option Value)} {oc_Net___len__ kV_Net___len__ dc_Net___len__ pm_Net___len__ cd_Net___len__ ct_Net___len__ : Value}
    {f_Net___getitem__ : Addr} {od_Net___getitem__ an_Net___getitem__ : Option Addr} {sl_Net___getitem__ : Array (Option Value)} {oc_Net___getitem__ kV_Net___getitem__ dc_Net___getitem__ pm_Net___getitem__ cd_Net___getitem__ ct_Net___getitem__ : Value}
    {f_check_channels : Addr} {od_check_channels an_check_channels : Option Addr} {sl_check_channels : Array (Option Value)} {oc_check_channels kV_check_channels dc_check_channels pm_check_channels cd_check_channels ct_check_channels : Value}
    {f_direct_calls : Addr} {od_direct_calls an_direct_calls : Option Addr} {sl_direct_calls : Array (Option Value)} {oc_direct_calls kV_direct_calls dc_direct_calls pm_direct_calls cd_direct_calls ct_direct_calls : Value}
    {f_check_endless : Addr} {od_check_endless an_check_endless : Option Addr} {sl_check_endless : Array (Option Value)} {oc_check_endless kV_check_endless dc_check_endless pm_check_endless cd_check_endless ct_check_endless : Value}
    {f_check_operand : Addr} {od_check_operand an_check_operand : Option Addr} {sl_check_operand : Array (Option Value)} {oc_check_operand kV_check_operand dc_check_operand pm_check_operand cd_check_operand ct_check_operand : Value}
    {f_check_names : Addr} {od_check_names an_check_names : Option Addr} {sl_check_names : Array (Option Value)} {oc_check_names kV_check_names dc_check_names pm_check_names cd_check_names ct_check_names : Value}
    {f_Program___init__ : Addr} {od_Program___init__ an_Program___init__ : Option Addr} {sl_Program___init__ : Array (Option Value)} {oc_Program___init__ kV_Program___init__ dc_Program___init__ pm_Program___init__ cd_Program___init__ ct_Program___init__ : Value}
    {f_Program_declared : Addr} {od_Program_declared an_Program_declared : Option Addr} {sl_Program_declared : Array (Option Value)} {oc_Program_declared kV_Program_declared dc_Program_declared pm_Program_declared cd_Program_declared ct_Program_declared : Value}
    {f__law_cell_at : Addr} {od__law_cell_at an__law_cell_at : Option Addr} {sl__law_cell_at : Array (Option Value)} {oc__law_cell_at kV__law_cell_at dc__law_cell_at pm__law_cell_at cd__law_cell_at ct__law_cell_at : Value}
    {f__law_mixed : Addr} {od__law_mixed an__law_mixed : Option Addr} {sl__law_mixed : Array (Option Value)} {oc__law_mixed kV__law_mixed dc__law_mixed pm__law_mixed cd__law_mixed ct__law_mixed : Value}
    {f__law_row : Addr} {od__law_row an__law_row : Option Addr} {sl__law_row : Array (Option Value)} {oc__law_row kV__law_row dc__law_row pm__law_row cd__law_row ct__law_row : Value}
    {f__law_channels : Addr} {od__law_channels an__law_channels : Option Addr} {sl__law_channels : Array (Option Value)} {oc__law_channels kV__law_channels dc__law_channels pm__law_channels cd__law_channels ct__law_channels : Value}
    {f__law_due : Addr} {od__law_due an__law_due : Option Addr} {sl__law_due : Array (Option Value)} {oc__law_due kV__law_due dc__law_due pm__law_due cd__law_due ct__law_due : Value}
    {f__law_tried : Addr} {od__law_tried an__law_tried : Option Addr} {sl__law_tried : Array (Option Value)} {oc__law_tried kV__law_tried dc__law_tried pm__law_tried cd__law_tried ct__law_tried : Value}
    {f_law : Addr} {od_law an_law : Option Addr} {sl_law : Array (Option Value)} {oc_law kV_law dc_law pm_law cd_law ct_law : Value}
    {f_it_Book : Addr} {od_it_Book an_it_Book : Option Addr} {sl_it_Book : Array (Option Value)} {oc_it_Book kV_it_Book dc_it_Book pm_it_Book cd_it_Book ct_it_Book : Value}
    {f_mk0_Book dt_mk0_Book t0_mk0_Book : Addr} {od_mk0_Book an_mk0_Book odd_mk0_Book : Option Addr} {nd_mk0_Book nt_mk0_Book : Nat} {sl_mk0_Book sld_mk0_Book slt_mk0_Book : Array (Option Value)} {oc_mk0_Book od2_mk0_Book kV_mk0_Book dc_mk0_Book pm_mk0_Book cd_mk0_Book ct_mk0_Book : Value}
    {C_BadTerm : Addr}
    {C_Endless : Addr}
    {C_NoMachine : Addr}
    {C_NoName : Addr}
    {C_SeatsError : Addr}
    {C_WrongCount : Addr}
    {nm_BadTerm q_BadTerm : Str} {ns_BadTerm : Addr} {bs_BadTerm sub_BadTerm : List Value} {sn_BadTerm : List Str} {ab_BadTerm : Bool} {col_BadTerm : Option Bool} {dd_BadTerm : Option Addr} {m0_BadTerm m1_BadTerm m2_BadTerm m3_BadTerm m5_BadTerm : Option Value}
    {f_x_BadTerm : Addr} {od_x_BadTerm an_x_BadTerm : Option Addr} {sl_x_BadTerm : Array (Option Value)} {oc_x_BadTerm kV_x_BadTerm dc_x_BadTerm pm_x_BadTerm cd_x_BadTerm ct_x_BadTerm : Value}
    {nm_Endless q_Endless : Str} {ns_Endless : Addr} {bs_Endless sub_Endless : List Value} {sn_Endless : List Str} {ab_Endless : Bool} {col_Endless : Option Bool} {dd_Endless : Option Addr} {m0_Endless m1_Endless m2_Endless m3_Endless m5_Endless : Option Value}
    {f_x_Endless : Addr} {od_x_Endless an_x_Endless : Option Addr} {sl_x_Endless : Array (Option Value)} {oc_x_Endless kV_x_Endless dc_x_Endless pm_x_Endless cd_x_Endless ct_x_Endless : Value}
    {nm_NoMachine q_NoMachine : Str} {ns_NoMachine : Addr} {bs_NoMachine sub_NoMachine : List Value} {sn_NoMachine : List Str} {ab_NoMachine : Bool} {col_NoMachine : Option Bool} {dd_NoMachine : Option Addr} {m0_NoMachine m1_NoMachine m2_NoMachine m3_NoMachine m5_NoMachine : Option Value}
    {f_x_NoMachine : Addr} {od_x_NoMachine an_x_NoMachine : Option Addr} {sl_x_NoMachine : Array (Option Value)} {oc_x_NoMachine kV_x_NoMachine dc_x_NoMachine pm_x_NoMachine cd_x_NoMachine ct_x_NoMachine : Value}
    {nm_NoName q_NoName : Str} {ns_NoName : Addr} {bs_NoName sub_NoName : List Value} {sn_NoName : List Str} {ab_NoName : Bool} {col_NoName : Option Bool} {dd_NoName : Option Addr} {m0_NoName m1_NoName m2_NoName m3_NoName m5_NoName : Option Value}
    {f_x_NoName : Addr} {od_x_NoName an_x_NoName : Option Addr} {sl_x_NoName : Array (Option Value)} {oc_x_NoName kV_x_NoName dc_x_NoName pm_x_NoName cd_x_NoName ct_x_NoName : Value}
    {nm_WrongCount q_WrongCount : Str} {ns_WrongCount : Addr} {bs_WrongCount sub_WrongCount : List Value} {sn_WrongCount : List Str} {ab_WrongCount : Bool} {col_WrongCount : Option Bool} {dd_WrongCount : Option Addr} {m0_WrongCount m1_WrongCount m2_WrongCount m3_WrongCount m5_WrongCount : Option Value}
    {f_x_WrongCount : Addr} {od_x_WrongCount an_x_WrongCount : Option Addr} {sl_x_WrongCount : Array (Option Value)} {oc_x_WrongCount kV_x_WrongCount dc_x_WrongCount pm_x_WrongCount cd_x_WrongCount ct_x_WrongCount : Value}
    (h_a_Definition : PySem.W.nsIn K mainGlobals "Definition" = some (some (.ref C_Definition)))
    (h_pg_Definition : PySem.W.plainGet K C_Definition Str.empty = true)
    (h_hd_Definition : PySem.W.hasDictIn K C_Definition = true)
    (h_po_Definition : PySem.W.plainOver K C_Definition = true)
    (h_sa_Definition : PySem.W.findIn K (.ref C_Definition) "__setattr__" = some (some (.builtin "object.__setattr__")))
    (h_mk_Definition : PySem.W.makesIn K C_Definition = true)
    (h_kc_Definition : PySem.W.keepIn K (.ref C_Definition) = true)
    (h_a_Book : PySem.W.nsIn K mainGlobals "Book" = some (some (.ref C_Book)))
    (h_pg_Book : PySem.W.plainGet K C_Book Str.empty = true)
    (h_hd_Book : PySem.W.hasDictIn K C_Book = true)
    (h_po_Book : PySem.W.plainOver K C_Book = true)
    (h_sa_Book : PySem.W.findIn K (.ref C_Book) "__setattr__" = some (some (.builtin "object.__setattr__")))
    (h_mk_Book : PySem.W.makesIn K C_Book = true)
    (h_kc_Book : PySem.W.keepIn K (.ref C_Book) = true)
    (h_a_Process : PySem.W.nsIn K mainGlobals "Process" = some (some (.ref C_Process)))
    (h_pg_Process : PySem.W.plainGet K C_Process Str.empty = true)
    (h_hd_Process : PySem.W.hasDictIn K C_Process = true)
    (h_po_Process : PySem.W.plainOver K C_Process = true)
    (h_sa_Process : PySem.W.findIn K (.ref C_Process) "__setattr__" = some (some (.builtin "object.__setattr__")))
    (h_mk_Process : PySem.W.makesIn K C_Process = true)
    (h_kc_Process : PySem.W.keepIn K (.ref C_Process) = true)
    (h_a_Net : PySem.W.nsIn K mainGlobals "Net" = some (some (.ref C_Net)))
    (h_pg_Net : PySem.W.plainGet K C_Net Str.empty = true)
    (h_hd_Net : PySem.W.hasDictIn K C_Net = true)
    (h_po_Net : PySem.W.plainOver K C_Net = true)
    (h_sa_Net : PySem.W.findIn K (.ref C_Net) "__setattr__" = some (some (.builtin "object.__setattr__")))
    (h_mk_Net : PySem.W.makesIn K C_Net = true)
    (h_kc_Net : PySem.W.keepIn K (.ref C_Net) = true)
    (h_a_Program : PySem.W.nsIn K mainGlobals "Program" = some (some (.ref C_Program)))
    (h_pg_Program : PySem.W.plainGet K C_Program Str.empty = true)
    (h_hd_Program : PySem.W.hasDictIn K C_Program = true)
    (h_po_Program : PySem.W.plainOver K C_Program = true)
    (h_sa_Program : PySem.W.findIn K (.ref C_Program) "__setattr__" = some (some (.builtin "object.__setattr__")))
    (h_mk_Program : PySem.W.makesIn K C_Program = true)
    (h_kc_Program : PySem.W.keepIn K (.ref C_Program) = true)
    (h_qr_Process : PySem.W.readsIn K C_Process (.type "type") = true)
    (h_qg_Process : PySem.W.specialIn K (.ref C_Process) "__getattribute__" = some (some (.builtin "type.__getattribute__")))
    (h_n_Definition_body : PySem.W.findIn K (.ref C_Definition) "body" = some none)
    (h_n_Program_channel_rows : PySem.W.findIn K (.ref C_Program) "channel_rows" = some none)
    (h_n_Process_depth : PySem.W.findIn K (.ref C_Process) "depth" = some none)
    (h_n_Process_kind : PySem.W.findIn K (.ref C_Process) "kind" = some none)
    (h_n_Program_known : PySem.W.findIn K (.ref C_Program) "known" = some none)
    (h_n_Program_machines : PySem.W.findIn K (.ref C_Program) "machines" = some none)
    (h_n_Definition_params : PySem.W.findIn K (.ref C_Definition) "params" = some none)
    (h_n_Process_parts : PySem.W.findIn K (.ref C_Process) "parts" = some none)
    (h_n_Book_rows : PySem.W.findIn K (.ref C_Book) "rows" = some none)
    (h_n_Net_rows : PySem.W.findIn K (.ref C_Net) "rows" = some none)
    (h_n_Process_size : PySem.W.findIn K (.ref C_Process) "size" = some none)
    (h_n_Program_starts : PySem.W.findIn K (.ref C_Program) "starts" = some none)
    (h_b_abs : PySem.W.nsIn K mainGlobals "abs" = some none)
    (h_b_all : PySem.W.nsIn K mainGlobals "all" = some none)
    (h_b_bool : PySem.W.nsIn K mainGlobals "bool" = some none)
    (h_b_dict : PySem.W.nsIn K mainGlobals "dict" = some none)
    (h_b_int : PySem.W.nsIn K mainGlobals "int" = some none)
    (h_b_isinstance : PySem.W.nsIn K mainGlobals "isinstance" = some none)
    (h_b_iter : PySem.W.nsIn K mainGlobals "iter" = some none)
    (h_b_len : PySem.W.nsIn K mainGlobals "len" = some none)
    (h_b_list : PySem.W.nsIn K mainGlobals "list" = some none)
    (h_b_max : PySem.W.nsIn K mainGlobals "max" = some none)
    (h_b_range : PySem.W.nsIn K mainGlobals "range" = some none)
    (h_b_set : PySem.W.nsIn K mainGlobals "set" = some none)
    (h_b_sorted : PySem.W.nsIn K mainGlobals "sorted" = some none)
    (h_b_str : PySem.W.nsIn K mainGlobals "str" = some none)
    (h_b_tuple : PySem.W.nsIn K mainGlobals "tuple" = some none)
    (h_sq_Book : PySem.W.noSeq K C_Book = true)
    (h_ga_RESERVED : PySem.W.nsIn K mainGlobals "RESERVED" = some (some (.ref at_RESERVED)))
    (h_gl_RESERVED : K.lookup at_RESERVED = some ⟨.type "tuple", od_RESERVED, .seq #[.str "stop" tk_RESERVED_0, .str "new" tk_RESERVED_1, .str "if" tk_RESERVED_2, .str "then" tk_RESERVED_3, .str "else" tk_RESERVED_4, .str "put" tk_RESERVED_5, .str "get" tk_RESERVED_6, .str "channel" tk_RESERVED_7, .str "at" tk_RESERVED_8, .str "define" tk_RESERVED_9, .str "start" tk_RESERVED_10] nn_RESERVED, sl_RESERVED⟩)
    (h_c_DIGITS : PySem.W.nsIn K mainGlobals "DIGITS" = some (some (.str "0123456789" tk_DIGITS)))
    (h_c_LETTERS : PySem.W.nsIn K mainGlobals "LETTERS" = some (some (.str "abcdefghijklmnopqrstuvwxyz" tk_LETTERS)))
    (h_c_MOST_CHANNELS : PySem.W.nsIn K mainGlobals "MOST_CHANNELS" = some (some (.int 8 tk_MOST_CHANNELS)))
    (h_c_MOST_DEFINITIONS : PySem.W.nsIn K mainGlobals "MOST_DEFINITIONS" = some (some (.int 12 tk_MOST_DEFINITIONS)))
    (h_c_MOST_DEPTH : PySem.W.nsIn K mainGlobals "MOST_DEPTH" = some (some (.int 20 tk_MOST_DEPTH)))
    (h_c_MOST_MACHINES : PySem.W.nsIn K mainGlobals "MOST_MACHINES" = some (some (.int 6 tk_MOST_MACHINES)))
    (h_c_MOST_OPERANDS : PySem.W.nsIn K mainGlobals "MOST_OPERANDS" = some (some (.int 4 tk_MOST_OPERANDS)))
    (h_c_MOST_PARAMS : PySem.W.nsIn K mainGlobals "MOST_PARAMS" = some (some (.int 4 tk_MOST_PARAMS)))
    (h_c_MOST_SEATS : PySem.W.nsIn K mainGlobals "MOST_SEATS" = some (some (.int 4 tk_MOST_SEATS)))
    (h_c_MOST_SIGNS : PySem.W.nsIn K mainGlobals "MOST_SIGNS" = some (some (.int 8 tk_MOST_SIGNS)))
    (h_c_MOST_SIZE : PySem.W.nsIn K mainGlobals "MOST_SIZE" = some (some (.int 400 tk_MOST_SIZE)))
    (h_c_VALUE_LIMIT : PySem.W.nsIn K mainGlobals "VALUE_LIMIT" = some (some (.int 1000000000000000000000000000000 tk_VALUE_LIMIT)))
    (h_at_is_name : PySem.W.nsIn K mainGlobals "is_name" = some (some (.ref f_is_name)))
    (h_lk_is_name : K.lookup f_is_name = some ⟨oc_is_name, od_is_name, .func (PySem.W.fnOf "is_name" "is_name" (defArgs s_is_name) (defBody s_is_name) (defScope s_is_name) .none kV_is_name dc_is_name pm_is_name an_is_name cd_is_name ct_is_name), sl_is_name⟩)
    (h_cd_is_name : PySem.W.codeIn K cd_is_name "is_name" = true)
    (h_kp_is_name : PySem.W.keepIn K (.ref f_is_name) = true)
    (h_at_is_number : PySem.W.nsIn K mainGlobals "is_number" = some (some (.ref f_is_number)))
    (h_lk_is_number : K.lookup f_is_number = some ⟨oc_is_number, od_is_number, .func (PySem.W.fnOf "is_number" "is_number" (defArgs s_is_number) (defBody s_is_number) (defScope s_is_number) .none kV_is_number dc_is_number pm_is_number an_is_number cd_is_number ct_is_number), sl_is_number⟩)
    (h_cd_is_number : PySem.W.codeIn K cd_is_number "is_number" = true)
    (h_kp_is_number : PySem.W.keepIn K (.ref f_is_number) = true)
    (h_at_is_operand : PySem.W.nsIn K mainGlobals "is_operand" = some (some (.ref f_is_operand)))
    (h_lk_is_operand : K.lookup f_is_operand = some ⟨oc_is_operand, od_is_operand, .func (PySem.W.fnOf "is_operand" "is_operand" (defArgs s_is_operand) (defBody s_is_operand) (defScope s_is_operand) .none kV_is_operand dc_is_operand pm_is_operand an_is_operand cd_is_operand ct_is_operand), sl_is_operand⟩)
    (h_cd_is_operand : PySem.W.codeIn K cd_is_operand "is_operand" = true)
    (h_kp_is_operand : PySem.W.keepIn K (.ref f_is_operand) = true)
    (h_at_are_unlike_names : PySem.W.nsIn K mainGlobals "are_unlike_names" = some (some (.ref f_are_unlike_names)))
    (h_lk_are_unlike_names : K.lookup f_are_unlike_names = some ⟨oc_are_unlike_names, od_are_unlike_names, .func (PySem.W.fnOf "are_unlike_names" "are_unlike_names" (defArgs s_are_unlike_names) (defBody s_are_unlike_names) (defScope s_are_unlike_names) .none kV_are_unlike_names dc_are_unlike_names pm_are_unlike_names an_are_unlike_names cd_are_unlike_names ct_are_unlike_names), sl_are_unlike_names⟩)
    (h_cd_are_unlike_names : PySem.W.codeIn K cd_are_unlike_names "are_unlike_names" = true)
    (h_kp_are_unlike_names : PySem.W.keepIn K (.ref f_are_unlike_names) = true)
    (h_at_Definition___init__ : PySem.W.findIn K (.ref C_Definition) "__init__" = some (some (.ref f_Definition___init__)))
    (h_fn_Definition___init__ : PySem.W.isFn K (.ref f_Definition___init__) = true)
    (h_lk_Definition___init__ : K.lookup f_Definition___init__ = some ⟨oc_Definition___init__, od_Definition___init__, .func (PySem.W.fnOf "__init__" "Definition.__init__" (defArgs s_Definition___init__) (defBody s_Definition___init__) (defScope s_Definition___init__) .none kV_Definition___init__ dc_Definition___init__ pm_Definition___init__ an_Definition___init__ cd_Definition___init__ ct_Definition___init__), sl_Definition___init__⟩)
    (h_cd_Definition___init__ : PySem.W.codeIn K cd_Definition___init__ "Definition.__init__" = true)
    (h_kp_Definition___init__ : PySem.W.keepIn K (.ref f_Definition___init__) = true)
    (h_at_Book___getitem__ : PySem.W.findIn K (.ref C_Book) "__getitem__" = some (some (.ref f_Book___getitem__)))
    (h_fn_Book___getitem__ : PySem.W.isFn K (.ref f_Book___getitem__) = true)
    (h_lk_Book___getitem__ : K.lookup f_Book___getitem__ = some ⟨oc_Book___getitem__, od_Book___getitem__, .func (PySem.W.fnOf "__getitem__" "Book.__getitem__" (defArgs s_Book___getitem__) (defBody s_Book___getitem__) (defScope s_Book___getitem__) .none kV_Book___getitem__ dc_Book___getitem__ pm_Book___getitem__ an_Book___getitem__ cd_Book___getitem__ ct_Book___getitem__), sl_Book___getitem__⟩)
    (h_cd_Book___getitem__ : PySem.W.codeIn K cd_Book___getitem__ "Book.__getitem__" = true)
    (h_kp_Book___getitem__ : PySem.W.keepIn K (.ref f_Book___getitem__) = true)
    (h_at_Book___setitem__ : PySem.W.findIn K (.ref C_Book) "__setitem__" = some (some (.ref f_Book___setitem__)))
    (h_fn_Book___setitem__ : PySem.W.isFn K (.ref f_Book___setitem__) = true)
    (h_lk_Book___setitem__ : K.lookup f_Book___setitem__ = some ⟨oc_Book___setitem__, od_Book___setitem__, .func (PySem.W.fnOf "__setitem__" "Book.__setitem__" (defArgs s_Book___setitem__) (defBody s_Book___setitem__) (defScope s_Book___setitem__) .none kV_Book___setitem__ dc_Book___setitem__ pm_Book___setitem__ an_Book___setitem__ cd_Book___setitem__ ct_Book___setitem__), sl_Book___setitem__⟩)
    (h_cd_Book___setitem__ : PySem.W.codeIn K cd_Book___setitem__ "Book.__setitem__" = true)
    (h_kp_Book___setitem__ : PySem.W.keepIn K (.ref f_Book___setitem__) = true)
    (h_at_check_seats : PySem.W.nsIn K mainGlobals "check_seats" = some (some (.ref f_check_seats)))
    (h_lk_check_seats : K.lookup f_check_seats = some ⟨oc_check_seats, od_check_seats, .func (PySem.W.fnOf "check_seats" "check_seats" (defArgs s_check_seats) (defBody s_check_seats) (defScope s_check_seats) .none kV_check_seats dc_check_seats pm_check_seats an_check_seats cd_check_seats ct_check_seats), sl_check_seats⟩)
    (h_cd_check_seats : PySem.W.codeIn K cd_check_seats "check_seats" = true)
    (h_kp_check_seats : PySem.W.keepIn K (.ref f_check_seats) = true)
    (h_at_Process___init__ : PySem.W.findIn K (.ref C_Process) "__init__" = some (some (.ref f_Process___init__)))
    (h_fn_Process___init__ : PySem.W.isFn K (.ref f_Process___init__) = true)
    (h_lk_Process___init__ : K.lookup f_Process___init__ = some ⟨oc_Process___init__, od_Process___init__, .func (PySem.W.fnOf "__init__" "Process.__init__" (defArgs s_Process___init__) (defBody s_Process___init__) (defScope s_Process___init__) .none kV_Process___init__ dc_Process___init__ pm_Process___init__ an_Process___init__ cd_Process___init__ ct_Process___init__), sl_Process___init__⟩)
    (h_cd_Process___init__ : PySem.W.codeIn K cd_Process___init__ "Process.__init__" = true)
    (h_kp_Process___init__ : PySem.W.keepIn K (.ref f_Process___init__) = true)
    (h_at_built : PySem.W.nsIn K mainGlobals "built" = some (some (.ref f_built)))
    (h_lk_built : K.lookup f_built = some ⟨oc_built, od_built, .func (PySem.W.fnOf "built" "built" (defArgs s_built) (defBody s_built) (defScope s_built) .none kV_built dc_built pm_built an_built cd_built ct_built), sl_built⟩)
    (h_cd_built : PySem.W.codeIn K cd_built "built" = true)
    (h_kp_built : PySem.W.keepIn K (.ref f_built) = true)
    (h_sc_Process_stop : PySem.W.findCls K (.ref C_Process) (.type "type") "stop" = some (.get (.builtin "staticmethod.__get__") (.ref sp_Process_stop) .none (.ref C_Process)))
    (h_sx_Process_stop : PySem.W.recIn K sp_Process_stop "staticmethod" = some (.ref f_Process_stop :: sr_Process_stop))
    (h_lk_Process_stop : K.lookup f_Process_stop = some ⟨oc_Process_stop, od_Process_stop, .func (PySem.W.fnOf "stop" "Process.stop" (defArgs s_Process_stop) (defBody s_Process_stop) (defScope s_Process_stop) .none kV_Process_stop dc_Process_stop pm_Process_stop an_Process_stop cd_Process_stop ct_Process_stop), sl_Process_stop⟩)
    (h_cd_Process_stop : PySem.W.codeIn K cd_Process_stop "Process.stop" = true)
    (h_kp_Process_stop : PySem.W.keepIn K (.ref f_Process_stop) = true)
    (h_sc_Process_offer : PySem.W.findCls K (.ref C_Process) (.type "type") "offer" = some (.get (.builtin "staticmethod.__get__") (.ref sp_Process_offer) .none (.ref C_Process)))
    (h_sx_Process_offer : PySem.W.recIn K sp_Process_offer "staticmethod" = some (.ref f_Process_offer :: sr_Process_offer))
    (h_lk_Process_offer : K.lookup f_Process_offer = some ⟨oc_Process_offer, od_Process_offer, .func (PySem.W.fnOf "offer" "Process.offer" (defArgs s_Process_offer) (defBody s_Process_offer) (defScope s_Process_offer) .none kV_Process_offer dc_Process_offer pm_Process_offer an_Process_offer cd_Process_offer ct_Process_offer), sl_Process_offer⟩)
    (h_cd_Process_offer : PySem.W.codeIn K cd_Process_offer "Process.offer" = true)
    (h_kp_Process_offer : PySem.W.keepIn K (.ref f_Process_offer) = true)
    (h_sc_Process_new : PySem.W.findCls K (.ref C_Process) (.type "type") "new" = some (.get (.builtin "staticmethod.__get__") (.ref sp_Process_new) .none (.ref C_Process)))
    (h_sx_Process_new : PySem.W.recIn K sp_Process_new "staticmethod" = some (.ref f_Process_new :: sr_Process_new))
    (h_lk_Process_new : K.lookup f_Process_new = some ⟨oc_Process_new, od_Process_new, .func (PySem.W.fnOf "new" "Process.new" (defArgs s_Process_new) (defBody s_Process_new) (defScope s_Process_new) .none kV_Process_new dc_Process_new pm_Process_new an_Process_new cd_Process_new ct_Process_new), sl_Process_new⟩)
    (h_cd_Process_new : PySem.W.codeIn K cd_Process_new "Process.new" = true)
    (h_kp_Process_new : PySem.W.keepIn K (.ref f_Process_new) = true)
    (h_sc_Process_call : PySem.W.findCls K (.ref C_Process) (.type "type") "call" = some (.get (.builtin "staticmethod.__get__") (.ref sp_Process_call) .none (.ref C_Process)))
    (h_sx_Process_call : PySem.W.recIn K sp_Process_call "staticmethod" = some (.ref f_Process_call :: sr_Process_call))
    (h_lk_Process_call : K.lookup f_Process_call = some ⟨oc_Process_call, od_Process_call, .func (PySem.W.fnOf "call" "Process.call" (defArgs s_Process_call) (defBody s_Process_call) (defScope s_Process_call) .none kV_Process_call dc_Process_call pm_Process_call an_Process_call cd_Process_call ct_Process_call), sl_Process_call⟩)
    (h_cd_Process_call : PySem.W.codeIn K cd_Process_call "Process.call" = true)
    (h_kp_Process_call : PySem.W.keepIn K (.ref f_Process_call) = true)
    (h_at_Net___init__ : PySem.W.findIn K (.ref C_Net) "__init__" = some (some (.ref f_Net___init__)))
    (h_fn_Net___init__ : PySem.W.isFn K (.ref f_Net___init__) = true)
    (h_lk_Net___init__ : K.lookup f_Net___init__ = some ⟨oc_Net___init__, od_Net___init__, .func (PySem.W.fnOf "__init__" "Net.__init__" (defArgs s_Net___init__) (defBody s_Net___init__) (defScope s_Net___init__) .none kV_Net___init__ dc_Net___init__ pm_Net___init__ an_Net___init__ cd_Net___init__ ct_Net___init__), sl_Net___init__⟩)
    (h_cd_Net___init__ : PySem.W.codeIn K cd_Net___init__ "Net.__init__" = true)
    (h_kp_Net___init__ : PySem.W.keepIn K (.ref f_Net___init__) = true)
    (h_at_Net___len__ : PySem.W.findIn K (.ref C_Net) "__len__" = some (some (.ref f_Net___len__)))
    (h_fn_Net___len__ : PySem.W.isFn K (.ref f_Net___len__) = true)
    (h_lk_Net___len__ : K.lookup f_Net___len__ = some ⟨oc_Net___len__, od_Net___len__, .func (PySem.W.fnOf "__len__" "Net.__len__" (defArgs s_Net___len__) (defBody s_Net___len__) (defScope s_Net___len__) .none kV_Net___len__ dc_Net___len__ pm_Net___len__ an_Net___len__ cd_Net___len__ ct_Net___len__), sl_Net___len__⟩)
    (h_cd_Net___len__ : PySem.W.codeIn K cd_Net___len__ "Net.__len__" = true)
    (h_kp_Net___len__ : PySem.W.keepIn K (.ref f_Net___len__) = true)
    (h_at_Net___getitem__ : PySem.W.findIn K (.ref C_Net) "__getitem__" = some (some (.ref f_Net___getitem__)))
    (h_fn_Net___getitem__ : PySem.W.isFn K (.ref f_Net___getitem__) = true)
    (h_lk_Net___getitem__ : K.lookup f_Net___getitem__ = some ⟨oc_Net___getitem__, od_Net___getitem__, .func (PySem.W.fnOf "__getitem__" "Net.__getitem__" (defArgs s_Net___getitem__) (defBody s_Net___getitem__) (defScope s_Net___getitem__) .none kV_Net___getitem__ dc_Net___getitem__ pm_Net___getitem__ an_Net___getitem__ cd_Net___getitem__ ct_Net___getitem__), sl_Net___getitem__⟩)
    (h_cd_Net___getitem__ : PySem.W.codeIn K cd_Net___getitem__ "Net.__getitem__" = true)
    (h_kp_Net___getitem__ : PySem.W.keepIn K (.ref f_Net___getitem__) = true)
    (h_at_check_channels : PySem.W.nsIn K mainGlobals "check_channels" = some (some (.ref f_check_channels)))
    (h_lk_check_channels : K.lookup f_check_channels = some ⟨oc_check_channels, od_check_channels, .func (PySem.W.fnOf "check_channels" "check_channels" (defArgs s_check_channels) (defBody s_check_channels) (defScope s_check_channels) .none kV_check_channels dc_check_channels pm_check_channels an_check_channels cd_check_channels ct_check_channels), sl_check_channels⟩)
    (h_cd_check_channels : PySem.W.codeIn K cd_check_channels "check_channels" = true)
    (h_kp_check_channels : PySem.W.keepIn K (.ref f_check_channels) = true)
    (h_at_direct_calls : PySem.W.nsIn K mainGlobals "direct_calls" = some (some (.ref f_direct_calls)))
    (h_lk_direct_calls : K.lookup f_direct_calls = some ⟨oc_direct_calls, od_direct_calls, .func (PySem.W.fnOf "direct_calls" "direct_calls" (defArgs s_direct_calls) (defBody s_direct_calls) (defScope s_direct_calls) .none kV_direct_calls dc_direct_calls pm_direct_calls an_direct_calls cd_direct_calls ct_direct_calls), sl_direct_calls⟩)
    (h_cd_direct_calls : PySem.W.codeIn K cd_direct_calls "direct_calls" = true)
    (h_kp_direct_calls : PySem.W.keepIn K (.ref f_direct_calls) = true)
    (h_at_check_endless : PySem.W.nsIn K mainGlobals "check_endless" = some (some (.ref f_check_endless)))
    (h_lk_check_endless : K.lookup f_check_endless = some ⟨oc_check_endless, od_check_endless, .func (PySem.W.fnOf "check_endless" "check_endless" (defArgs s_check_endless) (defBody s_check_endless) (defScope s_check_endless) .none kV_check_endless dc_check_endless pm_check_endless an_check_endless cd_check_endless ct_check_endless), sl_check_endless⟩)
    (h_cd_check_endless : PySem.W.codeIn K cd_check_endless "check_endless" = true)
    (h_kp_check_endless : PySem.W.keepIn K (.ref f_check_endless) = true)
    (h_at_check_operand : PySem.W.nsIn K mainGlobals "check_operand" = some (some (.ref f_check_operand)))
    (h_lk_check_operand : K.lookup f_check_operand = some ⟨oc_check_operand, od_check_operand, .func (PySem.W.fnOf "check_operand" "check_operand" (defArgs s_check_operand) (defBody s_check_operand) (defScope s_check_operand) .none kV_check_operand dc_check_operand pm_check_operand an_check_operand cd_check_operand ct_check_operand), sl_check_operand⟩)
    (h_cd_check_operand : PySem.W.codeIn K cd_check_operand "check_operand" = true)
    (h_kp_check_operand : PySem.W.keepIn K (.ref f_check_operand) = true)
    (h_at_check_names : PySem.W.nsIn K mainGlobals "check_names" = some (some (.ref f_check_names)))
    (h_lk_check_names : K.lookup f_check_names = some ⟨oc_check_names, od_check_names, .func (PySem.W.fnOf "check_names" "check_names" (defArgs s_check_names) (defBody s_check_names) (defScope s_check_names) .none kV_check_names dc_check_names pm_check_names an_check_names cd_check_names ct_check_names), sl_check_names⟩)
    (h_cd_check_names : PySem.W.codeIn K cd_check_names "check_names" = true)
    (h_kp_check_names : PySem.W.keepIn K (.ref f_check_names) = true)
    (h_at_Program___init__ : PySem.W.findIn K (.ref C_Program) "__init__" = some (some (.ref f_Program___init__)))
    (h_fn_Program___init__ : PySem.W.isFn K (.ref f_Program___init__) = true)
    (h_lk_Program___init__ : K.lookup f_Program___init__ = some ⟨oc_Program___init__, od_Program___init__, .func (PySem.W.fnOf "__init__" "Program.__init__" (defArgs s_Program___init__) (defBody s_Program___init__) (defScope s_Program___init__) .none kV_Program___init__ dc_Program___init__ pm_Program___init__ an_Program___init__ cd_Program___init__ ct_Program___init__), sl_Program___init__⟩)
    (h_cd_Program___init__ : PySem.W.codeIn K cd_Program___init__ "Program.__init__" = true)
    (h_kp_Program___init__ : PySem.W.keepIn K (.ref f_Program___init__) = true)
    (h_at_Program_declared : PySem.W.findIn K (.ref C_Program) "declared" = some (some (.ref f_Program_declared)))
    (h_fn_Program_declared : PySem.W.isFn K (.ref f_Program_declared) = true)
    (h_lk_Program_declared : K.lookup f_Program_declared = some ⟨oc_Program_declared, od_Program_declared, .func (PySem.W.fnOf "declared" "Program.declared" (defArgs s_Program_declared) (defBody s_Program_declared) (defScope s_Program_declared) .none kV_Program_declared dc_Program_declared pm_Program_declared an_Program_declared cd_Program_declared ct_Program_declared), sl_Program_declared⟩)
    (h_cd_Program_declared : PySem.W.codeIn K cd_Program_declared "Program.declared" = true)
    (h_kp_Program_declared : PySem.W.keepIn K (.ref f_Program_declared) = true)
    (h_at__law_cell_at : PySem.W.nsIn K mainGlobals "_law_cell_at" = some (some (.ref f__law_cell_at)))
    (h_lk__law_cell_at : K.lookup f__law_cell_at = some ⟨oc__law_cell_at, od__law_cell_at, .func (PySem.W.fnOf "_law_cell_at" "_law_cell_at" (defArgs s__law_cell_at) (defBody s__law_cell_at) (defScope s__law_cell_at) .none kV__law_cell_at dc__law_cell_at pm__law_cell_at an__law_cell_at cd__law_cell_at ct__law_cell_at), sl__law_cell_at⟩)
    (h_cd__law_cell_at : PySem.W.codeIn K cd__law_cell_at "_law_cell_at" = true)
    (h_kp__law_cell_at : PySem.W.keepIn K (.ref f__law_cell_at) = true)
    (h_at__law_mixed : PySem.W.nsIn K mainGlobals "_law_mixed" = some (some (.ref f__law_mixed)))
    (h_lk__law_mixed : K.lookup f__law_mixed = some ⟨oc__law_mixed, od__law_mixed, .func (PySem.W.fnOf "_law_mixed" "_law_mixed" (defArgs s__law_mixed) (defBody s__law_mixed) (defScope s__law_mixed) .none kV__law_mixed dc__law_mixed pm__law_mixed an__law_mixed cd__law_mixed ct__law_mixed), sl__law_mixed⟩)
    (h_cd__law_mixed : PySem.W.codeIn K cd__law_mixed "_law_mixed" = true)
    (h_kp__law_mixed : PySem.W.keepIn K (.ref f__law_mixed) = true)
    (h_at__law_row : PySem.W.nsIn K mainGlobals "_law_row" = some (some (.ref f__law_row)))
    (h_lk__law_row : K.lookup f__law_row = some ⟨oc__law_row, od__law_row, .func (PySem.W.fnOf "_law_row" "_law_row" (defArgs s__law_row) (defBody s__law_row) (defScope s__law_row) .none kV__law_row dc__law_row pm__law_row an__law_row cd__law_row ct__law_row), sl__law_row⟩)
    (h_cd__law_row : PySem.W.codeIn K cd__law_row "_law_row" = true)
    (h_kp__law_row : PySem.W.keepIn K (.ref f__law_row) = true)
    (h_at__law_channels : PySem.W.nsIn K mainGlobals "_law_channels" = some (some (.ref f__law_channels)))
    (h_lk__law_channels : K.lookup f__law_channels = some ⟨oc__law_channels, od__law_channels, .func (PySem.W.fnOf "_law_channels" "_law_channels" (defArgs s__law_channels) (defBody s__law_channels) (defScope s__law_channels) .none kV__law_channels dc__law_channels pm__law_channels an__law_channels cd__law_channels ct__law_channels), sl__law_channels⟩)
    (h_cd__law_channels : PySem.W.codeIn K cd__law_channels "_law_channels" = true)
    (h_kp__law_channels : PySem.W.keepIn K (.ref f__law_channels) = true)
    (h_at__law_due : PySem.W.nsIn K mainGlobals "_law_due" = some (some (.ref f__law_due)))
    (h_lk__law_due : K.lookup f__law_due = some ⟨oc__law_due, od__law_due, .func (PySem.W.fnOf "_law_due" "_law_due" (defArgs s__law_due) (defBody s__law_due) (defScope s__law_due) .none kV__law_due dc__law_due pm__law_due an__law_due cd__law_due ct__law_due), sl__law_due⟩)
    (h_cd__law_due : PySem.W.codeIn K cd__law_due "_law_due" = true)
    (h_kp__law_due : PySem.W.keepIn K (.ref f__law_due) = true)
    (h_at__law_tried : PySem.W.nsIn K mainGlobals "_law_tried" = some (some (.ref f__law_tried)))
    (h_lk__law_tried : K.lookup f__law_tried = some ⟨oc__law_tried, od__law_tried, .func (PySem.W.fnOf "_law_tried" "_law_tried" (defArgs s__law_tried) (defBody s__law_tried) (defScope s__law_tried) .none kV__law_tried dc__law_tried pm__law_tried an__law_tried cd__law_tried ct__law_tried), sl__law_tried⟩)
    (h_cd__law_tried : PySem.W.codeIn K cd__law_tried "_law_tried" = true)
    (h_kp__law_tried : PySem.W.keepIn K (.ref f__law_tried) = true)
    (h_at_law : PySem.W.nsIn K mainGlobals "law" = some (some (.ref f_law)))
    (h_lk_law : K.lookup f_law = some ⟨oc_law, od_law, .func (PySem.W.fnOf "law" "law" (defArgs s_law) (defBody s_law) (defScope s_law) .none kV_law dc_law pm_law an_law cd_law ct_law), sl_law⟩)
    (h_cd_law : PySem.W.codeIn K cd_law "law" = true)
    (h_kp_law : PySem.W.keepIn K (.ref f_law) = true)
    (h_at_it_Book : PySem.W.findIn K (.ref C_Book) "__iter__" = some (some (.ref f_it_Book)))
    (h_fn_it_Book : PySem.W.isFn K (.ref f_it_Book) = true)
    (h_lk_it_Book : K.lookup f_it_Book = some ⟨oc_it_Book, od_it_Book, .func (PySem.W.fnOf "__iter__" "Book.__iter__" (defArgs s_it_Book) (defBody s_it_Book) (defScope s_it_Book) .none kV_it_Book dc_it_Book pm_it_Book an_it_Book cd_it_Book ct_it_Book), sl_it_Book⟩)
    (h_cd_it_Book : PySem.W.codeIn K cd_it_Book "Book.__iter__" = true)
    (h_kp_it_Book : PySem.W.keepIn K (.ref f_it_Book) = true)
    (h_at_mk0_Book : PySem.W.findIn K (.ref C_Book) "__init__" = some (some (.ref f_mk0_Book)))
    (h_fn_mk0_Book : PySem.W.isFn K (.ref f_mk0_Book) = true)
    (h_lk_mk0_Book : K.lookup f_mk0_Book = some ⟨oc_mk0_Book, od_mk0_Book, .func (PySem.W.fnOf "__init__" "Book.__init__" (defArgs s_mk0_Book) (defBody s_mk0_Book) (defScope s_mk0_Book) (.ref dt_mk0_Book) kV_mk0_Book dc_mk0_Book pm_mk0_Book an_mk0_Book cd_mk0_Book ct_mk0_Book), sl_mk0_Book⟩)
    (h_dt_mk0_Book : K.lookup dt_mk0_Book = some ⟨od2_mk0_Book, odd_mk0_Book, .seq #[.ref t0_mk0_Book] nd_mk0_Book, sld_mk0_Book⟩)
    (h_t0_mk0_Book : K.lookup t0_mk0_Book = some ⟨.type "tuple", none, .seq #[] nt_mk0_Book, slt_mk0_Book⟩)
    (h_cd_mk0_Book : PySem.W.codeIn K cd_mk0_Book "Book.__init__" = true)
    (h_kp_mk0_Book : PySem.W.keepIn K (.ref f_mk0_Book) = true)
    (h_a_BadTerm : PySem.W.nsIn K mainGlobals "BadTerm" = some (some (.ref C_BadTerm)))
    (h_a_Endless : PySem.W.nsIn K mainGlobals "Endless" = some (some (.ref C_Endless)))
    (h_a_NoMachine : PySem.W.nsIn K mainGlobals "NoMachine" = some (some (.ref C_NoMachine)))
    (h_a_NoName : PySem.W.nsIn K mainGlobals "NoName" = some (some (.ref C_NoName)))
    (h_a_SeatsError : PySem.W.nsIn K mainGlobals "SeatsError" = some (some (.ref C_SeatsError)))
    (h_a_WrongCount : PySem.W.nsIn K mainGlobals "WrongCount" = some (some (.ref C_WrongCount)))
    (h_sr_SeatsError : PySem.W.readsIn K C_SeatsError (.type "type") = true)
    (h_sg_SeatsError : PySem.W.specialIn K (.ref C_SeatsError) "__getattribute__" = some (some (.builtin "type.__getattribute__")))
    (h_sf_SeatsError : PySem.W.findCls K (.ref C_SeatsError) (.type "type") "__init__" = some (.val (.builtin "ValueError.__init__")))
    (h_cbe_BadTerm : PySem.W.subIn K (.ref C_BadTerm) (.type "BaseException") = some true)
    (h_chd_BadTerm : PySem.W.hasDictIn K C_BadTerm = true)
    (h_cty_BadTerm : PySem.W.typeIn K (.ref C_BadTerm) = some (.type "type"))
    (h_ce_BadTerm_BadTerm : PySem.W.subIn K (.ref C_BadTerm) (.ref C_BadTerm) = some true)
    (h_ce_BadTerm_Endless : PySem.W.subIn K (.ref C_Endless) (.ref C_BadTerm) = some false)
    (h_ce_BadTerm_NoMachine : PySem.W.subIn K (.ref C_NoMachine) (.ref C_BadTerm) = some false)
    (h_ce_BadTerm_NoName : PySem.W.subIn K (.ref C_NoName) (.ref C_BadTerm) = some false)
    (h_ce_BadTerm_WrongCount : PySem.W.subIn K (.ref C_WrongCount) (.ref C_BadTerm) = some false)
    (h_cbe_NoMachine : PySem.W.subIn K (.ref C_NoMachine) (.type "BaseException") = some true)
    (h_chd_NoMachine : PySem.W.hasDictIn K C_NoMachine = true)
    (h_cty_NoMachine : PySem.W.typeIn K (.ref C_NoMachine) = some (.type "type"))
    (h_ce_NoMachine_BadTerm : PySem.W.subIn K (.ref C_BadTerm) (.ref C_NoMachine) = some false)
    (h_ce_NoMachine_Endless : PySem.W.subIn K (.ref C_Endless) (.ref C_NoMachine) = some false)
    (h_ce_NoMachine_NoMachine : PySem.W.subIn K (.ref C_NoMachine) (.ref C_NoMachine) = some true)
    (h_ce_NoMachine_NoName : PySem.W.subIn K (.ref C_NoName) (.ref C_NoMachine) = some false)
    (h_ce_NoMachine_WrongCount : PySem.W.subIn K (.ref C_WrongCount) (.ref C_NoMachine) = some false)
    (h_cbe_NoName : PySem.W.subIn K (.ref C_NoName) (.type "BaseException") = some true)
    (h_chd_NoName : PySem.W.hasDictIn K C_NoName = true)
    (h_cty_NoName : PySem.W.typeIn K (.ref C_NoName) = some (.type "type"))
    (h_ce_NoName_BadTerm : PySem.W.subIn K (.ref C_BadTerm) (.ref C_NoName) = some false)
    (h_ce_NoName_Endless : PySem.W.subIn K (.ref C_Endless) (.ref C_NoName) = some false)
    (h_ce_NoName_NoMachine : PySem.W.subIn K (.ref C_NoMachine) (.ref C_NoName) = some false)
    (h_ce_NoName_NoName : PySem.W.subIn K (.ref C_NoName) (.ref C_NoName) = some true)
    (h_ce_NoName_WrongCount : PySem.W.subIn K (.ref C_WrongCount) (.ref C_NoName) = some false)
    (h_xga_BadTerm : PySem.W.findIn K (.ref C_BadTerm) "__getattribute__" = some (some (.builtin "BaseException.__getattribute__")))
    (h_xgg_BadTerm : PySem.W.findIn K (.ref C_BadTerm) "__getattr__" = some none)
    (h_xbe_BadTerm : PySem.W.subIn K (.ref C_BadTerm) (.type "BaseException") = some true)
    (h_xhd_BadTerm : PySem.W.hasDictIn K C_BadTerm = true)
    (h_xno_BadTerm : PySem.W.findIn K (.ref C_BadTerm) "field" = some none)
    (h_xga_NoMachine : PySem.W.findIn K (.ref C_NoMachine) "__getattribute__" = some (some (.builtin "BaseException.__getattribute__")))
    (h_xgg_NoMachine : PySem.W.findIn K (.ref C_NoMachine) "__getattr__" = some none)
    (h_xbe_NoMachine : PySem.W.subIn K (.ref C_NoMachine) (.type "BaseException") = some true)
    (h_xhd_NoMachine : PySem.W.hasDictIn K C_NoMachine = true)
    (h_xno_NoMachine : PySem.W.findIn K (.ref C_NoMachine) "machine" = some none)
    (h_xga_NoName : PySem.W.findIn K (.ref C_NoName) "__getattribute__" = some (some (.builtin "BaseException.__getattribute__")))
    (h_xgg_NoName : PySem.W.findIn K (.ref C_NoName) "__getattr__" = some none)
    (h_xbe_NoName : PySem.W.subIn K (.ref C_NoName) (.type "BaseException") = some true)
    (h_xhd_NoName : PySem.W.hasDictIn K C_NoName = true)
    (h_xno_NoName : PySem.W.findIn K (.ref C_NoName) "name" = some none)
    (h_xo_BadTerm : K.lookup C_BadTerm = some (excClassObj nm_BadTerm q_BadTerm C_BadTerm ns_BadTerm bs_BadTerm [.ref C_SeatsError, .type "ValueError", .type "Exception", .type "BaseException", .type "object"] true sn_BadTerm sub_BadTerm ab_BadTerm col_BadTerm dd_BadTerm m0_BadTerm m1_BadTerm m2_BadTerm m3_BadTerm m5_BadTerm "ValueError.__new__"))
    (h_xsa_BadTerm : PySem.W.findIn K (.ref C_BadTerm) "__setattr__" = some (some (.builtin "object.__setattr__")))
    (h_xex_BadTerm : PySem.W.subIn K (.ref C_BadTerm) (.type "BaseException") = some true)
    (h_xty_BadTerm : PySem.W.typeIn K (.ref C_BadTerm) = some (.type "type"))
    (h_xkc_BadTerm : PySem.W.keepIn K (.ref C_BadTerm) = true)
    (h_xnf_BadTerm : PySem.W.findIn K (.ref C_BadTerm) "field" = some none)
    (h_at_x_BadTerm : PySem.W.findIn K (.ref C_BadTerm) "__init__" = some (some (.ref f_x_BadTerm)))
    (h_ft_x_BadTerm : PySem.W.typeIn K (.ref f_x_BadTerm) = some (.type "function"))
    (h_lk_x_BadTerm : K.lookup f_x_BadTerm = some ⟨oc_x_BadTerm, od_x_BadTerm, .func (PySem.W.fnOf "__init__" "BadTerm.__init__" (defArgs s_x_BadTerm) (defBody s_x_BadTerm) (defScope s_x_BadTerm) .none kV_x_BadTerm dc_x_BadTerm pm_x_BadTerm an_x_BadTerm cd_x_BadTerm ct_x_BadTerm), sl_x_BadTerm⟩)
    (h_cd_x_BadTerm : PySem.W.codeIn K cd_x_BadTerm "BadTerm.__init__" = true)
    (h_kp_x_BadTerm : PySem.W.keepIn K (.ref f_x_BadTerm) = true)
    (h_xo_Endless : K.lookup C_Endless = some (excClassObj nm_Endless q_Endless C_Endless ns_Endless bs_Endless [.ref C_SeatsError, .type "ValueError", .type "Exception", .type "BaseException", .type "object"] true sn_Endless sub_Endless ab_Endless col_Endless dd_Endless m0_Endless m1_Endless m2_Endless m3_Endless m5_Endless "ValueError.__new__"))
    (h_xsa_Endless : PySem.W.findIn K (.ref C_Endless) "__setattr__" = some (some (.builtin "object.__setattr__")))
    (h_xex_Endless : PySem.W.subIn K (.ref C_Endless) (.type "BaseException") = some true)
    (h_xty_Endless : PySem.W.typeIn K (.ref C_Endless) = some (.type "type"))
    (h_xkc_Endless : PySem.W.keepIn K (.ref C_Endless) = true)
    (h_xnf_Endless : PySem.W.findIn K (.ref C_Endless) "name" = some none)
    (h_at_x_Endless : PySem.W.findIn K (.ref C_Endless) "__init__" = some (some (.ref f_x_Endless)))
    (h_ft_x_Endless : PySem.W.typeIn K (.ref f_x_Endless) = some (.type "function"))
    (h_lk_x_Endless : K.lookup f_x_Endless = some ⟨oc_x_Endless, od_x_Endless, .func (PySem.W.fnOf "__init__" "Endless.__init__" (defArgs s_x_Endless) (defBody s_x_Endless) (defScope s_x_Endless) .none kV_x_Endless dc_x_Endless pm_x_Endless an_x_Endless cd_x_Endless ct_x_Endless), sl_x_Endless⟩)
    (h_cd_x_Endless : PySem.W.codeIn K cd_x_Endless "Endless.__init__" = true)
    (h_kp_x_Endless : PySem.W.keepIn K (.ref f_x_Endless) = true)
    (h_xo_NoMachine : K.lookup C_NoMachine = some (excClassObj nm_NoMachine q_NoMachine C_NoMachine ns_NoMachine bs_NoMachine [.ref C_SeatsError, .type "ValueError", .type "Exception", .type "BaseException", .type "object"] true sn_NoMachine sub_NoMachine ab_NoMachine col_NoMachine dd_NoMachine m0_NoMachine m1_NoMachine m2_NoMachine m3_NoMachine m5_NoMachine "ValueError.__new__"))
    (h_xsa_NoMachine : PySem.W.findIn K (.ref C_NoMachine) "__setattr__" = some (some (.builtin "object.__setattr__")))
    (h_xex_NoMachine : PySem.W.subIn K (.ref C_NoMachine) (.type "BaseException") = some true)
    (h_xty_NoMachine : PySem.W.typeIn K (.ref C_NoMachine) = some (.type "type"))
    (h_xkc_NoMachine : PySem.W.keepIn K (.ref C_NoMachine) = true)
    (h_xnf_NoMachine : PySem.W.findIn K (.ref C_NoMachine) "machine" = some none)
    (h_at_x_NoMachine : PySem.W.findIn K (.ref C_NoMachine) "__init__" = some (some (.ref f_x_NoMachine)))
    (h_ft_x_NoMachine : PySem.W.typeIn K (.ref f_x_NoMachine) = some (.type "function"))
    (h_lk_x_NoMachine : K.lookup f_x_NoMachine = some ⟨oc_x_NoMachine, od_x_NoMachine, .func (PySem.W.fnOf "__init__" "NoMachine.__init__" (defArgs s_x_NoMachine) (defBody s_x_NoMachine) (defScope s_x_NoMachine) .none kV_x_NoMachine dc_x_NoMachine pm_x_NoMachine an_x_NoMachine cd_x_NoMachine ct_x_NoMachine), sl_x_NoMachine⟩)
    (h_cd_x_NoMachine : PySem.W.codeIn K cd_x_NoMachine "NoMachine.__init__" = true)
    (h_kp_x_NoMachine : PySem.W.keepIn K (.ref f_x_NoMachine) = true)
    (h_xo_NoName : K.lookup C_NoName = some (excClassObj nm_NoName q_NoName C_NoName ns_NoName bs_NoName [.ref C_SeatsError, .type "ValueError", .type "Exception", .type "BaseException", .type "object"] true sn_NoName sub_NoName ab_NoName col_NoName dd_NoName m0_NoName m1_NoName m2_NoName m3_NoName m5_NoName "ValueError.__new__"))
    (h_xsa_NoName : PySem.W.findIn K (.ref C_NoName) "__setattr__" = some (some (.builtin "object.__setattr__")))
    (h_xex_NoName : PySem.W.subIn K (.ref C_NoName) (.type "BaseException") = some true)
    (h_xty_NoName : PySem.W.typeIn K (.ref C_NoName) = some (.type "type"))
    (h_xkc_NoName : PySem.W.keepIn K (.ref C_NoName) = true)
    (h_xnf_NoName : PySem.W.findIn K (.ref C_NoName) "name" = some none)
    (h_at_x_NoName : PySem.W.findIn K (.ref C_NoName) "__init__" = some (some (.ref f_x_NoName)))
    (h_ft_x_NoName : PySem.W.typeIn K (.ref f_x_NoName) = some (.type "function"))
    (h_lk_x_NoName : K.lookup f_x_NoName = some ⟨oc_x_NoName, od_x_NoName, .func (PySem.W.fnOf "__init__" "NoName.__init__" (defArgs s_x_NoName) (defBody s_x_NoName) (defScope s_x_NoName) .none kV_x_NoName dc_x_NoName pm_x_NoName an_x_NoName cd_x_NoName ct_x_NoName), sl_x_NoName⟩)
    (h_cd_x_NoName : PySem.W.codeIn K cd_x_NoName "NoName.__init__" = true)
    (h_kp_x_NoName : PySem.W.keepIn K (.ref f_x_NoName) = true)
    (h_xo_WrongCount : K.lookup C_WrongCount = some (excClassObj nm_WrongCount q_WrongCount C_WrongCount ns_WrongCount bs_WrongCount [.ref C_SeatsError, .type "ValueError", .type "Exception", .type "BaseException", .type "object"] true sn_WrongCount sub_WrongCount ab_WrongCount col_WrongCount dd_WrongCount m0_WrongCount m1_WrongCount m2_WrongCount m3_WrongCount m5_WrongCount "ValueError.__new__"))
    (h_xsa_WrongCount : PySem.W.findIn K (.ref C_WrongCount) "__setattr__" = some (some (.builtin "object.__setattr__")))
    (h_xex_WrongCount : PySem.W.subIn K (.ref C_WrongCount) (.type "BaseException") = some true)
    (h_xty_WrongCount : PySem.W.typeIn K (.ref C_WrongCount) = some (.type "type"))
    (h_xkc_WrongCount : PySem.W.keepIn K (.ref C_WrongCount) = true)
    (h_xnf_WrongCount : PySem.W.findIn K (.ref C_WrongCount) "name" = some none)
    (h_at_x_WrongCount : PySem.W.findIn K (.ref C_WrongCount) "__init__" = some (some (.ref f_x_WrongCount)))
    (h_ft_x_WrongCount : PySem.W.typeIn K (.ref f_x_WrongCount) = some (.type "function"))
    (h_lk_x_WrongCount : K.lookup f_x_WrongCount = some ⟨oc_x_WrongCount, od_x_WrongCount, .func (PySem.W.fnOf "__init__" "WrongCount.__init__" (defArgs s_x_WrongCount) (defBody s_x_WrongCount) (defScope s_x_WrongCount) .none kV_x_WrongCount dc_x_WrongCount pm_x_WrongCount an_x_WrongCount cd_x_WrongCount ct_x_WrongCount), sl_x_WrongCount⟩)
    (h_cd_x_WrongCount : PySem.W.codeIn K cd_x_WrongCount "WrongCount.__init__" = true)
    (h_kp_x_WrongCount : PySem.W.keepIn K (.ref f_x_WrongCount) = true) : Txt K mg := by
  have k_Definition : Cls K C_Definition := ⟨h_pg_Definition, h_hd_Definition, h_po_Definition, h_sa_Definition⟩
  have m_Definition := PySem.W.mg_of X G h_a_Definition
  have k_Book : Cls K C_Book := ⟨h_pg_Book, h_hd_Book, h_po_Book, h_sa_Book⟩
  have m_Book := PySem.W.mg_of X G h_a_Book
  have k_Process : Cls K C_Process := ⟨h_pg_Process, h_hd_Process, h_po_Process, h_sa_Process⟩
  have m_Process := PySem.W.mg_of X G h_a_Process
  have k_Net : Cls K C_Net := ⟨h_pg_Net, h_hd_Net, h_po_Net, h_sa_Net⟩
  have m_Net := PySem.W.mg_of X G h_a_Net
  have k_Program : Cls K C_Program := ⟨h_pg_Program, h_hd_Program, h_po_Program, h_sa_Program⟩
  have m_Program := PySem.W.mg_of X G h_a_Program
  have F_is_name := fun_mk (st := s_is_name) h_lk_is_name h_cd_is_name h_kp_is_name
  have F_is_number := fun_mk (st := s_is_number) h_lk_is_number h_cd_is_number h_kp_is_number
  have F_is_operand := fun_mk (st := s_is_operand) h_lk_is_operand h_cd_is_operand h_kp_is_operand
  have F_are_unlike_names := fun_mk (st := s_are_unlike_names) h_lk_are_unlike_names h_cd_are_unlike_names h_kp_are_unlike_names
  have F_Definition___init__ := fun_mk (st := s_Definition___init__) h_lk_Definition___init__ h_cd_Definition___init__ h_kp_Definition___init__
  have F_Book___getitem__ := fun_mk (st := s_Book___getitem__) h_lk_Book___getitem__ h_cd_Book___getitem__ h_kp_Book___getitem__
  have I_Book___getitem__ : PySem.W.fnIn K f_Book___getitem__ = true := by unfold PySem.W.fnIn; rw [h_lk_Book___getitem__]
  have F_Book___setitem__ := fun_mk (st := s_Book___setitem__) h_lk_Book___setitem__ h_cd_Book___setitem__ h_kp_Book___setitem__
  have I_Book___setitem__ : PySem.W.fnIn K f_Book___setitem__ = true := by unfold PySem.W.fnIn; rw [h_lk_Book___setitem__]
  have F_check_seats := fun_mk (st := s_check_seats) h_lk_check_seats h_cd_check_seats h_kp_check_seats
  have F_Process___init__ := fun_mk (st := s_Process___init__) h_lk_Process___init__ h_cd_Process___init__ h_kp_Process___init__
  have F_built := fun_mk (st := s_built) h_lk_built h_cd_built h_kp_built
  have F_Process_stop := fun_mk (st := s_Process_stop) h_lk_Process_stop h_cd_Process_stop h_kp_Process_stop
  have F_Process_offer := fun_mk (st := s_Process_offer) h_lk_Process_offer h_cd_Process_offer h_kp_Process_offer
  have F_Process_new := fun_mk (st := s_Process_new) h_lk_Process_new h_cd_Process_new h_kp_Process_new
  have F_Process_call := fun_mk (st := s_Process_call) h_lk_Process_call h_cd_Process_call h_kp_Process_call
  have F_Net___init__ := fun_mk (st := s_Net___init__) h_lk_Net___init__ h_cd_Net___init__ h_kp_Net___init__
  have F_Net___len__ := fun_mk (st := s_Net___len__) h_lk_Net___len__ h_cd_Net___len__ h_kp_Net___len__
  have I_Net___len__ : PySem.W.fnIn K f_Net___len__ = true := by unfold PySem.W.fnIn; rw [h_lk_Net___len__]
  have F_Net___getitem__ := fun_mk (st := s_Net___getitem__) h_lk_Net___getitem__ h_cd_Net___getitem__ h_kp_Net___getitem__
  have I_Net___getitem__ : PySem.W.fnIn K f_Net___getitem__ = true := by unfold PySem.W.fnIn; rw [h_lk_Net___getitem__]
  have F_check_channels := fun_mk (st := s_check_channels) h_lk_check_channels h_cd_check_channels h_kp_check_channels
  have F_direct_calls := fun_mk (st := s_direct_calls) h_lk_direct_calls h_cd_direct_calls h_kp_direct_calls
  have F_check_endless := fun_mk (st := s_check_endless) h_lk_check_endless h_cd_check_endless h_kp_check_endless
  have F_check_operand := fun_mk (st := s_check_operand) h_lk_check_operand h_cd_check_operand h_kp_check_operand
  have F_check_names := fun_mk (st := s_check_names) h_lk_check_names h_cd_check_names h_kp_check_names
  have F_Program___init__ := fun_mk (st := s_Program___init__) h_lk_Program___init__ h_cd_Program___init__ h_kp_Program___init__
  have F_Program_declared := fun_mk (st := s_Program_declared) h_lk_Program_declared h_cd_Program_declared h_kp_Program_declared
  have I_Program_declared : PySem.W.fnIn K f_Program_declared = true := by unfold PySem.W.fnIn; rw [h_lk_Program_declared]
  have F__law_cell_at := fun_mk (st := s__law_cell_at) h_lk__law_cell_at h_cd__law_cell_at h_kp__law_cell_at
  have F__law_mixed := fun_mk (st := s__law_mixed) h_lk__law_mixed h_cd__law_mixed h_kp__law_mixed
  have F__law_row := fun_mk (st := s__law_row) h_lk__law_row h_cd__law_row h_kp__law_row
  have F__law_channels := fun_mk (st := s__law_channels) h_lk__law_channels h_cd__law_channels h_kp__law_channels
  have F__law_due := fun_mk (st := s__law_due) h_lk__law_due h_cd__law_due h_kp__law_due
  have F__law_tried := fun_mk (st := s__law_tried) h_lk__law_tried h_cd__law_tried h_kp__law_tried
  have F_law := fun_mk (st := s_law) h_lk_law h_cd_law h_kp_law
  have m_BadTerm := PySem.W.mg_of X G h_a_BadTerm
  have m_Endless := PySem.W.mg_of X G h_a_Endless
  have m_NoMachine := PySem.W.mg_of X G h_a_NoMachine
  have m_NoName := PySem.W.mg_of X G h_a_NoName
  have m_SeatsError := PySem.W.mg_of X G h_a_SeatsError
  have m_WrongCount := PySem.W.mg_of X G h_a_WrongCount
  have F_x_BadTerm := fun_mk (st := s_x_BadTerm) h_lk_x_BadTerm h_cd_x_BadTerm h_kp_x_BadTerm
  have F_x_Endless := fun_mk (st := s_x_Endless) h_lk_x_Endless h_cd_x_Endless h_kp_x_Endless
  have F_x_NoMachine := fun_mk (st := s_x_NoMachine) h_lk_x_NoMachine h_cd_x_NoMachine h_kp_x_NoMachine
  have F_x_NoName := fun_mk (st := s_x_NoName) h_lk_x_NoName h_cd_x_NoName h_kp_x_NoName
  have F_x_WrongCount := fun_mk (st := s_x_WrongCount) h_lk_x_WrongCount h_cd_x_WrongCount h_kp_x_WrongCount
  exact ⟨⟨trivial, PySem.W.mg_none_of X G h_b_abs, PySem.W.mg_none_of X G h_b_all, PySem.W.mg_none_of X G h_b_bool, PySem.W.mg_none_of X G h_b_dict, PySem.W.mg_none_of X G h_b_int, PySem.W.mg_none_of X G h_b_isinstance, PySem.W.mg_none_of X G h_b_iter, PySem.W.mg_none_of X G h_b_len, PySem.W.mg_none_of X G h_b_list, PySem.W.mg_none_of X G h_b_max, PySem.W.mg_none_of X G h_b_range, PySem.W.mg_none_of X G h_b_set, PySem.W.mg_none_of X G h_b_sorted, PySem.W.mg_none_of X G h_b_str, PySem.W.mg_none_of X G h_b_tuple, ⟨⟨_, m_Definition, k_Definition, h_n_Definition_body⟩, True.intro⟩, ⟨⟨_, m_Program, k_Program, h_n_Program_channel_rows⟩, True.intro⟩, ⟨⟨_, m_Process, k_Process, h_n_Process_depth⟩, True.intro⟩, ⟨⟨_, m_Process, k_Process, h_n_Process_kind⟩, True.intro⟩, ⟨⟨_, m_Program, k_Program, h_n_Program_known⟩, True.intro⟩, ⟨⟨_, m_Program, k_Program, h_n_Program_machines⟩, True.intro⟩, ⟨⟨_, m_Definition, k_Definition, h_n_Definition_params⟩, True.intro⟩, ⟨⟨_, m_Process, k_Process, h_n_Process_parts⟩, True.intro⟩, ⟨⟨_, m_Book, k_Book, h_n_Book_rows⟩, ⟨⟨_, m_Net, k_Net, h_n_Net_rows⟩, True.intro⟩⟩, ⟨⟨_, m_Process, k_Process, h_n_Process_size⟩, True.intro⟩, ⟨⟨_, m_Program, k_Program, h_n_Program_starts⟩, True.intro⟩, ⟨_, m_Book, h_sq_Book⟩, ⟨_, PySem.W.mg_of X G h_ga_RESERVED, _, _, _, h_gl_RESERVED, rfl, rfl, (by rw [sizeLine_eq]; exact Nat.le_of_ble_eq_true rfl), (.cons ⟨_, rfl⟩ (.cons ⟨_, rfl⟩ (.cons ⟨_, rfl⟩ (.cons ⟨_, rfl⟩ (.cons ⟨_, rfl⟩ (.cons ⟨_, rfl⟩ (.cons ⟨_, rfl⟩ (.cons ⟨_, rfl⟩ (.cons ⟨_, rfl⟩ (.cons ⟨_, rfl⟩ (.cons ⟨_, rfl⟩ .nil)))))))))))⟩, ⟨_, PySem.W.mg_of X G h_c_DIGITS⟩, ⟨_, PySem.W.mg_of X G h_c_LETTERS⟩, ⟨_, PySem.W.mg_of X G h_c_MOST_CHANNELS⟩, ⟨_, PySem.W.mg_of X G h_c_MOST_DEFINITIONS⟩, ⟨_, PySem.W.mg_of X G h_c_MOST_DEPTH⟩, ⟨_, PySem.W.mg_of X G h_c_MOST_MACHINES⟩, ⟨_, PySem.W.mg_of X G h_c_MOST_OPERANDS⟩, ⟨_, PySem.W.mg_of X G h_c_MOST_PARAMS⟩, ⟨_, PySem.W.mg_of X G h_c_MOST_SEATS⟩, ⟨_, PySem.W.mg_of X G h_c_MOST_SIGNS⟩, ⟨_, PySem.W.mg_of X G h_c_MOST_SIZE⟩, ⟨_, PySem.W.mg_of X G h_c_VALUE_LIMIT⟩, ⟨_, _, m_SeatsError, h_sr_SeatsError, h_sg_SeatsError, h_sf_SeatsError⟩, ⟨_, m_BadTerm, (exf_cons ⟨_, m_BadTerm, PySem.W.exm_ref h_cbe_BadTerm h_chd_BadTerm h_cty_BadTerm h_ce_BadTerm_BadTerm⟩ (exf_cons ⟨_, m_Endless, PySem.W.exm_ref h_cbe_BadTerm h_chd_BadTerm h_cty_BadTerm h_ce_BadTerm_Endless⟩ (exf_cons ⟨_, m_NoMachine, PySem.W.exm_ref h_cbe_BadTerm h_chd_BadTerm h_cty_BadTerm h_ce_BadTerm_NoMachine⟩ (exf_cons ⟨_, m_NoName, PySem.W.exm_ref h_cbe_BadTerm h_chd_BadTerm h_cty_BadTerm h_ce_BadTerm_NoName⟩ (exf_cons ⟨_, m_WrongCount, PySem.W.exm_ref h_cbe_BadTerm h_chd_BadTerm h_cty_BadTerm h_ce_BadTerm_WrongCount⟩ exf_nil)))))⟩, ⟨_, m_NoMachine, (exf_cons ⟨_, m_BadTerm, PySem.W.exm_ref h_cbe_NoMachine h_chd_NoMachine h_cty_NoMachine h_ce_NoMachine_BadTerm⟩ (exf_cons ⟨_, m_Endless, PySem.W.exm_ref h_cbe_NoMachine h_chd_NoMachine h_cty_NoMachine h_ce_NoMachine_Endless⟩ (exf_cons ⟨_, m_NoMachine, PySem.W.exm_ref h_cbe_NoMachine h_chd_NoMachine h_cty_NoMachine h_ce_NoMachine_NoMachine⟩ (exf_cons ⟨_, m_NoName, PySem.W.exm_ref h_cbe_NoMachine h_chd_NoMachine h_cty_NoMachine h_ce_NoMachine_NoName⟩ (exf_cons ⟨_, m_WrongCount, PySem.W.exm_ref h_cbe_NoMachine h_chd_NoMachine h_cty_NoMachine h_ce_NoMachine_WrongCount⟩ exf_nil)))))⟩, ⟨_, m_NoName, (exf_cons ⟨_, m_BadTerm, PySem.W.exm_ref h_cbe_NoName h_chd_NoName h_cty_NoName h_ce_NoName_BadTerm⟩ (exf_cons ⟨_, m_Endless, PySem.W.exm_ref h_cbe_NoName h_chd_NoName h_cty_NoName h_ce_NoName_Endless⟩ (exf_cons ⟨_, m_NoMachine, PySem.W.exm_ref h_cbe_NoName h_chd_NoName h_cty_NoName h_ce_NoName_NoMachine⟩ (exf_cons ⟨_, m_NoName, PySem.W.exm_ref h_cbe_NoName h_chd_NoName h_cty_NoName h_ce_NoName_NoName⟩ (exf_cons ⟨_, m_WrongCount, PySem.W.exm_ref h_cbe_NoName h_chd_NoName h_cty_NoName h_ce_NoName_WrongCount⟩ exf_nil)))))⟩, ⟨_, m_BadTerm, ⟨h_xga_BadTerm, h_xgg_BadTerm, h_xbe_BadTerm, h_xhd_BadTerm⟩, h_xno_BadTerm⟩, ⟨_, m_NoMachine, ⟨h_xga_NoMachine, h_xgg_NoMachine, h_xbe_NoMachine, h_xhd_NoMachine⟩, h_xno_NoMachine⟩, ⟨_, m_NoName, ⟨h_xga_NoName, h_xgg_NoName, h_xbe_NoName, h_xhd_NoName⟩, h_xno_NoName⟩⟩,
    ⟨_, _, PySem.W.mg_of X G h_at_is_name, F_is_name⟩,
    ⟨_, _, PySem.W.mg_of X G h_at_is_number, F_is_number⟩,
    ⟨_, _, PySem.W.mg_of X G h_at_is_operand, F_is_operand⟩,
    ⟨_, _, PySem.W.mg_of X G h_at_are_unlike_names, F_are_unlike_names⟩,
    ⟨_, _, _, m_Definition, ⟨h_mk_Definition, h_at_Definition___init__, h_fn_Definition___init__, h_kc_Definition⟩, F_Definition___init__⟩,
    ⟨_, _, _, m_Book, k_Book, ⟨⟨h_at_Book___getitem__, h_fn_Book___getitem__, h_kp_Book___getitem__⟩, I_Book___getitem__⟩, F_Book___getitem__⟩,
    ⟨_, _, _, m_Book, k_Book, ⟨⟨h_at_Book___setitem__, h_fn_Book___setitem__, h_kp_Book___setitem__⟩, I_Book___setitem__⟩, F_Book___setitem__⟩,
    ⟨_, _, PySem.W.mg_of X G h_at_check_seats, F_check_seats⟩,
    ⟨_, _, _, m_Process, ⟨h_mk_Process, h_at_Process___init__, h_fn_Process___init__, h_kc_Process⟩, F_Process___init__⟩,
    ⟨_, _, PySem.W.mg_of X G h_at_built, F_built⟩,
    ⟨_, _, ⟨_, _, _, m_Process, h_qr_Process, h_qg_Process, h_sc_Process_stop, h_sx_Process_stop⟩, F_Process_stop⟩,
    ⟨_, _, ⟨_, _, _, m_Process, h_qr_Process, h_qg_Process, h_sc_Process_offer, h_sx_Process_offer⟩, F_Process_offer⟩,
    ⟨_, _, ⟨_, _, _, m_Process, h_qr_Process, h_qg_Process, h_sc_Process_new, h_sx_Process_new⟩, F_Process_new⟩,
    ⟨_, _, ⟨_, _, _, m_Process, h_qr_Process, h_qg_Process, h_sc_Process_call, h_sx_Process_call⟩, F_Process_call⟩,
    ⟨_, _, _, m_Net, ⟨h_mk_Net, h_at_Net___init__, h_fn_Net___init__, h_kc_Net⟩, F_Net___init__⟩,
    ⟨_, _, _, m_Net, k_Net, ⟨⟨h_at_Net___len__, h_fn_Net___len__, h_kp_Net___len__⟩, I_Net___len__⟩, F_Net___len__⟩,
    ⟨_, _, _, m_Net, k_Net, ⟨⟨h_at_Net___getitem__, h_fn_Net___getitem__, h_kp_Net___getitem__⟩, I_Net___getitem__⟩, F_Net___getitem__⟩,
    ⟨_, _, PySem.W.mg_of X G h_at_check_channels, F_check_channels⟩,
    ⟨_, _, PySem.W.mg_of X G h_at_direct_calls, F_direct_calls⟩,
    ⟨_, _, PySem.W.mg_of X G h_at_check_endless, F_check_endless⟩,
    ⟨_, _, PySem.W.mg_of X G h_at_check_operand, F_check_operand⟩,
    ⟨_, _, PySem.W.mg_of X G h_at_check_names, F_check_names⟩,
    ⟨_, _, _, m_Program, ⟨h_mk_Program, h_at_Program___init__, h_fn_Program___init__, h_kc_Program⟩, F_Program___init__⟩,
    ⟨_, _, _, m_Program, k_Program, ⟨⟨h_at_Program_declared, h_fn_Program_declared, h_kp_Program_declared⟩, I_Program_declared⟩, F_Program_declared⟩,
    ⟨_, _, PySem.W.mg_of X G h_at__law_cell_at, F__law_cell_at⟩,
    ⟨_, _, PySem.W.mg_of X G h_at__law_mixed, F__law_mixed⟩,
    ⟨_, _, PySem.W.mg_of X G h_at__law_row, F__law_row⟩,
    ⟨_, _, PySem.W.mg_of X G h_at__law_channels, F__law_channels⟩,
    ⟨_, _, PySem.W.mg_of X G h_at__law_due, F__law_due⟩,
    ⟨_, _, PySem.W.mg_of X G h_at__law_tried, F__law_tried⟩,
    ⟨_, _, PySem.W.mg_of X G h_at_law, F_law⟩,
    ⟨_, _, _, m_Book, k_Book, h_n_Book_rows, ⟨h_at_it_Book, h_fn_it_Book⟩, fun_mk (st := s_it_Book) h_lk_it_Book h_cd_it_Book h_kp_it_Book⟩,
    ⟨_, _, _, _, m_Book, ⟨h_mk_Book, h_at_mk0_Book, h_fn_mk0_Book, h_kc_Book⟩, k_Book, h_n_Book_rows, ⟨⟨_, _, _, _, _, _, _, _, _, _, rfl, h_lk_mk0_Book, h_cd_mk0_Book, .inr ⟨by simp, _, _, [.ref t0_mk0_Book], _, rfl, h_dt_mk0_Book, rfl, .cons rfl .nil⟩, .inl rfl⟩, h_kp_mk0_Book⟩, ⟨_, _, h_t0_mk0_Book, rfl, rfl, rfl⟩⟩,
    ⟨_, _, _, m_BadTerm, ⟨⟨_, _, _, _, _, _, _, _, _, _, _, _, _, _, _, h_xo_BadTerm, rfl⟩, h_xsa_BadTerm, h_xex_BadTerm, h_xty_BadTerm, h_xkc_BadTerm⟩, h_at_x_BadTerm, h_ft_x_BadTerm, h_xnf_BadTerm, F_x_BadTerm⟩,
    ⟨_, _, _, m_Endless, ⟨⟨_, _, _, _, _, _, _, _, _, _, _, _, _, _, _, h_xo_Endless, rfl⟩, h_xsa_Endless, h_xex_Endless, h_xty_Endless, h_xkc_Endless⟩, h_at_x_Endless, h_ft_x_Endless, h_xnf_Endless, F_x_Endless⟩,
    ⟨_, _, _, m_NoMachine, ⟨⟨_, _, _, _, _, _, _, _, _, _, _, _, _, _, _, h_xo_NoMachine, rfl⟩, h_xsa_NoMachine, h_xex_NoMachine, h_xty_NoMachine, h_xkc_NoMachine⟩, h_at_x_NoMachine, h_ft_x_NoMachine, h_xnf_NoMachine, F_x_NoMachine⟩,
    ⟨_, _, _, m_NoName, ⟨⟨_, _, _, _, _, _, _, _, _, _, _, _, _, _, _, h_xo_NoName, rfl⟩, h_xsa_NoName, h_xex_NoName, h_xty_NoName, h_xkc_NoName⟩, h_at_x_NoName, h_ft_x_NoName, h_xnf_NoName, F_x_NoName⟩,
    ⟨_, _, _, m_WrongCount, ⟨⟨_, _, _, _, _, _, _, _, _, _, _, _, _, _, _, h_xo_WrongCount, rfl⟩, h_xsa_WrongCount, h_xex_WrongCount, h_xty_WrongCount, h_xkc_WrongCount⟩, h_at_x_WrongCount, h_ft_x_WrongCount, h_xnf_WrongCount, F_x_WrongCount⟩⟩
end L11
namespace L11
open PySem L2 DL
noncomputable def g_is_name : Fn := fnOf N_is_name 1 (b_is_name)
noncomputable def g_is_number : Fn := fnOf N_is_number 1 (b_is_number)
noncomputable def g_is_operand : Fn := fnOf N_is_operand 1 (b_is_operand g_is_name g_is_number)
noncomputable def g_are_unlike_names : Fn := fnOf N_are_unlike_names 1 (b_are_unlike_names g_is_name)
noncomputable def g_mk_Definition : Fn := fnOf N_Definition___init__ 3 (b_Definition___init__ g_are_unlike_names)
noncomputable def g_Book___getitem__ : Fn := fnOf N_Book___getitem__ 2 (b_Book___getitem__)
noncomputable def g_Book___setitem__ : Fn := fnOf N_Book___setitem__ 3 (b_Book___setitem__ g_is_name)
noncomputable def g_check_seats : Fn := fnOf N_check_seats 1 (b_check_seats)
noncomputable def g_mk_Process : Fn := fnOf N_Process___init__ 5 (b_Process___init__)
noncomputable def g_built : Fn := fnOf N_built 4 (b_built g_mk_Process)
noncomputable def g_Process_stop : Fn := fnOf N_Process_stop 0 (b_Process_stop g_mk_Process)
noncomputable def g_Process_offer : Fn := fnOf N_Process_offer 6 (b_Process_offer g_are_unlike_names g_built g_check_seats g_is_name g_is_operand)
noncomputable def g_Process_new : Fn := fnOf N_Process_new 3 (b_Process_new g_built g_check_seats g_is_name)
noncomputable def g_Process_call : Fn := fnOf N_Process_call 2 (b_Process_call g_is_name g_is_operand g_mk_Process)
noncomputable def g_mk_Net : Fn := fnOf N_Net___init__ 2 (b_Net___init__)
noncomputable def g_Net___len__ : Fn := fnOf N_Net___len__ 1 (b_Net___len__)
noncomputable def g_Net___getitem__ : Fn := fnOf N_Net___getitem__ 2 (b_Net___getitem__)
noncomputable def g_check_channels : Fn := fnOf N_check_channels 2 (b_check_channels g_is_name)
noncomputable def gr_direct_calls : Nat → Fn
  | 0 => fun _ _ => none
  | n + 1 => fnOf N_direct_calls 1 (b_direct_calls (gr_direct_calls n))
theorem gs_direct_calls (n : Nat) : gr_direct_calls (n + 1) = fnOf N_direct_calls 1 (b_direct_calls (gr_direct_calls n)) := by rw [gr_direct_calls]
theorem gz_direct_calls : gr_direct_calls 0 = fun _ _ => none := by rw [gr_direct_calls]
noncomputable abbrev g_direct_calls : Fn := gr_direct_calls 8
noncomputable def g_check_endless : Fn := fnOf N_check_endless 1 (b_check_endless g_direct_calls)
noncomputable def g_check_operand : Fn := fnOf N_check_operand 2 (b_check_operand)
noncomputable def gr_check_names : Nat → Fn
  | 0 => fun _ _ => none
  | n + 1 => fnOf N_check_names 3 (b_check_names (gr_check_names n) g_check_operand)
theorem gs_check_names (n : Nat) : gr_check_names (n + 1) = fnOf N_check_names 3 (b_check_names (gr_check_names n) g_check_operand) := by rw [gr_check_names]
theorem gz_check_names : gr_check_names 0 = fun _ _ => none := by rw [gr_check_names]
noncomputable abbrev g_check_names : Fn := gr_check_names 8
noncomputable def g_mk_Program : Fn := fnOf N_Program___init__ 4 (b_Program___init__ g_Book___getitem__ g_Net___getitem__ g_Net___len__ g_check_channels g_check_endless g_check_names)
noncomputable def g_Program_declared : Fn := fnOf N_Program_declared 1 (b_Program_declared)
noncomputable def g__law_cell_at : Fn := fnOf N__law_cell_at 2 (b__law_cell_at)
noncomputable def g__law_mixed : Fn := fnOf N__law_mixed 2 (b__law_mixed)
noncomputable def g__law_row : Fn := fnOf N__law_row 2 (b__law_row g__law_mixed)
noncomputable def g__law_channels : Fn := fnOf N__law_channels 2 (b__law_channels)
noncomputable def g__law_due : Fn := fnOf N__law_due 3 (b__law_due)
noncomputable def g__law_tried : Fn := fnOf N__law_tried 3 (b__law_tried g_Net___len__ g_Program_declared g_mk_Program)
noncomputable def g_law : Fn := fnV N_law 1 (b_law g_Book___setitem__ g_Process_offer g_Process_stop g__law_cell_at g__law_channels g__law_due g__law_row g__law_tried g_mk_Definition g_mk_Net)
theorem f_law {P : Program} {w : World} {K : PySem.W.Frag} {mg : Str → Option Value} {base : Heap} (T : Txt K mg) {a : Addr} {fd : FuncData} (F : Fun K "law" "law" s_law a fd) : FnOk P w K mg base CX0 15 a fd P_law (spD ⟨K, mg⟩ g_law) := by
  have c_x_BadTerm := kx_BadTerm (P := P) (w := w) (base := base) T.t_x_BadTerm T.B.se_SeatsError
  have c_x_Endless := kx_Endless (P := P) (w := w) (base := base) T.t_x_Endless T.B.se_SeatsError
  have c_x_NoMachine := kx_NoMachine (P := P) (w := w) (base := base) T.t_x_NoMachine T.B.se_SeatsError
  have c_x_NoName := kx_NoName (P := P) (w := w) (base := base) T.t_x_NoName T.B.se_SeatsError
  have c_x_WrongCount := kx_WrongCount (P := P) (w := w) (base := base) T.t_x_WrongCount T.B.se_SeatsError
  have c_it_Book := ki_Book (P := P) (w := w) (base := base) T.t_it_Book T.B
  have c_mk0_Book := k0_Book (P := P) (w := w) (base := base) T.t_mk0_Book T.B
  have c_is_name := k_is_name (P := P) (w := w) (K := K) (mg := mg) (base := base) (gg := g_is_name) T.t_is_name T.B hf_X
  have c_is_number := k_is_number (P := P) (w := w) (K := K) (mg := mg) (base := base) (gg := g_is_number) T.t_is_number T.B hf_X
  have c_is_operand := k_is_operand (P := P) (w := w) (K := K) (mg := mg) (base := base) (gg := g_is_operand) T.t_is_operand T.B c_is_name c_is_number hf_X
  have c_are_unlike_names := k_are_unlike_names (P := P) (w := w) (K := K) (mg := mg) (base := base) (gg := g_are_unlike_names) T.t_are_unlike_names T.B c_is_name hf_X
  have c_mk_Definition := k_mk_Definition (P := P) (w := w) (K := K) (mg := mg) (base := base) (gg := g_mk_Definition) T.t_mk_Definition T.B c_are_unlike_names c_x_BadTerm hf_X
  have c_Book___getitem__ := k_Book___getitem__ (P := P) (w := w) (K := K) (mg := mg) (base := base) (gg := g_Book___getitem__) T.t_Book___getitem__ T.B c_x_NoName hf_X
  have c_Book___setitem__ := k_Book___setitem__ (P := P) (w := w) (K := K) (mg := mg) (base := base) (gg := g_Book___setitem__) T.t_Book___setitem__ T.B c_is_name c_x_BadTerm hf_X
  have c_check_seats := k_check_seats (P := P) (w := w) (K := K) (mg := mg) (base := base) (gg := g_check_seats) T.t_check_seats T.B c_x_BadTerm hf_X
  have c_mk_Process := k_mk_Process (P := P) (w := w) (K := K) (mg := mg) (base := base) (gg := g_mk_Process) T.t_mk_Process T.B hf_X
  have c_built := k_built (P := P) (w := w) (K := K) (mg := mg) (base := base) (gg := g_built) T.t_built T.B c_mk_Process c_x_BadTerm hf_X
  have c_Process_stop := k_Process_stop (P := P) (w := w) (K := K) (mg := mg) (base := base) (gg := g_Process_stop) T.t_Process_stop T.B c_mk_Process hf_X
  have c_Process_offer := k_Process_offer (P := P) (w := w) (K := K) (mg := mg) (base := base) (gg := g_Process_offer) T.t_Process_offer T.B c_are_unlike_names c_built c_check_seats c_is_name c_is_operand c_x_BadTerm hf_X
  have c_Process_new := k_Process_new (P := P) (w := w) (K := K) (mg := mg) (base := base) (gg := g_Process_new) T.t_Process_new T.B c_built c_check_seats c_is_name c_x_BadTerm hf_X
  have c_Process_call := k_Process_call (P := P) (w := w) (K := K) (mg := mg) (base := base) (gg := g_Process_call) T.t_Process_call T.B c_is_name c_is_operand c_mk_Process c_x_BadTerm hf_X
  have c_mk_Net := k_mk_Net (P := P) (w := w) (K := K) (mg := mg) (base := base) (gg := g_mk_Net) T.t_mk_Net T.B c_x_BadTerm hf_X
  have c_Net___len__ := k_Net___len__ (P := P) (w := w) (K := K) (mg := mg) (base := base) (gg := g_Net___len__) T.t_Net___len__ T.B hf_X
  have c_Net___getitem__ := k_Net___getitem__ (P := P) (w := w) (K := K) (mg := mg) (base := base) (gg := g_Net___getitem__) T.t_Net___getitem__ T.B hf_X
  have c_check_channels := k_check_channels (P := P) (w := w) (K := K) (mg := mg) (base := base) (gg := g_check_channels) T.t_check_channels T.B c_is_name c_x_BadTerm c_x_NoMachine hf_X
  have cs_0 : ∀ n : Nat, Cal P w K mg base "direct_calls" P_direct_calls (0 + n * 1) (gr_direct_calls n) := by
    intro n
    induction n with
    | zero => exact (by rw [gz_direct_calls]; exact z_direct_calls T.t_direct_calls)
    | succ n ih => exact ((k_direct_calls (gg := gr_direct_calls (n + 1)) T.t_direct_calls T.B (v := (0 + n * 1)) (Nat.le_add_right _ _) ih (by rw [gs_direct_calls]; exact hf_X)).mono (by omega))
  have c_direct_calls : Cal P w K mg base "direct_calls" P_direct_calls 8 g_direct_calls := (cs_0 8)
  have c_check_endless := k_check_endless (P := P) (w := w) (K := K) (mg := mg) (base := base) (gg := g_check_endless) T.t_check_endless T.B c_direct_calls c_x_Endless hf_X
  have c_check_operand := k_check_operand (P := P) (w := w) (K := K) (mg := mg) (base := base) (gg := g_check_operand) T.t_check_operand T.B c_x_NoName hf_X
  have cs_1 : ∀ n : Nat, Cal P w K mg base "check_names" P_check_names (3 + n * 1) (gr_check_names n) := by
    intro n
    induction n with
    | zero => exact (by rw [gz_check_names]; exact z_check_names T.t_check_names)
    | succ n ih => exact ((k_check_names (gg := gr_check_names (n + 1)) T.t_check_names T.B (v := (3 + n * 1)) (Nat.le_add_right _ _) ih c_check_operand c_x_NoName c_x_WrongCount (by rw [gs_check_names]; exact hf_X)).mono (by omega))
  have c_check_names : Cal P w K mg base "check_names" P_check_names 11 g_check_names := (cs_1 8)
  have c_mk_Program := k_mk_Program (P := P) (w := w) (K := K) (mg := mg) (base := base) (gg := g_mk_Program) T.t_mk_Program T.B c_Book___getitem__ c_Net___getitem__ c_Net___len__ c_check_channels c_check_endless c_check_names c_it_Book c_x_BadTerm hf_X
  have c_Program_declared := k_Program_declared (P := P) (w := w) (K := K) (mg := mg) (base := base) (gg := g_Program_declared) T.t_Program_declared T.B hf_X
  have c__law_cell_at := k__law_cell_at (P := P) (w := w) (K := K) (mg := mg) (base := base) (gg := g__law_cell_at) T.t__law_cell_at T.B hf_X
  have c__law_mixed := k__law_mixed (P := P) (w := w) (K := K) (mg := mg) (base := base) (gg := g__law_mixed) T.t__law_mixed T.B hf_X
  have c__law_row := k__law_row (P := P) (w := w) (K := K) (mg := mg) (base := base) (gg := g__law_row) T.t__law_row T.B c__law_mixed hf_X
  have c__law_channels := k__law_channels (P := P) (w := w) (K := K) (mg := mg) (base := base) (gg := g__law_channels) T.t__law_channels T.B hf_X
  have c__law_due := k__law_due (P := P) (w := w) (K := K) (mg := mg) (base := base) (gg := g__law_due) T.t__law_due T.B hf_X
  have c__law_tried := k__law_tried (P := P) (w := w) (K := K) (mg := mg) (base := base) (gg := g__law_tried) T.t__law_tried T.B c_Net___len__ c_Program_declared c_mk_Program hf_X
  exact fn_d F sc_law (fun ds ω r e => (hf_V ds ω r e).1) (fun cdv A outer s H E n hr => d_law n T.B c_Book___setitem__ c_Process_offer c_Process_stop c__law_cell_at c__law_channels c__law_due c__law_row c__law_tried c_mk0_Book c_mk_Definition c_mk_Net hr) fun ds ω r e => (hf_V ds ω r e).2
theorem walk {l : PySem.W.OpenLaw} {q : Program} {loose : List Str} {XP : (Str → Option Value) → Heap → Prop} {YP : World → Heap → Prop} {d : DefRec} {K : Params → PySem.W.Frag} (hn : l.most = some 63) (hdf : d.params.defaults = [])
    (hY : ∀ (w : World) (h : Heap), YP w h → (K w.params).In h) (F : ∀ (w : World) (mg : Str → Option Value) (h : Heap), (K w.params).In h → h.Ns mainGlobals mg → Txt (K w.params) mg) (law : ∀ ns : List Int, ns.length ≤ 63 → ∃ ω, g_law [.scr ns] [] = some (.val (.bl true) ω)) (hd : d.name = "law" := by rfl) :
    PySem.W.WalkO q loose XP YP l.row.toRowW d [] (fun f vs => PySem.call f vs) :=
  L2.walk_of (n := 63) (k := 15) (x := "_law_script") (CX := fun _ => CX0) (sp := fun w => spLaw (K w.params)) hn (by decide) hdf ⟨rfl, by decide, by decide⟩ hY (fun w mg fa h KX G hfa => by
    have T := F w mg h KX G
    rw [hd] at hfa
    obtain ⟨a, fd, h1, Fu⟩ := T.t_law.ex
    rw [hfa] at h1
    cases h1
    refine ⟨fd, fun s v => ?_, fun base _ _ => law_fnE (f_law T Fu) law⟩
    obtain ⟨oc, od, kV, doc, pm, an, cdv, ct, osl, rfl, lk, hcd⟩ := Fu.ex
    exact .of_eq rfl) (fun _ _ a ns hl _ hS => ⟨a, ns, rfl, hS, hl, fun _ => rfl⟩) fun _ _ _ _ _ z => z
end L11
namespace L11
open PySem L2 DL
/-! ### names -/
def lettersL : List Nat := (Str.ofString "abcdefghijklmnopqrstuvwxyz").cps.toList
def digitsL : List Nat := (Str.ofString "0123456789").cps.toList
def reserved : List Str := ["stop", "new", "if", "then", "else", "put", "get", "channel", "at", "define", "start"]
/-- what a name is -/
def nameB (x : Str) : Bool := !(decide (x.length < 1) || decide (8 < x.length) || reserved.contains x) && (decide (x.cps.toList.headD 0 ∈ lettersL) && x.cps.toList.all fun c => decide (c ∈ lettersL) || decide (c ∈ digitsL))
theorem c_isname {x : Str} (ω : List Cell) (h : x.length ≤ 1000) : g_is_name [.str x] ω = some (.val (.bl (nameB x)) ω) := by
  refine fn_rt rfl ?_
  unfold b_is_name
  have l0 : ∀ r1 : Sl, (uo lenD (vW 0)) [.fz (.str x), r1] ω = some (.val (.int x.length) ω) := fun r1 => uo_ev (x := .str x) (ω1 := ω) rfl rfl (len_str h)
  have t1 : ∀ r1 : Sl, notM (truM (uo (isiB "str") (vW 0))) [.fz (.str x), r1] ω = some (.val false ω) := fun r1 => notM_ev (b := true) (truM_ev (uo_ev (x := .str x) (ω1 := ω) rfl rfl (isi_ss x)))
  have t : (orM (notM (truM (uo (isiB "str") (vW 0)))) (orM (tst (bo ltD (uo lenD (vW 0)) (M.pure (.int 1)))) (orM (tst (bo gtD (uo lenD (vW 0)) (M.pure (.int 8)))) (tst (bo inD (vW 0) (M.pure (.tup (([("stop" : Str), "new", "if", "then", "else", "put", "get", "channel", "at", "define", "start"] : List Str).map D.str)))))))) (startE N_is_name [.str x]) ω = some (.val (decide (x.length < 1) || decide (8 < x.length) || reserved.contains x) ω) := by
    refine orM_f (t1 _) ?_
    by_cases h1 : x.length < 1
    · rw [decide_eq_true h1]
      exact orM_t (tst_ev (bo_ev (y := .int 1) (l0 _) rfl rfl rfl (ltD_t (by omega))))
    · rw [decide_eq_false h1]
      refine orM_f (tst_ev (bo_ev (y := .int 1) (l0 _) rfl rfl rfl (ltD_f (by omega)))) ?_
      by_cases h2 : 8 < x.length
      · rw [decide_eq_true h2]
        exact orM_t (tst_ev (bo_ev (y := .int 8) (l0 _) rfl rfl rfl (gtD_t (by omega))))
      · rw [decide_eq_false h2]
        refine orM_f (tst_ev (bo_ev (y := .int 8) (l0 _) rfl rfl rfl (gtD_f (by omega)))) ?_
        exact tst_ev (bo_ev (x := .str x) (ω1 := ω) rfl rfl rfl rfl (in_strs x reserved))
  cases hb : (decide (x.length < 1) || decide (8 < x.length) || reserved.contains x) with
  | true =>
    rw [hb] at t
    refine Eq.trans (seqS_rt (d := .bl (nameB x)) (ω' := ω) ?_) rfl
    rw [ifS_t t]
    refine retS_ev ?_
    show some (R.val (D.bl false) ω) = _
    unfold nameB
    rw [hb]
    rfl
  | false =>
    rw [hb] at t
    have h1 : 1 ≤ x.length := by
      simp only [Bool.or_eq_false_iff, decide_eq_false_iff_not] at hb
      omega
    refine Eq.trans (seqS_nx (ρ' := startE N_is_name [.str x]) (ω' := ω) (by rw [ifS_f t])) ?_
    refine retS_ev ?_
    unfold nameB
    rw [hb, Bool.not_false, Bool.true_and]
    refine andV_ev (bo_ev (x := .str ⟨#[x.cps.toList.headD 0]⟩) (y := .str "abcdefghijklmnopqrstuvwxyz") (ω1 := ω) (bo_ev (x := .str x) (y := .int 0) (ω1 := ω) rfl rfl rfl rfl (ix_str0 h h1)) rfl rfl rfl (in_sign _ _)) ?_
    exact all_signs h rfl fun c hc => orV_ev (bo_ev (x := .str ⟨#[c]⟩) (y := .str "abcdefghijklmnopqrstuvwxyz") (ω1 := ω) rfl rfl rfl rfl (in_sign _ c)) (bo_ev (x := .str ⟨#[c]⟩) (y := .str "0123456789") (ω1 := ω) rfl rfl rfl rfl (in_sign _ c))
def numB (i : Int) : Bool := decide (-1000000000000000000000000000000 < i) && decide (i < 1000000000000000000000000000000)
theorem c_isnum {i : Int} (ω : List Cell) : g_is_number [.int i] ω = some (.val (.bl (numB i)) ω) := by
  refine fn_rt rfl ?_
  unfold b_is_number
  refine retS_ev ?_
  rw [andV_t (uo_ev (x := .int i) (ω1 := ω) rfl rfl (isi_ii i)), andV_t (notV_ev (b := false) (uo_ev (x := .int i) (ω1 := ω) rfl rfl (isi_ib i)))]
  exact chain_int rfl rfl rfl
theorem c_isnumS {x : Str} (ω : List Cell) : g_is_number [.str x] ω = some (.val (.bl false) ω) := by
  refine fn_rt rfl ?_
  unfold b_is_number
  refine retS_ev ?_
  rw [andV_f (uo_ev (x := .str x) (ω1 := ω) rfl rfl (isi_si x))]
/-- an operand: a number or a text -/
inductive Opd where
  | num (i : Int) | txt (x : Str)
def Opd.d : Opd → D
  | .num i => .int i
  | .txt x => .str x
def Opd.ok : Opd → Bool
  | .num i => numB i
  | .txt x => nameB x
def Opd.short : Opd → Prop
  | .num _ => True
  | .txt x => x.length ≤ 1000 ∧ PySem.PyData.strOk x = true
theorem c_isname_num {i : Int} (ω : List Cell) : g_is_name [.int i] ω = some (.val (.bl false) ω) := by
  refine fn_rt rfl ?_
  unfold b_is_name
  refine Eq.trans (seqS_rt (d := .bl false) (ω' := ω) ?_) rfl
  rw [ifS_t (orM_t (notM_ev (b := false) (truM_ev (uo_ev (x := .int i) (ω1 := ω) rfl rfl (isi_is i)))))]
  rfl
theorem c_isop {o : Opd} (ω : List Cell) (h : o.short) : g_is_operand [o.d] ω = some (.val (.bl o.ok) ω) := by
  refine fn_rt rfl ?_
  unfold b_is_operand
  refine retS_ev ?_
  cases o with
  | num i =>
    have e := orV_ev (fa := calM g_is_number (consM (vF 0) (M.pure []))) (fb := calM g_is_name (consM (vF 0) (M.pure []))) (ρ := startE N_is_operand [.int i]) (ω := ω) (calM_ev (ds := [.int i]) (ω1 := ω) rfl (c_isnum ω)) (calM_ev (ds := [.int i]) (ω1 := ω) rfl (c_isname_num ω))
    rw [Bool.or_false] at e
    exact e
  | txt x => exact orV_ev (b := false) (calM_ev (ds := [.str x]) (ω1 := ω) rfl (c_isnumS ω)) (calM_ev (ds := [.str x]) (ω1 := ω) rfl (c_isname ω h.1))
theorem Opd.fine {o : Opd} (h : o.short) : DL.fine o.d = true := by
  cases o with
  | num i => rfl
  | txt x => exact fineS h.2
/-! ### cell_at, mixed, row: alike in every law -/
def cellI (ns : List Int) (k : Int) : Int := if k < ns.length then ns.getD k.toNat 0 else 0
theorem e_cell {ns : List Int} {k : Int} (ω : List Cell) (h : 0 ≤ k) : b__law_cell_at (startE N__law_cell_at [.scr ns, .int k]) ω = some (.rt (.int (cellI ns k)) ω) := by
  by_cases hk : k < ns.length
  · have e : atI ns k = some (ns.getD k.toNat 0) := atI_some h (by
      have hk' : k.toNat < ns.length := by omega
      simp [hk'])
    unfold b__law_cell_at
    simp [startE, seqS, ifS, retS, bindS, tst, bo, uo, op2, op1, view, M.bind, M.pure, vF, vW, asB, ltD, cmpI, lenD, ixD, hk, e, cellI]
  · unfold b__law_cell_at
    simp [startE, seqS, ifS, retS, bindS, tst, bo, uo, op2, op1, view, M.bind, M.pure, vF, vW, asB, ltD, cmpI, lenD, ixD, hk, cellI]
theorem c_cell {ns : List Int} {k : Int} (ω : List Cell) (h : 0 ≤ k) : g__law_cell_at [.scr ns, .int k] ω = some (.val (.int (cellI ns k)) ω) := fn_rt rfl (e_cell ω h)
def mixedI (c k : Int) : Int := (((c % 2147483647 + 7919 * k + 104729) ^ 5 % 2147483647 + k) * 40692) % 2147483629
theorem powD_five {i : Int} (h : i.natAbs < 2 ^ 64) : powD (.int i) (.int 5) = some (.int (i ^ 5)) := powD_int (j := 5) ⟨by decide, by decide, h⟩
theorem e_mixed {c k : Int} (ω : List Cell) (h : 0 ≤ k ∧ k ≤ 1000) : b__law_mixed (startE N__law_mixed [.int c, .int k]) ω = some (.rt (.int (mixedI c k)) ω) := by
  have h2 : (c % 2147483647 + 7919 * k + 104729).natAbs < 2 ^ 64 := by omega
  unfold b__law_mixed
  simp [startE, seqS, setS, retS, bindS, bo, uo, op2, op1, view, M.bind, M.pure, vF, vW, addD, intD, modD_int, mulD_r, mulD_l, powD_five h2, mixedI]
theorem c_mixed {c k : Int} (ω : List Cell) (h : 0 ≤ k ∧ k ≤ 1000) : g__law_mixed [.int c, .int k] ω = some (.val (.int (mixedI c k)) ω) := fn_rt rfl (e_mixed ω h)
/-- the row: the digits of the rest, then mixed numbers -/
def rowGo (c : Int) : Nat → Nat → Int → List Int
  | 0, _, _ => []
  | n + 1, k, rest => if 0 < rest then rest % 1000 :: rowGo c n (k + 1) (rest / 1000) else mixedI c k % 1000 :: rowGo c n (k + 1) rest
def restI (c : Int) : Int := if 10 ^ 18 ≤ (if c < 0 then -c else c) then (if c < 0 then -c else c) else 0
def rowI (c : Int) (n : Nat) : List Int := rowGo c n 0 (restI c)
theorem rowGo_len (c : Int) : ∀ n k r, (rowGo c n k r).length = n
  | 0, _, _ => rfl
  | n + 1, k, r => by unfold rowGo; split <;> simp [rowGo_len c n]
theorem rowGo_bd (c : Int) : ∀ n k r, ∀ x ∈ rowGo c n k r, 0 ≤ x ∧ x < 1000
  | 0, _, _, x, h => by cases h
  | n + 1, k, r, x, h => by
    unfold rowGo at h
    split at h
    · rcases List.mem_cons.mp h with rfl | h
      · omega
      · exact rowGo_bd c n _ _ x h
    · rcases List.mem_cons.mp h with rfl | h
      · omega
      · exact rowGo_bd c n _ _ x h
theorem rowI_len (c : Int) (n : Nat) : (rowI c n).length = n := rowGo_len c n 0 _
theorem rowI_bd (c : Int) (n : Nat) : ∀ x ∈ rowI c n, 0 ≤ x ∧ x < 1000 := rowGo_bd c n 0 _
abbrev dInts (xs : List Int) : D := .lst (xs.map D.int)
theorem e_row {c : Int} {n : Nat} (ω : List Cell) (h : n ≤ 1000) : b__law_row g__law_mixed (startE N__law_row [.int c, .int n]) ω = some (.rt (dInts (rowI c n)) ω) := by
  have hp : powD (.int 10) (.int 18) = some (.int (10 ^ 18)) := powD_int (j := 18) ⟨by decide, by decide, by decide⟩
  -- the loop
  obtain ⟨ρ', ω', e, k, rest, acc, he, rfl, hr⟩ := forGo_thru (T := nmT 4) (F := lb__law_row_1 g__law_mixed)
    (fun i ρ ω' => ∃ (k : Sl) (rest : Int) (acc : List Int), ρ = [.fz (.int c), .fz (.int n), .ow (acc.map D.int), .fz (.int rest), k] ∧ ω' = ω ∧ acc ++ rowGo c (n - i) i rest = rowI c n ∧ acc.length = i)
    (items := rangeD 0 n) (ρ := [.fz (.int c), .fz (.int n), .ow [], .fz (.int (restI c)), .no]) (ω := ω) ⟨.no, restI c, [], rfl, rfl, rfl, rfl⟩ (by
      rintro j d ρ ω' hd ⟨k, rest, acc, rfl, rfl, hr, hl⟩
      obtain ⟨hj, rfl⟩ := rangeD_get hd
      have hz : acc.length < sizeLine := by rw [sizeLine_eq]; omega
      have en : n - j = (n - (j + 1)) + 1 := by omega
      rw [en] at hr
      unfold rowGo at hr
      by_cases hrest : 0 < rest
      · rw [if_pos hrest] at hr
        refine ⟨_, _, _, rfl, ?_, .fz (.int (0 + j)), rest / 1000, acc ++ [rest % 1000], rfl, rfl, by simpa using hr, by simp [hl]⟩
        simp [lb__law_row_1, ifS, bindS, tst, asB, bo, uo, op2, op1, view, M.bind, M.pure, vF, vW, gtD, cmpI, hrest, seqS, setS, appS, intD, modD_int, fdivD_r, hz]
      · rw [if_neg hrest] at hr
        refine ⟨_, _, _, rfl, ?_, .fz (.int (0 + j)), rest, acc ++ [mixedI c j % 1000], rfl, rfl, by simpa using hr, by simp [hl]⟩
        have hc := c_mixed (c := c) (k := j) ω' ⟨by omega, by omega⟩
        simp [lb__law_row_1, ifS, bindS, tst, asB, bo, uo, op2, op1, view, M.bind, M.pure, vF, vW, gtD, cmpI, hrest, seqS, setS, appS, intD, modD_int, fdivD_r, hz, calM, consM, callM, hc])
  have hn : ((rangeD 0 n).length) = n := by simp [rangeD]
  rw [hn] at hr
  have hacc : acc = rowI c n := by
    have := hr.1
    simpa [rowGo] using this
  subst hacc
  have h62 : n ≤ 16777216 := by omega
  have e2 : (ifS (tst (bo geD (uo absD (vW 0)) (bo powD (M.pure (.int 10)) (M.pure (.int 18))))) (setS 3 (uo absD (vW 0))) (fun ρ ω => some (.nx ρ ω))) [.fz (.int c), .fz (.int n), .ow [], .fz (.int 0), .no] ω' = some (.nx [.fz (.int c), .fz (.int n), .ow [], .fz (.int (restI c)), .no] ω') := by
    by_cases hc : 10 ^ 18 ≤ (if c < 0 then -c else c)
    · have er : restI c = (if c < 0 then -c else c) := by unfold restI; rw [if_pos hc]
      rw [er, ifS_t (ω' := ω')]
      · rfl
      · simp only [tst, asB, bo, uo, op2, op1, view, M.bind, M.pure, vW, geD, cmpI, absD, hp, List.getElem?_cons_zero]
        rw [decide_eq_true hc]
    · have er : restI c = 0 := by unfold restI; rw [if_neg hc]
      rw [er, ifS_f (ω' := ω')]
      simp only [tst, asB, bo, uo, op2, op1, view, M.bind, M.pure, vW, geD, cmpI, absD, hp, List.getElem?_cons_zero]
      rw [decide_eq_false hc]
  unfold b__law_row
  rw [seqS_nx (ρ' := [.fz (.int c), .fz (.int n), .ow [], .no, .no]) (ω' := ω') (by rfl), seqS_nx (ρ' := [.fz (.int c), .fz (.int n), .ow [], .fz (.int 0), .no]) (ω' := ω') (by rfl), seqS_nx e2, seqS_nx (forS_nx (bind_ev (show (vF 1) _ ω' = some (.val (.int n) ω') from rfl) |>.trans (rng1_nat h62)) e), he]
  rfl
theorem c_row {c : Int} {n : Nat} (ω : List Cell) (h : n ≤ 1000) : g__law_row [.int c, .int n] ω = some (.val (dInts (rowI c n)) ω) := fn_rt rfl (e_row ω h)
/-! ### processes -/
abbrev dPr (kind : Str) (parts : List D) (depth size : Int) : D := .obj "Process" [("kind", .str kind), ("parts", .tup parts), ("depth", .int depth), ("size", .int size)]
theorem c_mk {kind : Str} {parts : List D} {depth size : Int} (ω : List Cell) : g_mk_Process [.oid ω.length, .str kind, .tup parts, .int depth, .int size] (ω ++ [.obj "Process" []]) = some (.val .non (ω ++ [.obj "Process" [("kind", .str kind), ("parts", .tup parts), ("depth", .int depth), ("size", .int size)]])) := by
  have f1 : ∀ (f : Str) (d : D) (fl : List (Str × D)) (fv : M D) (r1 r2 r3 r4 : Sl), fl.length < 1000 → fv [.fz (.oid ω.length), r1, r2, r3, r4] (ω ++ [.obj "Process" fl]) = some (.val d (ω ++ [.obj "Process" fl])) →
      fldS ["Process"] f (vF 0) fv [.fz (.oid ω.length), r1, r2, r3, r4] (ω ++ [.obj "Process" fl]) = some (.nx [.fz (.oid ω.length), r1, r2, r3, r4] (ω ++ [.obj "Process" (putD f d fl)])) := by
    intro f d fl fv r1 r2 r3 r4 hl h
    unfold fldS
    rw [bindS_ev h, bindS_ev (a := .oid ω.length) (ω1 := ω ++ [.obj "Process" fl]) rfl]
    simp only [last_cell]
    rw [if_pos ⟨rfl, hl⟩, set_last]
  refine fn_nx (ρ := [.fz (.oid ω.length), .fz (.str kind), .fz (.tup parts), .fz (.int depth), .fz (.int size)]) rfl ?_
  unfold b_Process___init__
  refine Eq.trans (seqS_nx (f1 _ (.str kind) [] _ _ _ _ _ (by decide) rfl)) ?_
  refine Eq.trans (seqS_nx (f1 _ (.tup parts) [("kind", .str kind)] _ _ _ _ _ (by simp) rfl)) ?_
  refine Eq.trans (seqS_nx (f1 _ (.int depth) [("kind", .str kind), ("parts", .tup parts)] _ _ _ _ _ (by simp) rfl)) ?_
  exact f1 _ (.int size) [("kind", .str kind), ("parts", .tup parts), ("depth", .int depth)] _ _ _ _ _ (by simp) rfl
theorem mk_ev {kind : Str} {parts : List D} {depth size : Int} {fs : M (List D)} {ρ : Rho} {ω ω1 : List Cell} (ha : fs ρ ω = some (.val [.str kind, .tup parts, .int depth, .int size] ω1)) (no : noOL parts = true) : (fs.bind (mkG "Process" g_mk_Process)) ρ ω = some (.val (dPr kind parts depth size) ω1) :=
  mkG_ev ha (c_mk ω1) (by simp [noOF, noO, no])
abbrev bad (f : Str) : Exc := ⟨"BadTerm", [("field", .str f)]⟩
theorem c_seats {s : Int} (ω : List Cell) (h : 1 ≤ s ∧ s ≤ 4) : g_check_seats [.int s] ω = some (.val .non ω) := by
  refine fn_nx (ρ := startE N_check_seats [.int s]) rfl ?_
  unfold b_check_seats
  rw [ifS_f (orM_f (tst_ev (bo_ev (x := .int s) (y := .int 1) (ω1 := ω) rfl rfl rfl rfl (ltD_f (by omega)))) (tst_ev (bo_ev (x := .int s) (y := .int 4) (ω1 := ω) rfl rfl rfl rfl (gtD_f (by omega)))))]
theorem c_seatsX {s : Int} (ω : List Cell) (h : ¬ (1 ≤ s ∧ s ≤ 4)) : g_check_seats [.int s] ω = some (.exc (bad "seats") ω) := by
  refine fn_ex (ρ := startE N_check_seats [.int s]) rfl ?_
  unfold b_check_seats
  by_cases h1 : s < 1
  · rw [ifS_t (orM_t (tst_ev (bo_ev (x := .int s) (y := .int 1) (ω1 := ω) rfl rfl rfl rfl (ltD_t (by omega)))))]
    rfl
  · rw [ifS_t (orM_f (tst_ev (bo_ev (x := .int s) (y := .int 1) (ω1 := ω) rfl rfl rfl rfl (ltD_f (by omega)))) (tst_ev (bo_ev (x := .int s) (y := .int 4) (ω1 := ω) rfl rfl rfl rfl (gtD_t (by omega)))))]
    rfl
theorem c_built {kind : Str} {parts : List D} {depth size : Int} (ω : List Cell) (h1 : depth ≤ 20) (h2 : size ≤ 400) (no : noOL parts = true) : g_built [.str kind, .tup parts, .int depth, .int size] ω = some (.val (dPr kind parts depth size) ω) := by
  refine fn_rt rfl ?_
  unfold b_built
  refine Eq.trans (seqS_nx (ρ' := startE N_built [.str kind, .tup parts, .int depth, .int size]) (ω' := ω) (by rw [ifS_f (tst_ev (bo_ev (x := .int depth) (y := .int 20) (ω1 := ω) rfl rfl rfl rfl (gtD_f (by omega))))])) ?_
  refine Eq.trans (seqS_nx (ρ' := startE N_built [.str kind, .tup parts, .int depth, .int size]) (ω' := ω) (by rw [ifS_f (tst_ev (bo_ev (x := .int size) (y := .int 400) (ω1 := ω) rfl rfl rfl rfl (gtD_f (by omega))))])) ?_
  exact retS_ev (mk_ev rfl no)
theorem c_builtD {kind : Str} {parts : List D} {depth size : Int} (ω : List Cell) (h1 : 20 < depth) : g_built [.str kind, .tup parts, .int depth, .int size] ω = some (.exc (bad "depth") ω) := by
  refine fn_ex (ρ := startE N_built [.str kind, .tup parts, .int depth, .int size]) rfl ?_
  unfold b_built
  refine seqS_ex ?_
  rw [ifS_t (tst_ev (bo_ev (x := .int depth) (y := .int 20) (ω1 := ω) rfl rfl rfl rfl (gtD_t (by omega))))]
  rfl
theorem c_builtS {kind : Str} {parts : List D} {depth size : Int} (ω : List Cell) (h1 : depth ≤ 20) (h2 : 400 < size) : g_built [.str kind, .tup parts, .int depth, .int size] ω = some (.exc (bad "size") ω) := by
  refine fn_ex (ρ := startE N_built [.str kind, .tup parts, .int depth, .int size]) rfl ?_
  unfold b_built
  refine Eq.trans (seqS_nx (ρ' := startE N_built [.str kind, .tup parts, .int depth, .int size]) (ω' := ω) (by rw [ifS_f (tst_ev (bo_ev (x := .int depth) (y := .int 20) (ω1 := ω) rfl rfl rfl rfl (gtD_f (by omega))))])) ?_
  refine seqS_ex ?_
  rw [ifS_t (tst_ev (bo_ev (x := .int size) (y := .int 400) (ω1 := ω) rfl rfl rfl rfl (gtD_t (by omega))))]
  rfl
theorem c_stop (ω : List Cell) : g_Process_stop [] ω = some (.val (dPr "choice" [] 1 1) ω) := by
  refine fn_rt rfl ?_
  unfold b_Process_stop
  exact retS_ev (mk_ev (cons_ev (d := .str "choice") (ω1 := ω) rfl (cons_ev (tup_ev (ds := []) (ω1 := ω) rfl (by simp)) (ds := [.int 1, .int 1]) (ω2 := ω) rfl)) rfl)
/-- new: what comes, what is refused -/
theorem new_name {nm : Str} {s : Int} {pr : D} (ω : List Cell) (hl : nm.length ≤ 1000) (h : nameB nm = false) : g_Process_new [.str nm, .int s, pr] ω = some (.exc (bad "name") ω) := by
  refine fn_ex (ρ := startE N_Process_new [.str nm, .int s, pr]) rfl ?_
  unfold b_Process_new
  refine seqS_ex ?_
  rw [ifS_t (notM_ev (b := false) (truM_ev (calM_ev (ds := [.str nm]) (ω1 := ω) rfl (by rw [c_isname ω hl, h]))))]
  rfl
theorem new_start {nm : Str} {s : Int} {pr : D} (ω : List Cell) (hl : nm.length ≤ 1000) (h : nameB nm = true) (K : MS) : seqS (ifS (notM (truM (calM g_is_name (consM (vF 0) (M.pure []))))) (raiS "BadTerm" "field" (M.pure (.str "name"))) (fun ρ ω => some (.nx ρ ω))) K (startE N_Process_new [.str nm, .int s, pr]) ω = K (startE N_Process_new [.str nm, .int s, pr]) ω :=
  seqS_nx (by rw [ifS_f (notM_ev (b := true) (truM_ev (calM_ev (ds := [.str nm]) (ω1 := ω) rfl (by rw [c_isname ω hl, h]))))])
theorem new_seats {nm : Str} {s : Int} {pr : D} (ω : List Cell) (hl : nm.length ≤ 1000) (h : nameB nm = true) (hs : ¬ (1 ≤ s ∧ s ≤ 4)) : g_Process_new [.str nm, .int s, pr] ω = some (.exc (bad "seats") ω) := by
  refine fn_ex (ρ := startE N_Process_new [.str nm, .int s, pr]) rfl ?_
  unfold b_Process_new
  rw [new_start ω hl h]
  exact seqS_ex (exprS_ex (calM_ex (ds := [.int s]) (ω1 := ω) rfl (c_seatsX ω hs)))
theorem new_args {nm kind : Str} {s depth size : Int} {parts : List D} (ω : List Cell) : (consM (M.pure (.str "new")) (consM ((consM (vF 0) (consM (vF 1) (consM (vF 2) (M.pure [])))).bind mkTup) (consM (bo addD (uo (fldD ["Process"] "depth") (vW 2)) (M.pure (.int 1))) (consM (bo addD (uo (fldD ["Process"] "size") (vW 2)) (M.pure (.int 1))) (M.pure []))))) (startE N_Process_new [.str nm, .int s, dPr kind parts depth size]) ω
    = some (.val [.str "new", .tup [.str nm, .int s, dPr kind parts depth size], .int (depth + 1), .int (size + 1)] ω) :=
  cons_ev (d := .str "new") (ω1 := ω) rfl (cons_ev (tup_ev (ds := [.str nm, .int s, dPr kind parts depth size]) (ω1 := ω) rfl (by simp)) (cons_ev (bo_ev (x := .int depth) (y := .int 1) (ω1 := ω) (fld_ev (c := "Process") rfl rfl rfl) rfl rfl rfl rfl) (cons_ev (bo_ev (x := .int size) (y := .int 1) (ω1 := ω) (fld_ev (c := "Process") rfl rfl rfl) rfl rfl rfl rfl) (ds := []) (ω2 := ω) rfl)))
theorem new_ok {nm kind : Str} {s depth size : Int} {parts : List D} (ω : List Cell) (hl : nm.length ≤ 1000) (h : nameB nm = true) (hs : 1 ≤ s ∧ s ≤ 4) (h1 : depth ≤ 19) (h2 : size ≤ 399) (no : noOL parts = true) :
    g_Process_new [.str nm, .int s, dPr kind parts depth size] ω = some (.val (dPr "new" [.str nm, .int s, dPr kind parts depth size] (depth + 1) (size + 1)) ω) := by
  refine fn_rt rfl ?_
  unfold b_Process_new
  rw [new_start ω hl h]
  refine Eq.trans (seqS_nx (exprS_ev (calM_ev (ds := [.int s]) (ω1 := ω) rfl (c_seats ω hs)))) ?_
  exact retS_ev (calM_ev (new_args ω) (c_built ω (by omega) (by omega) (by simp [noOL, noO, noOF, no])))
theorem new_depth {nm kind : Str} {s depth size : Int} {parts : List D} (ω : List Cell) (hl : nm.length ≤ 1000) (h : nameB nm = true) (hs : 1 ≤ s ∧ s ≤ 4) (h1 : 19 < depth) :
    g_Process_new [.str nm, .int s, dPr kind parts depth size] ω = some (.exc (bad "depth") ω) := by
  refine fn_ex (ρ := startE N_Process_new [.str nm, .int s, dPr kind parts depth size]) rfl ?_
  unfold b_Process_new
  rw [new_start ω hl h]
  refine Eq.trans (seqS_nx (exprS_ev (calM_ev (ds := [.int s]) (ω1 := ω) rfl (c_seats ω hs)))) ?_
  exact retS_ex (calM_ex (new_args ω) (c_builtD ω (by omega)))
end L11
namespace L11
open PySem L2 DL
/-! ### the offer -/
abbrev dSs (xs : List Str) : List D := xs.map D.str
theorem noSs (xs : List Str) : noOL (dSs xs) = true := by
  induction xs with
  | nil => rfl
  | cons x xs ih => simp [noOL, DL.noO, ih]
theorem Opd.noO (o : Opd) : DL.noO o.d = true := by cases o <;> rfl
theorem ltD_d (i j : Int) : ltD (.int i) (.int j) = some (.bl (decide (i < j))) := rfl
theorem gtD_d (i j : Int) : gtD (.int i) (.int j) = some (.bl (decide (j < i))) := rfl
theorem geD_d (i j : Int) : geD (.int i) (.int j) = some (.bl (decide (j ≤ i))) := rfl
theorem vW_fz {i : Nat} {d : D} {ρ : Rho} (ω : List Cell) (h : ρ[i]? = some (.fz d)) : vW i ρ ω = some (.val d ω) := by unfold vW; rw [h]
theorem seatsT {s : Int} {ρ : Rho} (ω : List Cell) (h : ρ[2]? = some (.fz (.int s))) : (orM (tst (bo ltD (vW 2) (M.pure (.int 1)))) (tst (bo gtD (vW 2) (M.pure (.int 4))))) ρ ω = some (.val (!decide (1 ≤ s ∧ s ≤ 4)) ω) := by
  rw [orM_ev (tst_ev (bo_ev (y := .int 1) (vW_fz ω h) rfl rfl rfl (ltD_d _ _))) (tst_ev (bo_ev (y := .int 4) (vW_fz ω h) rfl rfl rfl (gtD_d _ _)))]
  congr 2
  rw [← decide_not, ← Bool.decide_or, decide_eq_decide]
  omega
theorem seatT {s t : Int} {ρ : Rho} (ω : List Cell) (h : ρ[2]? = some (.fz (.int s))) (h1 : ρ[1]? = some (.fz (.int t))) : (orM (tst (bo ltD (vW 1) (M.pure (.int 0)))) (tst (bo geD (vW 1) (vW 2)))) ρ ω = some (.val (!decide (0 ≤ t ∧ t < s)) ω) := by
  rw [orM_ev (tst_ev (bo_ev (y := .int 0) (vW_fz ω h1) rfl rfl rfl (ltD_d _ _))) (tst_ev (bo_ev (vW_fz ω h1) (vW_fz ω h) rfl rfl (geD_d _ _)))]
  congr 2
  rw [← decide_not, ← Bool.decide_or, decide_eq_decide]
  omega
theorem c_unlike {xs : List Str} (ω : List Cell) (hs : ∀ x ∈ xs, x.length ≤ 1000) (hl : xs.length ≤ 100) : g_are_unlike_names [.tup (dSs xs)] ω = some (.val (.bl (xs.all nameB && decide xs.Nodup)) ω) := by
  refine fn_rt rfl ?_
  unfold b_are_unlike_names
  refine retS_ev (andV_ev ?_ (bo_ev (x := .int (unlike xs).length) (y := .int xs.length) (ω1 := ω) (uo_ev (x := .tup (dSs xs)) (ω1 := ω) rfl rfl (lenSet_strs (by omega))) (uo_ev (x := .tup (dSs xs)) (ω1 := ω) rfl rfl (by simp [lenD])) rfl rfl ?_))
  · unfold cm_are_unlike_names_1
    refine uo_ev (bind_ev (lcM_map (xs := xs) (ω1 := ω) D.str (fun o => .bl (nameB o)) rfl (by rw [sizeLine_eq]; omega) fun o ho => ⟨_, rfl, calM_ev (ds := [.str o]) (ω1 := ω) rfl (c_isname ω (hs o ho))⟩)) rfl ?_
    rw [show xs.map (fun o => D.bl (nameB o)) = (xs.map nameB).map D.bl by simp, allD_bls]
    simp [List.all_map, Function.comp_def]
  · rw [eqD_int]
    congr 2
    rw [decide_eq_decide, ← unlike_iff xs]
    omega
/-- what is due -/
def dueB (ch : Str) (t s : Int) (o : Opd) (xs : List Str) (d : Int) : Str :=
  if nameB ch = false then "channel" else if 1 ≤ s ∧ s ≤ 4 then (if 0 ≤ t ∧ t < s then (if o.ok = false then "operand" else if (xs.length : Int) = s - 1 ∧ xs.all nameB = true ∧ xs.Nodup then (if 19 < d then "depth" else "") else "names") else "seat") else "seats"
theorem offer_names {s : Int} {xs : List Str} {ρ : Rho} (ω : List Cell) (h2 : ρ[2]? = some (.fz (.int s))) (h6 : ρ[6]? = some (.fz (.tup (dSs xs)))) (hs : ∀ x ∈ xs, x.length ≤ 1000) (hl : xs.length ≤ 100) :
    (orM (tst (bo neD (uo lenD (vW 6)) (bo subD (vW 2) (M.pure (.int 1))))) (notM (truM (calM g_are_unlike_names (consM (vF 6) (M.pure [])))))) ρ ω = some (.val (!decide ((xs.length : Int) = s - 1 ∧ xs.all nameB = true ∧ xs.Nodup)) ω) := by
  have e1 : (bo neD (uo lenD (vW 6)) (bo subD (vW 2) (M.pure (.int 1)))) ρ ω = some (.val (.bl !(decide ((xs.length : Int) = s - 1))) ω) := bo_ev (x := .int xs.length) (y := .int (s - 1)) (ω1 := ω) (uo_ev (vW_fz ω h6) rfl (by simp [lenD])) (bo_ev (y := .int 1) (vW_fz ω h2) rfl rfl rfl (subD_int _ _)) rfl rfl (neD_int _ _)
  have e2 : (consM (vF 6) (M.pure [])) ρ ω = some (.val [.tup (dSs xs)] ω) := cons_ev (ω1 := ω) (by unfold vF; rw [h6]) (ds := []) (ω2 := ω) rfl
  rw [orM_ev (tst_ev e1) (notM_ev (truM_ev (calM_ev e2 (c_unlike ω hs hl))))]
  congr 2
  cases xs.all nameB <;> simp
theorem c_offer {ch kind : Str} {t s d : Int} {o : Opd} {xs : List Str} {gv gv' : D} {parts : List D} (ω : List Cell) (hc : ch.length ≤ 1000) (ho : o.short) (hv : view ω gv = some gv') (ht : tupleD gv' = some (.tup (dSs xs))) (hs : ∀ x ∈ xs, x.length ≤ 1000) (hl : xs.length ≤ 100) (hd : d ≤ 100) (no : noOL parts = true) :
    g_Process_offer [.str ch, .int t, .int s, o.d, gv, dPr kind parts d d] ω = if dueB ch t s o xs d = "" then some (.val (dPr "choice" [.tup [.str ch, .int t, .int s, o.d, .tup (dSs xs), dPr kind parts d d]] (d + 1) (d + 1)) ω) else some (.exc (bad (dueB ch t s o xs d)) ω) := by
  have ne : ∀ f : Str, (f == "") = false → f ≠ "" := fun f h e => by subst e; revert h; decide +kernel
  have tg : (notM (truM (calM g_is_name (consM (vF 0) (M.pure []))))) (startE N_Process_offer [.str ch, .int t, .int s, o.d, gv, dPr kind parts d d]) ω = some (.val (!nameB ch) ω) := notM_ev (truM_ev (calM_ev (ds := [.str ch]) (ω1 := ω) rfl (c_isname ω hc)))
  have to_ : (notM (truM (calM g_is_operand (consM (vF 3) (M.pure []))))) (startE N_Process_offer [.str ch, .int t, .int s, o.d, gv, dPr kind parts d d]) ω = some (.val (!o.ok) ω) := notM_ev (truM_ev (calM_ev (ds := [o.d]) (ω1 := ω) rfl (c_isop ω ho)))
  have ts := seatT (s := s) (t := t) (ρ := startE N_Process_offer [.str ch, .int t, .int s, o.d, gv, dPr kind parts d d]) ω rfl rfl
  have tn := offer_names (s := s) (xs := xs) (ρ := [.fz (.str ch), .fz (.int t), .fz (.int s), .fz o.d, .fz gv, .fz (dPr kind parts d d), .fz (.tup (dSs xs)), .no]) ω rfl rfl hs hl
  have args : (consM (M.pure (.str "choice")) (consM ((consM (vF 7) (M.pure [])).bind mkTup) (consM (bo addD (uo (fldD ["Process"] "depth") (vW 5)) (M.pure (.int 1))) (consM (bo addD (uo (fldD ["Process"] "size") (vW 5)) (M.pure (.int 1))) (M.pure []))))) [.fz (.str ch), .fz (.int t), .fz (.int s), .fz o.d, .fz gv, .fz (dPr kind parts d d), .fz (.tup (dSs xs)), .fz (.tup [.str ch, .int t, .int s, o.d, .tup (dSs xs), dPr kind parts d d])] ω
      = some (.val [.str "choice", .tup [.tup [.str ch, .int t, .int s, o.d, .tup (dSs xs), dPr kind parts d d]], .int (d + 1), .int (d + 1)] ω) :=
    cons_ev (d := .str "choice") (ω1 := ω) rfl (cons_ev (tup_ev (ds := [.tup [.str ch, .int t, .int s, o.d, .tup (dSs xs), dPr kind parts d d]]) (ω1 := ω) rfl (by simp)) (cons_ev (bo_ev (x := .int d) (y := .int 1) (ω1 := ω) (fld_ev (c := "Process") rfl rfl rfl) rfl rfl rfl rfl) (cons_ev (bo_ev (x := .int d) (y := .int 1) (ω1 := ω) (fld_ev (c := "Process") rfl rfl rfl) rfl rfl rfl rfl) (ds := []) (ω2 := ω) rfl)))
  unfold dueB
  by_cases h1 : nameB ch = false
  · rw [if_pos h1, if_neg (ne _ (by decide +kernel))]
    rw [h1] at tg
    refine fn_ex (ρ := startE N_Process_offer [.str ch, .int t, .int s, o.d, gv, dPr kind parts d d]) rfl ?_
    unfold b_Process_offer
    exact seqS_ex ((ifS_t tg).trans rfl)
  · rw [if_neg h1]
    have h1' : nameB ch = true := by simpa using h1
    rw [h1'] at tg
    by_cases h2 : 1 ≤ s ∧ s ≤ 4
    · rw [if_pos h2]
      by_cases h3 : 0 ≤ t ∧ t < s
      · rw [if_pos h3]
        rw [decide_eq_true h3] at ts
        by_cases h4 : o.ok = false
        · rw [if_pos h4, if_neg (ne _ (by decide +kernel))]
          rw [h4] at to_
          refine fn_ex (ρ := startE N_Process_offer [.str ch, .int t, .int s, o.d, gv, dPr kind parts d d]) rfl ?_
          unfold b_Process_offer
          refine Eq.trans (seqS_nx (ifS_f tg)) ?_
          refine Eq.trans (seqS_nx (exprS_ev (calM_ev (ds := [.int s]) (ω1 := ω) rfl (c_seats ω h2)))) ?_
          refine Eq.trans (seqS_nx (ifS_f ts)) ?_
          exact seqS_ex ((ifS_t to_).trans rfl)
        · rw [if_neg h4]
          have h4' : o.ok = true := by simpa using h4
          rw [h4'] at to_
          by_cases h5 : (xs.length : Int) = s - 1 ∧ xs.all nameB = true ∧ xs.Nodup
          · rw [if_pos h5]
            rw [decide_eq_true h5] at tn
            by_cases h6 : 19 < d
            · rw [if_pos h6, if_neg (ne _ (by decide +kernel))]
              refine fn_ex (ρ := [.fz (.str ch), .fz (.int t), .fz (.int s), .fz o.d, .fz gv, .fz (dPr kind parts d d), .fz (.tup (dSs xs)), .fz (.tup [.str ch, .int t, .int s, o.d, .tup (dSs xs), dPr kind parts d d])]) rfl ?_
              unfold b_Process_offer
              refine Eq.trans (seqS_nx (ifS_f tg)) ?_
              refine Eq.trans (seqS_nx (exprS_ev (calM_ev (ds := [.int s]) (ω1 := ω) rfl (c_seats ω h2)))) ?_
              refine Eq.trans (seqS_nx (ifS_f ts)) ?_
              refine Eq.trans (seqS_nx (ifS_f to_)) ?_
              refine Eq.trans (seqS_nx (setS_ev (uo_ev (x := gv) (ω1 := ω) rfl hv ht))) ?_
              refine Eq.trans (seqS_nx (ifS_f tn)) ?_
              refine Eq.trans (seqS_nx (setS_ev (tup_ev (ds := [.str ch, .int t, .int s, o.d, .tup (dSs xs), dPr kind parts d d]) (ω1 := ω) rfl (by simp)))) ?_
              exact retS_ex (calM_ex args (c_builtD ω (by omega)))
            · rw [if_neg h6, if_pos rfl]
              refine fn_rt rfl ?_
              unfold b_Process_offer
              refine Eq.trans (seqS_nx (ifS_f tg)) ?_
              refine Eq.trans (seqS_nx (exprS_ev (calM_ev (ds := [.int s]) (ω1 := ω) rfl (c_seats ω h2)))) ?_
              refine Eq.trans (seqS_nx (ifS_f ts)) ?_
              refine Eq.trans (seqS_nx (ifS_f to_)) ?_
              refine Eq.trans (seqS_nx (setS_ev (uo_ev (x := gv) (ω1 := ω) rfl hv ht))) ?_
              refine Eq.trans (seqS_nx (ifS_f tn)) ?_
              refine Eq.trans (seqS_nx (setS_ev (tup_ev (ds := [.str ch, .int t, .int s, o.d, .tup (dSs xs), dPr kind parts d d]) (ω1 := ω) rfl (by simp)))) ?_
              exact retS_ev (calM_ev args (c_built ω (by omega) (by omega) (by simp [noOL, DL.noO, noOF, no, noSs, Opd.noO])))
          · rw [if_neg h5, if_neg (ne _ (by decide +kernel))]
            rw [decide_eq_false h5] at tn
            refine fn_ex (ρ := [.fz (.str ch), .fz (.int t), .fz (.int s), .fz o.d, .fz gv, .fz (dPr kind parts d d), .fz (.tup (dSs xs)), .no]) rfl ?_
            unfold b_Process_offer
            refine Eq.trans (seqS_nx (ifS_f tg)) ?_
            refine Eq.trans (seqS_nx (exprS_ev (calM_ev (ds := [.int s]) (ω1 := ω) rfl (c_seats ω h2)))) ?_
            refine Eq.trans (seqS_nx (ifS_f ts)) ?_
            refine Eq.trans (seqS_nx (ifS_f to_)) ?_
            refine Eq.trans (seqS_nx (setS_ev (uo_ev (x := gv) (ω1 := ω) rfl hv ht))) ?_
            exact seqS_ex ((ifS_t tn).trans rfl)
      · rw [if_neg h3, if_neg (ne _ (by decide +kernel))]
        rw [decide_eq_false h3] at ts
        refine fn_ex (ρ := startE N_Process_offer [.str ch, .int t, .int s, o.d, gv, dPr kind parts d d]) rfl ?_
        unfold b_Process_offer
        refine Eq.trans (seqS_nx (ifS_f tg)) ?_
        refine Eq.trans (seqS_nx (exprS_ev (calM_ev (ds := [.int s]) (ω1 := ω) rfl (c_seats ω h2)))) ?_
        exact seqS_ex ((ifS_t ts).trans rfl)
    · rw [if_neg h2, if_neg (ne _ (by decide +kernel))]
      refine fn_ex (ρ := startE N_Process_offer [.str ch, .int t, .int s, o.d, gv, dPr kind parts d d]) rfl ?_
      unfold b_Process_offer
      refine Eq.trans (seqS_nx (ifS_f tg)) ?_
      exact seqS_ex (exprS_ex (calM_ex (ds := [.int s]) (ω1 := ω) rfl (c_seatsX ω h2)))
end L11
namespace L11
open PySem L2 DL
local macro_rules
  | `(tactic| fail "as") => `(tactic| focus first
    | (simp only [tupT, lstT, consT, nilT, nmT, view, List.length_cons, List.length_nil, Nat.reduceAdd, if_true, List.set_cons_zero, List.set_cons_succ]; exact rfl)
    | exact rfl)
local macro_rules
  | `(tactic| fail "fi") => `(tactic| focus first
    | with_reducible assumption
    | exact rfl
    | (apply fine_of; (simp only [DL.plain, plainL, Bool.and_true, Bool.true_and]; first | done | decide +kernel); (simp only [dep, depL]; first | done | decide | omega))
    | (apply fine_of; (simp [DL.plain, plainL, *]; done); (simp only [dep, depL]; first | done | decide | omega)))
local macro_rules
  | `(tactic| fail "sd") => `(tactic| focus first
    | with_reducible assumption
    | with_reducible exact And.left (by assumption)
    | omega
    | decide
    | (simp only [List.length_cons, List.length_nil, List.length_append, List.length_map, List.length_range]; omega)
    | (simp; done)
    | (simp; omega)
    | (decide +kernel))
local macro_rules
  | `(tactic| fail "vw") => `(tactic| focus first
    | with_reducible assumption
    | exact rfl)
local macro_rules
  | `(tactic| fail "bt") => `(tactic| focus first
    | with_reducible assumption
    | with_reducible rfl
    | (exact decide_eq_true (by first | with_reducible assumption | omega))
    | (exact decide_eq_false (by first | with_reducible assumption | omega))
    | (simp only [Bool.and_eq_true, Bool.or_eq_true, Bool.not_eq_true', Bool.not_eq_false', Bool.and_eq_false_iff, Bool.or_eq_false_iff, decide_eq_true_eq, decide_eq_false_iff_not, Bool.not_true, Bool.not_false]; omega)
    | exact rfl
    | (simp [*]; done)
    | (decide +kernel))
local macro_rules
  | `(tactic| fail "op") => `(tactic| focus first
    | with_reducible assumption
    | with_reducible exact addD_int _ _
    | with_reducible exact subD_int _ _
    | with_reducible exact ltD_d _ _
    | with_reducible exact gtD_d _ _
    | with_reducible exact leD_d _ _
    | with_reducible exact geD_d _ _
    | with_reducible exact eqD_int _ _
    | with_reducible exact neD_int _ _
    | with_reducible exact lenD_lstM
    | with_reducible exact lenD_tupM
    | with_reducible exact intD_int _
    | with_reducible exact intD_bl _
    | ((with_reducible apply ixD_ints); fail "sd"; fail "sd")
    | ((with_reducible apply ixD_sgn); fail "sd"; fail "sd"; fail "sd")
    | ((with_reducible apply modD_int); fail "sd")
    | ((with_reducible apply mulD_l); fail "sd"; fail "sd")
    | ((with_reducible apply mulD_r); fail "sd"; fail "sd")
    | ((with_reducible apply fdivD_r); fail "sd"; fail "sd")
    | ((with_reducible apply eqD_str); fail "sd"; fail "sd")
    | ((with_reducible apply neD_str); fail "sd"; fail "sd")
    | ((with_reducible apply fldD_ev); exact rfl; exact rfl)
    | ((with_reducible apply neD_sameR); exact rfl; fail "fi")
    | ((with_reducible apply neD_sameL); exact rfl; fail "fi")
    | ((with_reducible apply eqD_sameR); exact rfl; fail "fi")
    | ((with_reducible apply eqD_sameL); exact rfl; fail "fi")
    | ((with_reducible apply mulSD_ev); fail "sd"; fail "sd"; fail "sd"; fail "sd")
    | with_reducible exact strD_str _
    | ((with_reducible apply strD_int); fail "sd")
    | ((with_reducible apply joinD_lst); fail "sd")
    | ((with_reducible apply addD_lstL); fail "sd")
    | ((with_reducible apply addD_tup); fail "sd")
    | ((with_reducible apply addD_strL); fail "sd")
    | exact rfl)
local macro_rules
  | `(tactic| fail "cl") => `(tactic| focus with_reducible assumption)
local macro_rules
  | `(tactic| fail "ev") => `(tactic| focus first
    | with_reducible assumption
    | exact rfl)
local macro_rules
  | `(tactic| fail "ev") => `(tactic| focus first
    | with_reducible assumption
    | with_reducible exact pure_ev
    | ((with_reducible apply y_fF); exact rfl)
    | ((with_reducible apply y_fz); exact rfl)
    | ((with_reducible apply y_ow); exact rfl)
    | ((with_reducible apply bo_ev); fail "ev"; fail "ev"; fail "vw"; fail "vw"; fail "op")
    | ((with_reducible apply uo_ev); fail "ev"; fail "vw"; fail "op")
    | ((with_reducible apply tst_ev); fail "ev")
    | ((with_reducible apply truM_ev); fail "ev")
    | ((with_reducible apply y_truT); fail "ev")
    | ((with_reducible apply y_truL); fail "ev")
    | ((with_reducible apply cons_ev); fail "ev"; fail "ev")
    | ((with_reducible apply calM_ev); fail "ev"; fail "cl")
    | ((with_reducible apply y_lenOk); fail "sd")
    | ((with_reducible apply y_mkTup); fail "sd")
    | ((with_reducible apply y_mkLst); fail "sd")
    | ((with_reducible apply rng1_nat); fail "sd")
    | ((with_reducible apply rng1_int); fail "sd"; fail "sd")
    | ((with_reducible apply notM_ev); fail "ev")
    | ((with_reducible apply notV_ev); fail "ev")
    | ((with_reducible apply orM_ev); fail "ev"; fail "ev")
    | ((with_reducible apply andM_ev); fail "ev"; fail "ev")
    | ((with_reducible apply orV_ev); fail "ev"; fail "ev")
    | ((with_reducible apply andV_ev); fail "ev"; fail "ev")
    | ((with_reducible apply y_orT); fail "ev"; fail "bt")
    | ((with_reducible apply y_orF); fail "ev"; fail "bt"; fail "ev")
    | ((with_reducible apply y_andF); fail "ev"; fail "bt")
    | ((with_reducible apply y_andT); fail "ev"; fail "bt"; fail "ev")
    | ((with_reducible apply y_orVT); fail "ev"; fail "bt")
    | ((with_reducible apply y_orVF); fail "ev"; fail "bt"; fail "ev")
    | ((with_reducible apply y_andVF); fail "ev"; fail "bt")
    | ((with_reducible apply y_andVT); fail "ev"; fail "bt"; fail "ev")
    | ((with_reducible apply y_ifT); fail "ev"; fail "bt"; fail "ev")
    | ((with_reducible apply y_ifF); fail "ev"; fail "bt"; fail "ev")
    | with_reducible exact asI_ev
    | with_reducible exact items_lst
    | with_reducible exact items_tup
    | ((with_reducible apply sl_lst_to); fail "sd")
    | ((with_reducible apply sl_lst_from); fail "sd")
    | ((with_reducible apply sl_tup_to); fail "sd")
    | ((with_reducible apply sl_tup_from); fail "sd")
    | ((with_reducible apply sl_lst_two); fail "sd"; fail "sd")
    | ((with_reducible apply binO_oo); fail "ev"; fail "ev"; fail "cl")
    | ((with_reducible apply cmpO_oo); fail "ev"; fail "ev"; fail "cl")
    | ((with_reducible apply cmpN_oo); fail "ev"; fail "ev"; fail "cl")
    | ((with_reducible apply methM_o); fail "ev"; exact rfl; fail "ev"; fail "cl")
    | ((with_reducible apply methM_ev); fail "ev"; fail "vw"; exact rfl; exact rfl; fail "ev"; fail "cl")
    | ((with_reducible apply y_bind); fail "ev"; fail "ev"))
local macro_rules
  | `(tactic| fail "rs") => `(tactic| focus (first | (simp only [List.set_cons_zero, List.set_cons_succ]; done) | (simp only [List.set_cons_zero, List.set_cons_succ]; exact rfl) | exact rfl))
local macro_rules
  | `(tactic| fail "st") => `(tactic| first
    | (with_reducible apply z_asc)
    | (with_reducible apply z_skp)
    | ((with_reducible apply z_frzOS); exact rfl; fail "rs")
    | ((with_reducible apply z_frzFS); exact rfl)
    | ((with_reducible apply z_frzO); exact rfl; fail "rs")
    | ((with_reducible apply z_frzF); exact rfl)
    | ((with_reducible apply z_set); fail "ev"; fail "rs")
    | ((with_reducible apply z_setO); fail "ev"; fail "rs")
    | ((with_reducible apply z_app); exact rfl; fail "ev"; fail "sd"; fail "rs")
    | ((with_reducible apply z_ext); exact rfl; fail "ev"; fail "vw"; fail "sd"; fail "rs")
    | ((with_reducible apply z_asg); fail "ev"; fail "as")
    | ((with_reducible apply z_exp); fail "ev")
    | ((with_reducible apply z_ret); fail "ev"; first | exact rfl | skip)
    | ((with_reducible apply z_retR); fail "ev"; first | exact rfl | skip)
    | ((with_reducible apply z_rai); fail "ev"; exact rfl)
    | ((with_reducible apply z_raiR); fail "ev"; exact rfl)
    | ((with_reducible apply z_if); fail "ev"; first | ((with_reducible apply z_ct); fail "bt") | ((with_reducible apply z_cf); fail "bt") | skip)
    | ((with_reducible apply z_ifR); fail "ev"; first | ((with_reducible apply z_ctR); fail "bt") | ((with_reducible apply z_cfR); fail "bt") | skip)
    | ((with_reducible apply z_ct); fail "bt")
    | ((with_reducible apply z_cf); fail "bt")
    | ((with_reducible apply z_ctR); fail "bt")
    | ((with_reducible apply z_cfR); fail "bt")
    | ((with_reducible apply z_for); fail "ev"; first | with_reducible assumption | assumption)
    | ((with_reducible apply e_for); fail "ev"; first | with_reducible assumption | assumption)
    | ((with_reducible apply e_set); fail "ev"; fail "rs")
    | ((with_reducible apply e_setO); fail "ev"; fail "rs")
    | ((with_reducible apply e_app); exact rfl; fail "ev"; fail "sd"; fail "rs")
    | ((with_reducible apply e_ext); exact rfl; fail "ev"; fail "vw"; fail "sd"; fail "rs")
    | ((with_reducible apply exprS_ev); fail "ev")
    | ((with_reducible apply asgS_ev); fail "ev"; fail "as")
    | ((with_reducible apply z_end); first | with_reducible exact rfl | exact rfl))
local macro_rules
  | `(tactic| fail "run") => `(tactic| (fail "st"; repeat fail "st"))
local macro_rules
  | `(tactic| fail "ex") => `(tactic| repeat (with_reducible apply Exists.intro))
local macro_rules
  | `(tactic| fail "se") => `(tactic| simp only [startE, List.map_cons, List.map_nil, List.length_cons, List.length_nil, Nat.reduceAdd, Nat.reduceSub, Nat.sub_self, List.replicate_succ, List.replicate_zero, List.cons_append, List.nil_append, List.append_nil])
local macro_rules
  | `(tactic| fail "ev") => `(tactic| focus first
    | ((with_reducible apply inO_at); fail "ev"; fail "ev"; fail "vw"; exact rfl; fail "cl"; exact rfl)
    | ((with_reducible apply lenO_at); fail "ev"; fail "vw"; exact rfl; fail "cl"; fail "sd"; fail "sd")
    | ((with_reducible apply ixO_at); fail "ev"; fail "ev"; fail "vw"; exact rfl; fail "cl")
    | ((with_reducible apply newS_at); fail "ev")
    | ((with_reducible apply sortL_at); fail "ev"; fail "vw"; fail "sd")
    | ((with_reducible apply listK_at); fail "ev"; fail "vw"))
/-! ### a definition -/
abbrev dDef (ps : List Str) (b : D) : D := .obj "Definition" [("params", .tup (dSs ps)), ("body", b)]
theorem c_mkdef {ps : List Str} {b v v' : D} (ω : List Cell) (hv : view (ω ++ [.obj "Definition" []]) v = some v') (ht : tupleD v' = some (.tup (dSs ps))) (hs : ∀ x ∈ ps, x.length ≤ 1000) (hl : ps.length ≤ 4) (hn : (ps.all nameB && decide ps.Nodup) = true) :
    g_mk_Definition [.oid ω.length, v, b] (ω ++ [.obj "Definition" []]) = some (.val .non (ω ++ [.obj "Definition" [("params", .tup (dSs ps)), ("body", b)]])) := by
  have f1 : ∀ (f : Str) (d : D) (fl : List (Str × D)) (fv : M D) (r1 r2 r3 : Sl), fl.length < 1000 → fv [.fz (.oid ω.length), r1, r2, r3] (ω ++ [.obj "Definition" fl]) = some (.val d (ω ++ [.obj "Definition" fl])) →
      fldS ["Definition"] f (vF 0) fv [.fz (.oid ω.length), r1, r2, r3] (ω ++ [.obj "Definition" fl]) = some (.nx [.fz (.oid ω.length), r1, r2, r3] (ω ++ [.obj "Definition" (putD f d fl)])) := by
    intro f d fl fv r1 r2 r3 hl h
    unfold fldS
    rw [bindS_ev h, bindS_ev (a := .oid ω.length) (ω1 := ω ++ [.obj "Definition" fl]) rfl]
    simp only [last_cell]
    rw [if_pos ⟨rfl, hl⟩, set_last]
  have hu := c_unlike (xs := ps) (ω ++ [.obj "Definition" []]) hs (by omega)
  rw [hn] at hu
  refine fn_nx (ρ := [.fz (.oid ω.length), .fz v, .fz b, .fz (.tup (dSs ps))]) rfl ?_
  unfold b_Definition___init__
  refine Eq.trans (seqS_nx (ρ' := [.fz (.oid ω.length), .fz v, .fz b, .fz (.tup (dSs ps))]) (ω' := ω ++ [.obj "Definition" []]) (setS_ev (uo_ev (x := v) (ω1 := ω ++ [.obj "Definition" []]) rfl hv ht))) ?_
  refine Eq.trans (seqS_nx (ρ' := [.fz (.oid ω.length), .fz v, .fz b, .fz (.tup (dSs ps))]) (ω' := ω ++ [.obj "Definition" []]) ?_) ?_
  · rw [ifS_f (ω' := ω ++ [.obj "Definition" []]) (orM_f (tst_ev (bo_ev (x := .int ps.length) (y := .int 4) (ω1 := ω ++ [.obj "Definition" []]) (uo_ev (x := .tup (dSs ps)) (ω1 := ω ++ [.obj "Definition" []]) rfl rfl (by simp [lenD])) rfl rfl rfl (gtD_f (by omega)))) (notM_ev (b := true) (truM_ev (calM_ev (ds := [.tup (dSs ps)]) (ω1 := ω ++ [.obj "Definition" []]) rfl hu))))]
  refine Eq.trans (seqS_nx (f1 _ (.tup (dSs ps)) [] _ _ _ _ (by decide) rfl)) ?_
  exact f1 _ b [("params", .tup (dSs ps))] _ _ _ _ (by simp) rfl
theorem mkdef_ev {ps : List Str} {b v v' : D} {fs : M (List D)} {ρ : Rho} {ω ω1 : List Cell} (ha : fs ρ ω = some (.val [v, b] ω1)) (hv : view (ω1 ++ [.obj "Definition" []]) v = some v') (ht : tupleD v' = some (.tup (dSs ps))) (hs : ∀ x ∈ ps, x.length ≤ 1000) (hl : ps.length ≤ 4) (hn : (ps.all nameB && decide ps.Nodup) = true) (no : noO b = true) :
    (fs.bind (mkG "Definition" g_mk_Definition)) ρ ω = some (.val (dDef ps b) ω1) := mkG_ev ha (c_mkdef ω1 hv ht hs hl hn) (by simp [noOF, noO, noSs, no])
/-! ### steps on things of the store -/
theorem fldS_at {cs : List Str} {c f : Str} {k : Nat} {d : D} {fs : List (Str × D)} {fo fv : M D} {ρ : Rho} {ω ω1 ω2 : List Cell} (hv : fv ρ ω = some (.val d ω1)) (ho : fo ρ ω1 = some (.val (.oid k) ω2)) (hk : ω2[k]? = some (.obj c fs)) (hc : cs.contains c = true) (hl : fs.length < 1000) : fldS cs f fo fv ρ ω = some (.nx ρ (ω2.set k (.obj c (putD f d fs)))) := by
  unfold fldS
  rw [bindS_ev hv, bindS_ev ho]
  simp only [hk]
  rw [if_pos ⟨hc, hl⟩]
theorem lockS_at {f : M D} {F : MS} {k : Nat} {kvs kvs' : List (Key × D)} {ρ ρ' : Rho} {ω ω' ω1 : List Cell} (hf : f ρ ω = some (.val (.oid k) ω')) (hk : ω[k]? = some (.dic kvs)) (hF : F ρ (ω.set k (.ldc kvs)) = some (.nx ρ' ω1)) (hk1 : ω1[k]? = some (.ldc kvs')) : lockS f F ρ ω = some (.nx ρ' (ω1.set k (.dic kvs'))) := by
  unfold lockS
  simp only [hf, hk, hF, unlk, hk1]
theorem putKD_new {kvs : List (Key × D)} {k : Key} {v : D} (h : k ∉ kvs.map (·.1)) : putKD kvs k v = kvs ++ [(k, v)] := by
  unfold putKD
  rw [if_neg]
  intro z
  obtain ⟨p, hp, e⟩ := List.any_eq_true.mp z
  exact h (by rw [← of_decide_eq_true e]; exact List.mem_map_of_mem hp)
theorem dcM_at {α : Type} {vs : List Nat} {src : M (List D)} {T : TT1} {fk fv : M D} {ρ : Rho} {ω ω1 : List Cell} (xs : List α) (enc : α → D) (key : α → Key) (val : α → D) (hsrc : src ρ ω = some (.val (xs.map enc) ω1)) (hz : xs.length < 1000) (nd : (xs.map key).Nodup)
    (hs : ∀ x ∈ xs, ∃ ρ2 dk, T (enc x) (wipeE ρ vs) ω1 = some ρ2 ∧ fk ρ2 ω1 = some (.val dk ω1) ∧ keyD dk = some (key x) ∧ fv ρ2 ω1 = some (.val (val x) ω1)) :
    dcM vs src T (M.pure true) fk fv ρ ω = some (.val (.oid ω1.length) (ω1 ++ [Cell.dic (xs.map fun x => (key x, val x))])) := by
  have go : ∀ (ys zs : List α), xs = zs ++ ys → dcGo vs T (M.pure true) fk fv ρ (ys.map enc) (zs.map fun x => (key x, val x)) ω1 = some (xs.map (fun x => (key x, val x)), ω1) := by
    intro ys
    induction ys with
    | nil => intro zs e; rw [e, List.append_nil]; rfl
    | cons y ys ih =>
      intro zs e
      obtain ⟨ρ2, dk, h1, h2, h3, h4⟩ := hs y (by rw [e]; simp)
      have hl : (zs.map fun x => (key x, val x)).length < 1000 := by
        rw [List.length_map]
        have := congrArg List.length e
        simp at this; omega
      have hn : key y ∉ (zs.map fun x => (key x, val x)).map (·.1) := by
        rw [List.map_map]
        intro z
        rw [e, List.map_append, List.map_cons] at nd
        have := (List.nodup_append.mp nd).2.2
        obtain ⟨q, hq, eq⟩ := List.mem_map.mp z
        exact this (key q) (List.mem_map_of_mem hq) (key y) (by simp) eq
      rw [List.map_cons]
      unfold dcGo
      simp only [h1, M.pure, h2, h4, h3]
      rw [if_pos hl, putKD_new hn]
      have := ih (zs ++ [y]) (by rw [e, List.append_assoc]; rfl)
      rw [List.map_append] at this
      exact this
  unfold dcM
  rw [bind_ev hsrc]
  have := go xs [] rfl
  rw [List.map_nil] at this
  simp only [this]
theorem set_set_back {ω : List Cell} {q : Nat} {c d : Cell} (h : ω[q]? = some c) : (ω.set q d).set q c = ω := by
  rw [List.set_set]
  obtain ⟨hl, e⟩ := List.getElem?_eq_some_iff.mp h
  rw [← e]
  exact List.set_getElem_self hl
/-! ### books (reading and putting alone) -/
abbrev bookC (q : Nat) : Cell := Cell.obj "Book" [("rows", .oid q)]
theorem view_book {ω : List Cell} {b q : Nat} (hb : ω[b]? = some (bookC q)) : view ω (.oid b) = some (.obj "Book" [("rows", .oid q)]) := by simp only [view, hb]
theorem view_dic {ω : List Cell} {q : Nat} {kvs : List (Key × D)} (hq : ω[q]? = some (Cell.dic kvs)) : view ω (.oid q) = some (.dic kvs) := by simp only [view, hq]
theorem view_ldc {ω : List Cell} {q : Nat} {kvs : List (Key × D)} (hq : ω[q]? = some (Cell.ldc kvs)) : view ω (.oid q) = some (.dic kvs) := by simp only [view, hq]
theorem view_lst {ω : List Cell} {q : Nat} {ds : List D} (hq : ω[q]? = some (Cell.lst ds)) : view ω (.oid q) = some (.lst ds) := by simp only [view, hq]
section
variable {ω : List Cell} {b q : Nat} {kvs : List (Key × D)} {n : Str} {d : D}
theorem rows_ev {i : Nat} {ρ : Rho} (hi : ρ[i]? = some (.fz (.oid b))) (hb : ω[b]? = some (bookC q)) : (uo (fldD ["Book", "Net"] "rows") (vW i)) ρ ω = some (.val (.oid q) ω) := uo_ev (y_fz hi) (view_book hb) (fldD_ev rfl rfl)
theorem c_bget (hb : ω[b]? = some (bookC q)) (hq : view ω (.oid q) = some (.dic kvs)) (h : valD kvs (.inr n) = some d) : g_Book___getitem__ [.oid b, .str n] ω = some (.val d ω) := by
  refine fn_rt rfl ?_
  unfold b_Book___getitem__
  have e : ninK (.str n) (.dic kvs) = some (.bl false) := by show some (D.bl _) = _; rw [h]; rfl
  refine Eq.trans (seqS_nx (ω' := ω) (by rw [ifS_f (ω' := ω) (tst_ev (bo_ev (x := .str n) (ω1 := ω) rfl (rows_ev rfl hb) rfl hq e))])) ?_
  exact retS_ev (bo_ev (x := .oid q) (y := .str n) (ω1 := ω) (rows_ev rfl hb) rfl hq rfl h)
theorem c_bgetX (hb : ω[b]? = some (bookC q)) (hq : view ω (.oid q) = some (.dic kvs)) (h : valD kvs (.inr n) = none) : g_Book___getitem__ [.oid b, .str n] ω = some (.exc ⟨"NoName", [("name", .str n)]⟩ ω) := by
  refine fn_ex (ρ := startE N_Book___getitem__ [.oid b, .str n]) rfl ?_
  unfold b_Book___getitem__
  have e : ninK (.str n) (.dic kvs) = some (.bl true) := by show some (D.bl _) = _; rw [h]; rfl
  refine seqS_ex ?_
  rw [ifS_t (ω' := ω) (tst_ev (bo_ev (x := .str n) (ω1 := ω) rfl (rows_ev rfl hb) rfl hq e))]
  rfl
theorem c_bsetN (hl : n.length ≤ 1000) (h : nameB n = false) : g_Book___setitem__ [.oid b, .str n, d] ω = some (.exc (bad "name") ω) := by
  refine fn_ex (ρ := startE N_Book___setitem__ [.oid b, .str n, d]) rfl ?_
  unfold b_Book___setitem__
  refine seqS_ex ?_
  rw [ifS_t (notM_ev (b := false) (truM_ev (calM_ev (ds := [.str n]) (ω1 := ω) rfl (by rw [c_isname ω hl, h]))))]
  rfl
theorem bset_start (hl : n.length ≤ 1000) (h : nameB n = true) (K : MS) : seqS (ifS (notM (truM (calM g_is_name (consM (vF 1) (M.pure []))))) (raiS "BadTerm" "field" (M.pure (.str "name"))) (fun ρ ω => some (.nx ρ ω))) K (startE N_Book___setitem__ [.oid b, .str n, d]) ω = K (startE N_Book___setitem__ [.oid b, .str n, d]) ω :=
  seqS_nx (by rw [ifS_f (notM_ev (b := true) (truM_ev (calM_ev (ds := [.str n]) (ω1 := ω) rfl (by rw [c_isname ω hl, h]))))])
theorem bset_test (hb : ω[b]? = some (bookC q)) (hq : ω[q]? = some (Cell.dic kvs)) : (andM (tst (bo ninK (vW 1) (uo (fldD ["Book", "Net"] "rows") (vW 0)))) (tst (bo geD (uo lenK (uo (fldD ["Book", "Net"] "rows") (vW 0))) (M.pure (.int 12))))) (startE N_Book___setitem__ [.oid b, .str n, d]) ω = some (.val (!(valD kvs (.inr n)).isSome && decide (12 ≤ (kvs.length : Int))) ω) :=
  andM_ev (tst_ev (bo_ev (x := .str n) (ω1 := ω) rfl (rows_ev rfl hb) rfl (view_dic hq) rfl)) (tst_ev (bo_ev (x := .int kvs.length) (y := .int 12) (ω1 := ω) (uo_ev (rows_ev rfl hb) (view_dic hq) rfl) rfl rfl rfl (geD_d _ _)))
theorem c_bsetD (hb : ω[b]? = some (bookC q)) (hq : ω[q]? = some (Cell.dic kvs)) (hl : n.length ≤ 1000) (h : nameB n = true) (h1 : valD kvs (.inr n) = none) (h2 : 12 ≤ kvs.length) : g_Book___setitem__ [.oid b, .str n, d] ω = some (.exc (bad "definitions") ω) := by
  refine fn_ex (ρ := startE N_Book___setitem__ [.oid b, .str n, d]) rfl ?_
  unfold b_Book___setitem__
  refine Eq.trans (bset_start hl h _) ?_
  refine seqS_ex ?_
  have t := bset_test (n := n) (d := d) hb hq
  rw [h1, decide_eq_true (show 12 ≤ (kvs.length : Int) by omega)] at t
  rw [ifS_t t]
  rfl
theorem c_bset (hb : ω[b]? = some (bookC q)) (hq : ω[q]? = some (Cell.dic kvs)) (hl : n.length ≤ 1000) (h : nameB n = true) (h1 : (valD kvs (.inr n)).isSome = true ∨ kvs.length < 12) (h2 : kvs.length < 1000) : g_Book___setitem__ [.oid b, .str n, d] ω = some (.val .non (ω.set q (.dic (putKD kvs (.inr n) d)))) := by
  refine fn_nx (ρ := startE N_Book___setitem__ [.oid b, .str n, d]) rfl ?_
  unfold b_Book___setitem__
  refine Eq.trans (bset_start hl h _) ?_
  have t := bset_test (n := n) (d := d) hb hq
  have e : (!(valD kvs (.inr n)).isSome && decide (12 ≤ (kvs.length : Int))) = false := by
    rcases h1 with h1 | h1
    · rw [h1]; rfl
    · rw [decide_eq_false (show ¬ 12 ≤ (kvs.length : Int) by omega), Bool.and_false]
  rw [e] at t
  refine Eq.trans (seqS_nx (ω' := ω) (by rw [ifS_f t])) ?_
  exact dputS_at (key := .inr n) (ω1 := ω) (d := d) rfl (rows_ev rfl hb) (i := .str n) (ω3 := ω) rfl rfl hq h2
end
end L11
namespace L11
open PySem L2 DL
local macro_rules
  | `(tactic| fail "as") => `(tactic| focus first
    | (simp only [tupT, lstT, consT, nilT, nmT, view, List.length_cons, List.length_nil, Nat.reduceAdd, if_true, List.set_cons_zero, List.set_cons_succ]; exact rfl)
    | exact rfl)
local macro_rules
  | `(tactic| fail "fi") => `(tactic| focus first
    | with_reducible assumption
    | exact rfl
    | (apply fine_of; (simp only [DL.plain, plainL, Bool.and_true, Bool.true_and]; first | done | decide +kernel); (simp only [dep, depL]; first | done | decide | omega))
    | (apply fine_of; (simp [DL.plain, plainL, *]; done); (simp only [dep, depL]; first | done | decide | omega)))
local macro_rules
  | `(tactic| fail "sd") => `(tactic| focus first
    | with_reducible assumption
    | with_reducible exact And.left (by assumption)
    | omega
    | decide
    | (simp only [List.length_cons, List.length_nil, List.length_append, List.length_map, List.length_range]; omega)
    | (simp; done)
    | (simp; omega)
    | (decide +kernel))
local macro_rules
  | `(tactic| fail "vw") => `(tactic| focus first
    | with_reducible assumption
    | exact rfl)
local macro_rules
  | `(tactic| fail "bt") => `(tactic| focus first
    | with_reducible assumption
    | with_reducible rfl
    | (exact decide_eq_true (by first | with_reducible assumption | omega))
    | (exact decide_eq_false (by first | with_reducible assumption | omega))
    | (simp only [Bool.and_eq_true, Bool.or_eq_true, Bool.not_eq_true', Bool.not_eq_false', Bool.and_eq_false_iff, Bool.or_eq_false_iff, decide_eq_true_eq, decide_eq_false_iff_not, Bool.not_true, Bool.not_false]; omega)
    | exact rfl
    | (simp [*]; done)
    | (decide +kernel))
local macro_rules
  | `(tactic| fail "op") => `(tactic| focus first
    | with_reducible assumption
    | with_reducible exact addD_int _ _
    | with_reducible exact subD_int _ _
    | with_reducible exact ltD_d _ _
    | with_reducible exact gtD_d _ _
    | with_reducible exact leD_d _ _
    | with_reducible exact geD_d _ _
    | with_reducible exact eqD_int _ _
    | with_reducible exact neD_int _ _
    | with_reducible exact lenD_lstM
    | with_reducible exact lenD_tupM
    | with_reducible exact intD_int _
    | with_reducible exact intD_bl _
    | ((with_reducible apply ixD_ints); fail "sd"; fail "sd")
    | ((with_reducible apply ixD_sgn); fail "sd"; fail "sd"; fail "sd")
    | ((with_reducible apply modD_int); fail "sd")
    | ((with_reducible apply mulD_l); fail "sd"; fail "sd")
    | ((with_reducible apply mulD_r); fail "sd"; fail "sd")
    | ((with_reducible apply fdivD_r); fail "sd"; fail "sd")
    | ((with_reducible apply eqD_str); fail "sd"; fail "sd")
    | ((with_reducible apply neD_str); fail "sd"; fail "sd")
    | ((with_reducible apply fldD_ev); exact rfl; exact rfl)
    | ((with_reducible apply neD_sameR); exact rfl; fail "fi")
    | ((with_reducible apply neD_sameL); exact rfl; fail "fi")
    | ((with_reducible apply eqD_sameR); exact rfl; fail "fi")
    | ((with_reducible apply eqD_sameL); exact rfl; fail "fi")
    | ((with_reducible apply mulSD_ev); fail "sd"; fail "sd"; fail "sd"; fail "sd")
    | with_reducible exact strD_str _
    | ((with_reducible apply strD_int); fail "sd")
    | ((with_reducible apply joinD_lst); fail "sd")
    | ((with_reducible apply addD_lstL); fail "sd")
    | ((with_reducible apply addD_tup); fail "sd")
    | ((with_reducible apply addD_strL); fail "sd")
    | exact rfl)
local macro_rules
  | `(tactic| fail "cl") => `(tactic| focus with_reducible assumption)
local macro_rules
  | `(tactic| fail "ev") => `(tactic| focus first
    | with_reducible assumption
    | exact rfl)
local macro_rules
  | `(tactic| fail "ev") => `(tactic| focus first
    | with_reducible assumption
    | with_reducible exact pure_ev
    | ((with_reducible apply y_fF); exact rfl)
    | ((with_reducible apply y_fz); exact rfl)
    | ((with_reducible apply y_ow); exact rfl)
    | ((with_reducible apply bo_ev); fail "ev"; fail "ev"; fail "vw"; fail "vw"; fail "op")
    | ((with_reducible apply uo_ev); fail "ev"; fail "vw"; fail "op")
    | ((with_reducible apply tst_ev); fail "ev")
    | ((with_reducible apply truM_ev); fail "ev")
    | ((with_reducible apply y_truT); fail "ev")
    | ((with_reducible apply y_truL); fail "ev")
    | ((with_reducible apply cons_ev); fail "ev"; fail "ev")
    | ((with_reducible apply calM_ev); fail "ev"; fail "cl")
    | ((with_reducible apply y_lenOk); fail "sd")
    | ((with_reducible apply y_mkTup); fail "sd")
    | ((with_reducible apply y_mkLst); fail "sd")
    | ((with_reducible apply rng1_nat); fail "sd")
    | ((with_reducible apply rng1_int); fail "sd"; fail "sd")
    | ((with_reducible apply notM_ev); fail "ev")
    | ((with_reducible apply notV_ev); fail "ev")
    | ((with_reducible apply orM_ev); fail "ev"; fail "ev")
    | ((with_reducible apply andM_ev); fail "ev"; fail "ev")
    | ((with_reducible apply orV_ev); fail "ev"; fail "ev")
    | ((with_reducible apply andV_ev); fail "ev"; fail "ev")
    | ((with_reducible apply y_orT); fail "ev"; fail "bt")
    | ((with_reducible apply y_orF); fail "ev"; fail "bt"; fail "ev")
    | ((with_reducible apply y_andF); fail "ev"; fail "bt")
    | ((with_reducible apply y_andT); fail "ev"; fail "bt"; fail "ev")
    | ((with_reducible apply y_orVT); fail "ev"; fail "bt")
    | ((with_reducible apply y_orVF); fail "ev"; fail "bt"; fail "ev")
    | ((with_reducible apply y_andVF); fail "ev"; fail "bt")
    | ((with_reducible apply y_andVT); fail "ev"; fail "bt"; fail "ev")
    | ((with_reducible apply y_ifT); fail "ev"; fail "bt"; fail "ev")
    | ((with_reducible apply y_ifF); fail "ev"; fail "bt"; fail "ev")
    | with_reducible exact asI_ev
    | with_reducible exact items_lst
    | with_reducible exact items_tup
    | ((with_reducible apply sl_lst_to); fail "sd")
    | ((with_reducible apply sl_lst_from); fail "sd")
    | ((with_reducible apply sl_tup_to); fail "sd")
    | ((with_reducible apply sl_tup_from); fail "sd")
    | ((with_reducible apply sl_lst_two); fail "sd"; fail "sd")
    | ((with_reducible apply binO_oo); fail "ev"; fail "ev"; fail "cl")
    | ((with_reducible apply cmpO_oo); fail "ev"; fail "ev"; fail "cl")
    | ((with_reducible apply cmpN_oo); fail "ev"; fail "ev"; fail "cl")
    | ((with_reducible apply methM_o); fail "ev"; exact rfl; fail "ev"; fail "cl")
    | ((with_reducible apply methM_ev); fail "ev"; fail "vw"; exact rfl; exact rfl; fail "ev"; fail "cl")
    | ((with_reducible apply y_bind); fail "ev"; fail "ev"))
local macro_rules
  | `(tactic| fail "rs") => `(tactic| focus (first | (simp only [List.set_cons_zero, List.set_cons_succ]; done) | (simp only [List.set_cons_zero, List.set_cons_succ]; exact rfl) | exact rfl))
local macro_rules
  | `(tactic| fail "st") => `(tactic| first
    | (with_reducible apply z_asc)
    | (with_reducible apply z_skp)
    | ((with_reducible apply z_frzOS); exact rfl; fail "rs")
    | ((with_reducible apply z_frzFS); exact rfl)
    | ((with_reducible apply z_frzO); exact rfl; fail "rs")
    | ((with_reducible apply z_frzF); exact rfl)
    | ((with_reducible apply z_set); fail "ev"; fail "rs")
    | ((with_reducible apply z_setO); fail "ev"; fail "rs")
    | ((with_reducible apply z_app); exact rfl; fail "ev"; fail "sd"; fail "rs")
    | ((with_reducible apply z_ext); exact rfl; fail "ev"; fail "vw"; fail "sd"; fail "rs")
    | ((with_reducible apply z_asg); fail "ev"; fail "as")
    | ((with_reducible apply z_exp); fail "ev")
    | ((with_reducible apply z_ret); fail "ev"; first | exact rfl | skip)
    | ((with_reducible apply z_retR); fail "ev"; first | exact rfl | skip)
    | ((with_reducible apply z_rai); fail "ev"; exact rfl)
    | ((with_reducible apply z_raiR); fail "ev"; exact rfl)
    | ((with_reducible apply z_if); fail "ev"; first | ((with_reducible apply z_ct); fail "bt") | ((with_reducible apply z_cf); fail "bt") | skip)
    | ((with_reducible apply z_ifR); fail "ev"; first | ((with_reducible apply z_ctR); fail "bt") | ((with_reducible apply z_cfR); fail "bt") | skip)
    | ((with_reducible apply z_ct); fail "bt")
    | ((with_reducible apply z_cf); fail "bt")
    | ((with_reducible apply z_ctR); fail "bt")
    | ((with_reducible apply z_cfR); fail "bt")
    | ((with_reducible apply z_for); fail "ev"; first | with_reducible assumption | assumption)
    | ((with_reducible apply e_for); fail "ev"; first | with_reducible assumption | assumption)
    | ((with_reducible apply e_set); fail "ev"; fail "rs")
    | ((with_reducible apply e_setO); fail "ev"; fail "rs")
    | ((with_reducible apply e_app); exact rfl; fail "ev"; fail "sd"; fail "rs")
    | ((with_reducible apply e_ext); exact rfl; fail "ev"; fail "vw"; fail "sd"; fail "rs")
    | ((with_reducible apply exprS_ev); fail "ev")
    | ((with_reducible apply asgS_ev); fail "ev"; fail "as")
    | ((with_reducible apply z_end); first | with_reducible exact rfl | exact rfl))
local macro_rules
  | `(tactic| fail "run") => `(tactic| (fail "st"; repeat fail "st"))
local macro_rules
  | `(tactic| fail "ex") => `(tactic| repeat (with_reducible apply Exists.intro))
local macro_rules
  | `(tactic| fail "se") => `(tactic| simp only [startE, List.map_cons, List.map_nil, List.length_cons, List.length_nil, Nat.reduceAdd, Nat.reduceSub, Nat.sub_self, List.replicate_succ, List.replicate_zero, List.cons_append, List.nil_append, List.append_nil])
local macro_rules
  | `(tactic| fail "ev") => `(tactic| focus first
    | ((with_reducible apply inO_at); fail "ev"; fail "ev"; fail "vw"; exact rfl; fail "cl"; exact rfl)
    | ((with_reducible apply lenO_at); fail "ev"; fail "vw"; exact rfl; fail "cl"; fail "sd"; fail "sd")
    | ((with_reducible apply ixO_at); fail "ev"; fail "ev"; fail "vw"; exact rfl; fail "cl")
    | ((with_reducible apply newS_at); fail "ev")
    | ((with_reducible apply sortL_at); fail "ev"; fail "vw"; fail "sd")
    | ((with_reducible apply listK_at); fail "ev"; fail "vw"))
/-! ### nets -/
abbrev netD (ps : List D) : D := .obj "Net" [("rows", .lst ps)]
theorem c_mkNet {ps : List D} {v : D} (ω : List Cell) (hv : view (ω ++ [.obj "Net" []]) v = some (.lst ps)) (hl : ps.length ≤ 6) : g_mk_Net [.oid ω.length, v] (ω ++ [.obj "Net" []]) = some (.val .non (ω ++ [.obj "Net" [("rows", .lst ps)]])) := by
  refine fn_nx (ρ := [.fz (.oid ω.length), .fz v]) rfl ?_
  unfold b_Net___init__
  refine Eq.trans (seqS_nx (ρ' := [.fz (.oid ω.length), .fz v]) (ω' := ω ++ [.obj "Net" []]) ?_) ?_
  · rw [ifS_f (ω' := ω ++ [.obj "Net" []]) (tst_ev (bo_ev (x := .int ps.length) (y := .int 6) (ω1 := ω ++ [.obj "Net" []]) (uo_ev (x := v) (ω1 := ω ++ [.obj "Net" []]) rfl hv lenD_lst) rfl rfl rfl (gtD_f (by omega))))]
    rfl
  refine Eq.trans (fldS_at (k := ω.length) (c := "Net") (fs := []) (d := .lst ps) (ω1 := ω ++ [.obj "Net" []]) (ω2 := ω ++ [.obj "Net" []]) (uo_ev (x := v) (ω1 := ω ++ [.obj "Net" []]) rfl hv (show listD (.lst ps) = some (.lst ps) from rfl)) rfl (last_cell _ _) rfl (by decide)) ?_
  rw [set_last]
  rfl
theorem mkNet_ev {ps : List D} {v : D} {fs : M (List D)} {ρ : Rho} {ω ω1 : List Cell} (ha : fs ρ ω = some (.val [v] ω1)) (hv : view (ω1 ++ [.obj "Net" []]) v = some (.lst ps)) (hl : ps.length ≤ 6) (no : noOL ps = true) : (fs.bind (mkG "Net" g_mk_Net)) ρ ω = some (.val (netD ps) ω1) :=
  mkG_ev ha (c_mkNet ω1 hv hl) (by simp [noOF, noO, no])
theorem c_nlen {ps : List D} (ω : List Cell) : g_Net___len__ [netD ps] ω = some (.val (.int ps.length) ω) := by
  refine fn_rt rfl ?_
  unfold b_Net___len__
  exact retS_ev (uo_ev (x := .lst ps) (ω1 := ω) (fld_ev (c := "Net") rfl rfl rfl) rfl lenD_lst)
theorem c_nget {ps : List D} {i : Nat} {d : D} (ω : List Cell) (h : ps[i]? = some d) : g_Net___getitem__ [netD ps, .int (i : Nat)] ω = some (.val d ω) := by
  refine fn_rt rfl ?_
  unfold b_Net___getitem__
  exact retS_ev (bo_ev (x := .lst ps) (y := .int (i : Nat)) (ω1 := ω) (fld_ev (c := "Net") rfl rfl rfl) rfl rfl rfl (ixD_lst h))
end L11
namespace L11
open PySem L2 DL
local macro_rules
  | `(tactic| fail "as") => `(tactic| focus first
    | (simp only [tupT, lstT, consT, nilT, nmT, view, List.length_cons, List.length_nil, Nat.reduceAdd, if_true, List.set_cons_zero, List.set_cons_succ]; exact rfl)
    | exact rfl)
local macro_rules
  | `(tactic| fail "fi") => `(tactic| focus first
    | with_reducible assumption
    | exact rfl
    | (apply fine_of; (simp only [DL.plain, plainL, Bool.and_true, Bool.true_and]; first | done | decide +kernel); (simp only [dep, depL]; first | done | decide | omega))
    | (apply fine_of; (simp [DL.plain, plainL, *]; done); (simp only [dep, depL]; first | done | decide | omega)))
local macro_rules
  | `(tactic| fail "sd") => `(tactic| focus first
    | with_reducible assumption
    | with_reducible exact And.left (by assumption)
    | omega
    | decide
    | (simp only [List.length_cons, List.length_nil, List.length_append, List.length_map, List.length_range]; omega)
    | (simp; done)
    | (simp; omega)
    | (decide +kernel))
local macro_rules
  | `(tactic| fail "vw") => `(tactic| focus first
    | with_reducible assumption
    | exact rfl)
local macro_rules
  | `(tactic| fail "bt") => `(tactic| focus first
    | with_reducible assumption
    | with_reducible rfl
    | (exact decide_eq_true (by first | with_reducible assumption | omega))
    | (exact decide_eq_false (by first | with_reducible assumption | omega))
    | (simp only [Bool.and_eq_true, Bool.or_eq_true, Bool.not_eq_true', Bool.not_eq_false', Bool.and_eq_false_iff, Bool.or_eq_false_iff, decide_eq_true_eq, decide_eq_false_iff_not, Bool.not_true, Bool.not_false]; omega)
    | exact rfl
    | (simp [*]; done)
    | (decide +kernel))
local macro_rules
  | `(tactic| fail "op") => `(tactic| focus first
    | with_reducible assumption
    | with_reducible exact addD_int _ _
    | with_reducible exact subD_int _ _
    | with_reducible exact ltD_d _ _
    | with_reducible exact gtD_d _ _
    | with_reducible exact leD_d _ _
    | with_reducible exact geD_d _ _
    | with_reducible exact eqD_int _ _
    | with_reducible exact neD_int _ _
    | with_reducible exact lenD_lstM
    | with_reducible exact lenD_tupM
    | with_reducible exact intD_int _
    | with_reducible exact intD_bl _
    | ((with_reducible apply ixD_ints); fail "sd"; fail "sd")
    | ((with_reducible apply ixD_sgn); fail "sd"; fail "sd"; fail "sd")
    | ((with_reducible apply modD_int); fail "sd")
    | ((with_reducible apply mulD_l); fail "sd"; fail "sd")
    | ((with_reducible apply mulD_r); fail "sd"; fail "sd")
    | ((with_reducible apply fdivD_r); fail "sd"; fail "sd")
    | ((with_reducible apply eqD_str); fail "sd"; fail "sd")
    | ((with_reducible apply neD_str); fail "sd"; fail "sd")
    | ((with_reducible apply fldD_ev); exact rfl; exact rfl)
    | ((with_reducible apply neD_sameR); exact rfl; fail "fi")
    | ((with_reducible apply neD_sameL); exact rfl; fail "fi")
    | ((with_reducible apply eqD_sameR); exact rfl; fail "fi")
    | ((with_reducible apply eqD_sameL); exact rfl; fail "fi")
    | ((with_reducible apply mulSD_ev); fail "sd"; fail "sd"; fail "sd"; fail "sd")
    | with_reducible exact strD_str _
    | ((with_reducible apply strD_int); fail "sd")
    | ((with_reducible apply joinD_lst); fail "sd")
    | ((with_reducible apply addD_lstL); fail "sd")
    | ((with_reducible apply addD_tup); fail "sd")
    | ((with_reducible apply addD_strL); fail "sd")
    | exact rfl)
local macro_rules
  | `(tactic| fail "cl") => `(tactic| focus with_reducible assumption)
local macro_rules
  | `(tactic| fail "ev") => `(tactic| focus first
    | with_reducible assumption
    | exact rfl)
local macro_rules
  | `(tactic| fail "ev") => `(tactic| focus first
    | with_reducible assumption
    | with_reducible exact pure_ev
    | ((with_reducible apply y_fF); exact rfl)
    | ((with_reducible apply y_fz); exact rfl)
    | ((with_reducible apply y_ow); exact rfl)
    | ((with_reducible apply bo_ev); fail "ev"; fail "ev"; fail "vw"; fail "vw"; fail "op")
    | ((with_reducible apply uo_ev); fail "ev"; fail "vw"; fail "op")
    | ((with_reducible apply tst_ev); fail "ev")
    | ((with_reducible apply truM_ev); fail "ev")
    | ((with_reducible apply y_truT); fail "ev")
    | ((with_reducible apply y_truL); fail "ev")
    | ((with_reducible apply cons_ev); fail "ev"; fail "ev")
    | ((with_reducible apply calM_ev); fail "ev"; fail "cl")
    | ((with_reducible apply y_lenOk); fail "sd")
    | ((with_reducible apply y_mkTup); fail "sd")
    | ((with_reducible apply y_mkLst); fail "sd")
    | ((with_reducible apply rng1_nat); fail "sd")
    | ((with_reducible apply rng1_int); fail "sd"; fail "sd")
    | ((with_reducible apply notM_ev); fail "ev")
    | ((with_reducible apply notV_ev); fail "ev")
    | ((with_reducible apply orM_ev); fail "ev"; fail "ev")
    | ((with_reducible apply andM_ev); fail "ev"; fail "ev")
    | ((with_reducible apply orV_ev); fail "ev"; fail "ev")
    | ((with_reducible apply andV_ev); fail "ev"; fail "ev")
    | ((with_reducible apply y_orT); fail "ev"; fail "bt")
    | ((with_reducible apply y_orF); fail "ev"; fail "bt"; fail "ev")
    | ((with_reducible apply y_andF); fail "ev"; fail "bt")
    | ((with_reducible apply y_andT); fail "ev"; fail "bt"; fail "ev")
    | ((with_reducible apply y_orVT); fail "ev"; fail "bt")
    | ((with_reducible apply y_orVF); fail "ev"; fail "bt"; fail "ev")
    | ((with_reducible apply y_andVF); fail "ev"; fail "bt")
    | ((with_reducible apply y_andVT); fail "ev"; fail "bt"; fail "ev")
    | ((with_reducible apply y_ifT); fail "ev"; fail "bt"; fail "ev")
    | ((with_reducible apply y_ifF); fail "ev"; fail "bt"; fail "ev")
    | with_reducible exact asI_ev
    | with_reducible exact items_lst
    | with_reducible exact items_tup
    | ((with_reducible apply sl_lst_to); fail "sd")
    | ((with_reducible apply sl_lst_from); fail "sd")
    | ((with_reducible apply sl_tup_to); fail "sd")
    | ((with_reducible apply sl_tup_from); fail "sd")
    | ((with_reducible apply sl_lst_two); fail "sd"; fail "sd")
    | ((with_reducible apply binO_oo); fail "ev"; fail "ev"; fail "cl")
    | ((with_reducible apply cmpO_oo); fail "ev"; fail "ev"; fail "cl")
    | ((with_reducible apply cmpN_oo); fail "ev"; fail "ev"; fail "cl")
    | ((with_reducible apply methM_o); fail "ev"; exact rfl; fail "ev"; fail "cl")
    | ((with_reducible apply methM_ev); fail "ev"; fail "vw"; exact rfl; exact rfl; fail "ev"; fail "cl")
    | ((with_reducible apply y_bind); fail "ev"; fail "ev"))
local macro_rules
  | `(tactic| fail "rs") => `(tactic| focus (first | (simp only [List.set_cons_zero, List.set_cons_succ]; done) | (simp only [List.set_cons_zero, List.set_cons_succ]; exact rfl) | exact rfl))
local macro_rules
  | `(tactic| fail "st") => `(tactic| first
    | (with_reducible apply z_asc)
    | (with_reducible apply z_skp)
    | ((with_reducible apply z_frzOS); exact rfl; fail "rs")
    | ((with_reducible apply z_frzFS); exact rfl)
    | ((with_reducible apply z_frzO); exact rfl; fail "rs")
    | ((with_reducible apply z_frzF); exact rfl)
    | ((with_reducible apply z_set); fail "ev"; fail "rs")
    | ((with_reducible apply z_setO); fail "ev"; fail "rs")
    | ((with_reducible apply z_app); exact rfl; fail "ev"; fail "sd"; fail "rs")
    | ((with_reducible apply z_ext); exact rfl; fail "ev"; fail "vw"; fail "sd"; fail "rs")
    | ((with_reducible apply z_asg); fail "ev"; fail "as")
    | ((with_reducible apply z_exp); fail "ev")
    | ((with_reducible apply z_ret); fail "ev"; first | exact rfl | skip)
    | ((with_reducible apply z_retR); fail "ev"; first | exact rfl | skip)
    | ((with_reducible apply z_rai); fail "ev"; exact rfl)
    | ((with_reducible apply z_raiR); fail "ev"; exact rfl)
    | ((with_reducible apply z_if); fail "ev"; first | ((with_reducible apply z_ct); fail "bt") | ((with_reducible apply z_cf); fail "bt") | skip)
    | ((with_reducible apply z_ifR); fail "ev"; first | ((with_reducible apply z_ctR); fail "bt") | ((with_reducible apply z_cfR); fail "bt") | skip)
    | ((with_reducible apply z_ct); fail "bt")
    | ((with_reducible apply z_cf); fail "bt")
    | ((with_reducible apply z_ctR); fail "bt")
    | ((with_reducible apply z_cfR); fail "bt")
    | ((with_reducible apply z_for); fail "ev"; first | with_reducible assumption | assumption)
    | ((with_reducible apply e_for); fail "ev"; first | with_reducible assumption | assumption)
    | ((with_reducible apply e_set); fail "ev"; fail "rs")
    | ((with_reducible apply e_setO); fail "ev"; fail "rs")
    | ((with_reducible apply e_app); exact rfl; fail "ev"; fail "sd"; fail "rs")
    | ((with_reducible apply e_ext); exact rfl; fail "ev"; fail "vw"; fail "sd"; fail "rs")
    | ((with_reducible apply exprS_ev); fail "ev")
    | ((with_reducible apply asgS_ev); fail "ev"; fail "as")
    | ((with_reducible apply z_end); first | with_reducible exact rfl | exact rfl))
local macro_rules
  | `(tactic| fail "run") => `(tactic| (fail "st"; repeat fail "st"))
local macro_rules
  | `(tactic| fail "ex") => `(tactic| repeat (with_reducible apply Exists.intro))
local macro_rules
  | `(tactic| fail "se") => `(tactic| simp only [startE, List.map_cons, List.map_nil, List.length_cons, List.length_nil, Nat.reduceAdd, Nat.reduceSub, Nat.sub_self, List.replicate_succ, List.replicate_zero, List.cons_append, List.nil_append, List.append_nil])
local macro_rules
  | `(tactic| fail "ev") => `(tactic| focus first
    | ((with_reducible apply inO_at); fail "ev"; fail "ev"; fail "vw"; exact rfl; fail "cl"; exact rfl)
    | ((with_reducible apply lenO_at); fail "ev"; fail "vw"; exact rfl; fail "cl"; fail "sd"; fail "sd")
    | ((with_reducible apply ixO_at); fail "ev"; fail "ev"; fail "vw"; exact rfl; fail "cl")
    | ((with_reducible apply newS_at); fail "ev")
    | ((with_reducible apply sortL_at); fail "ev"; fail "vw"; fail "sd")
    | ((with_reducible apply listK_at); fail "ev"; fail "vw"))
/-! ### a program is made -/
abbrev Row := Str × Int × Int
abbrev chD (r : Row) : D := .tup [.str r.1, .int r.2.1, .int r.2.2]
abbrev kvN (ks : List (Str × D)) : List (Key × D) := ks.map fun p => (Sum.inr p.1, p.2)
theorem val_kvN {n : Str} {d : D} : ∀ {ks : List (Str × D)}, (ks.map (·.1)).Nodup → (n, d) ∈ ks → valD (kvN ks) (.inr n) = some d
  | [], _, h => by cases h
  | p :: r, nd, h => by
    show valD ((Sum.inr p.1, p.2) :: kvN r) (.inr n) = _
    rw [valD_cons]
    have nd' := List.nodup_cons.mp nd
    rcases List.mem_cons.mp h with z | z
    · rw [if_pos (by rw [← z])]; rw [← z]
    · rw [if_neg (fun e => nd'.1 (by
      show p.1 ∈ r.map (·.1)
      rw [show p.1 = n from Sum.inr.inj e]
      exact List.mem_map_of_mem (f := (·.1)) z))]
      exact val_kvN nd'.2 z
abbrev progF (m : Int) (chs : List D) (κ : Nat) (ps : List D) : List (Str × D) := [("machines", .int m), ("channel_rows", .lst chs), ("known", .oid κ), ("starts", .lst ps)]
abbrev P3 (x : D) (chs : List Row) (b : Nat) (ps : List D) (s4 s5 s6 s7 s8 s9 : Sl) : Rho := [.fz x, .fz (.lst (chs.map chD)), .fz (.oid b), .fz (netD ps), s4, s5, s6, s7, s8, s9]
section
variable {ω : List Cell} {b q : Nat} {ks : List (Str × D)} {chs : List Row} {ps : List D}
theorem rows_cm (w : List Cell) (x : D) (s4 s5 s6 s7 s8 s9 : Sl) (hz : chs.length ≤ 1000) : cm_Program___init___1 (P3 x chs b ps s4 s5 s6 s7 s8 s9) w = some (.val (chs.map chD) w) := by
  unfold cm_Program___init___1
  refine lcM_map (xs := chs) (enc := chD) (h := chD) (ω1 := w) (y_bind (a := .lst (chs.map chD)) (ω1 := w) rfl items_lst) (by rw [sizeLine_eq]; omega) fun r hr => ?_
  refine ⟨_, rfl, ?_⟩
  exact uo_ev (x := chD r) (ω1 := w) rfl rfl rfl
theorem starts_cm (w : List Cell) (x : D) (s4 s5 s6 s7 s8 s9 : Sl) (hz : ps.length ≤ 1000) : cm_Program___init___2 g_Net___getitem__ g_Net___len__ (P3 x chs b ps s4 s5 s6 s7 s8 s9) w = some (.val ps w) := by
  unfold cm_Program___init___2
  have h63 : ((ps.length : Nat) : Int) < 2 ^ 63 := by
    have : (2 : Int) ^ 63 = 9223372036854775808 := by decide
    omega
  have h16 : ps.length ≤ 16777216 := by omega
  have r16 : ∀ w : List Cell, rng1 (.int (ps.length : Nat)) (P3 x chs b ps s4 s5 s6 s7 s8 s9) w = some (.val ((List.range ps.length).map fun i => D.int (0 + (i : Nat))) w) := fun w => rng1_nat h16
  have hl := lenO_at (T := [("Net", g_Net___len__)]) (fo := vF 3) (ρ := P3 x chs b ps s4 s5 s6 s7 s8 s9) (ω := w) (o := netD ps) (ω1 := w) rfl rfl rfl (c_nlen w) (by omega) h63
  have hsrc : ((lenO [("Net", g_Net___len__)] (vF 3)).bind rng1) (P3 x chs b ps s4 s5 s6 s7 s8 s9) w = some (.val ((List.range ps.length).map fun i => D.int (0 + (i : Nat))) w) := by
    rw [bind_ev hl]
    exact r16 w
  have e := lcM_map (vs := [9]) (T := nmT 9) (f := ixO [("Net", g_Net___getitem__)] (vF 3) (vF 9)) (fun i : Nat => D.int (0 + (i : Nat))) (fun i : Nat => ps.getD i .non) hsrc (by rw [List.length_range]; exact Nat.le_trans h16 (Nat.le_of_eq sizeLine_eq.symm)) (fun i hi => by
      have hi' := List.mem_range.mp hi
      refine ⟨_, rfl, ?_⟩
      refine ixO_at (o := netD ps) (i := .int (0 + (i : Nat))) (ω1 := w) (ω2 := w) rfl rfl rfl rfl ?_
      rw [Int.zero_add]
      exact c_nget w (by simp [hi']))
  have el : (List.range ps.length).map (fun i : Nat => ps.getD i .non) = ps := by
    refine List.ext_getElem? fun i => ?_
    by_cases h : i < ps.length
    · simp [h]
    · simp [h]
  rw [el] at e
  exact e
theorem known_dc (w : List Cell) (x : D) (s4 s5 s6 s7 s8 s9 : Sl) (hb : w[b]? = some (bookC q)) (hq : w[q]? = some (Cell.ldc (kvN ks))) (nd : (ks.map (·.1)).Nodup) (hz : ks.length < 1000) :
    dc_Program___init___1 g_Book___getitem__ (P3 x chs b ps s4 s5 s6 s7 s8 s9) w = some (.val (.oid w.length) (w ++ [Cell.dic (kvN ks)])) := by
  unfold dc_Program___init___1
  refine dcM_at (ω1 := w) ks (fun p => D.str p.1) (fun p => Sum.inr p.1) (fun p => p.2) ?_ hz ?_ fun p hp => ?_
  · refine y_bind (a := .oid b) (ω1 := w) rfl ?_
    unfold ownK
    rw [view_book hb]
    simp only [if_true, List.lookup, hq]
    rw [show (("rows" : Str) == ("rows" : Str)) = true by decide +kernel]
    simp only [hq, List.map_map]
    rfl
  · have e : ks.map (fun p => (Sum.inr p.1 : Key)) = (ks.map (·.1)).map Sum.inr := by rw [List.map_map]; rfl
    rw [e]
    exact List.Pairwise.map _ (fun a c h => fun z => h (Sum.inr.inj z)) nd
  · refine ⟨_, .str p.1, rfl, rfl, rfl, ?_⟩
    exact ixO_at (o := .oid b) (i := .str p.1) (ω1 := w) (ω2 := w) rfl rfl (view_book hb) rfl (c_bget hb (view_ldc hq) (val_kvN nd hp))
noncomputable abbrev restP : MS := (seqS (exprS (calM g_check_channels (consM (uo (fldD ["Program"] "channel_rows") (vW 0)) (consM (uo (fldD ["Program"] "machines") (vW 0)) (M.pure [])))))
  (seqS (setS 4 (uo tupleD (cm_Program___init___3.bind fun ds => M.pure (.lst ds))))
  (seqS (forS ((((((uo (fldD ["Program"] "known") (vW 0)).bind listK).bind fun ds => M.pure (.lst ds)).bind sortL).bind fun ds => M.pure (.lst ds)).bind itemsOf) (nmT 5) (lb_Program___init___1 g_check_names))
  (seqS (forS ((uo (fldD ["Program"] "starts") (vW 0)).bind itemsOf) (nmT 7) (lb_Program___init___2 g_check_names))
  (exprS (calM g_check_endless (consM (uo (fldD ["Program"] "known") (vW 0)) (M.pure []))))))))
theorem init_few (hl : ps.length = 0) : g_mk_Program [.oid ω.length, .lst (chs.map chD), .oid b, netD ps] (ω ++ [.obj "Program" []]) = some (.exc (bad "machines") (ω ++ [.obj "Program" []])) := by
  refine fn_ex (ρ := P3 (.oid ω.length) chs b ps .no .no .no .no .no .no) rfl ?_
  unfold b_Program___init__
  refine seqS_ex ?_
  rw [ifS_t (ω' := ω ++ [.obj "Program" []]) (tst_ev (bo_ev (x := .int ps.length) (y := .int 1) (ω1 := ω ++ [.obj "Program" []]) (lenO_at (o := netD ps) (ω1 := ω ++ [.obj "Program" []]) rfl rfl rfl (c_nlen _) (by omega) (by omega)) rfl rfl rfl (ltD_t (by omega))))]
  rfl
theorem start1 (hl : 1 ≤ ps.length) (hl2 : ps.length ≤ 1000) (K : MS) : seqS (ifS (tst (bo ltD (lenO [("Net", g_Net___len__)] (vF 3)) (M.pure (.int 1)))) (raiS "BadTerm" "field" (M.pure (.str "machines"))) (fun ρ ω => some (.nx ρ ω))) K (P3 (.oid ω.length) chs b ps .no .no .no .no .no .no) (ω ++ [.obj "Program" []]) = K (P3 (.oid ω.length) chs b ps .no .no .no .no .no .no) (ω ++ [.obj "Program" []]) :=
  seqS_nx (by rw [ifS_f (ω' := ω ++ [.obj "Program" []]) (tst_ev (bo_ev (x := .int ps.length) (y := .int 1) (ω1 := ω ++ [.obj "Program" []]) (lenO_at (o := netD ps) (ω1 := ω ++ [.obj "Program" []]) rfl rfl rfl (c_nlen _) (by omega) (by omega)) rfl rfl rfl (ltD_f (by omega))))])
theorem init_many (hl : 1 ≤ ps.length) (hl2 : ps.length ≤ 1000) (hc : 8 < chs.length) : g_mk_Program [.oid ω.length, .lst (chs.map chD), .oid b, netD ps] (ω ++ [.obj "Program" []]) = some (.exc (bad "channels") (ω ++ [.obj "Program" []])) := by
  refine fn_ex (ρ := P3 (.oid ω.length) chs b ps .no .no .no .no .no .no) rfl ?_
  unfold b_Program___init__
  refine Eq.trans (start1 hl hl2 _) ?_
  refine seqS_ex ?_
  rw [ifS_t (ω' := ω ++ [.obj "Program" []]) (tst_ev (bo_ev (x := .int chs.length) (y := .int 8) (ω1 := ω ++ [.obj "Program" []]) (uo_ev (x := .lst (chs.map chD)) (ω1 := ω ++ [.obj "Program" []]) rfl rfl lenD_lstM) rfl rfl rfl (gtD_t (by omega))))]
  rfl
/-- all the fields are put; the checks are left -/
theorem init_mid (hl : 1 ≤ ps.length) (hl2 : ps.length ≤ 1000) (hc : chs.length ≤ 8) (hb : ω[b]? = some (bookC q)) (hq : ω[q]? = some (Cell.dic (kvN ks))) (nd : (ks.map (·.1)).Nodup) (hz : ks.length < 1000) :
    b_Program___init__ g_Book___getitem__ g_Net___getitem__ g_Net___len__ g_check_channels g_check_endless g_check_names (P3 (.oid ω.length) chs b ps .no .no .no .no .no .no) (ω ++ [.obj "Program" []]) =
    restP (P3 (.oid ω.length) chs b ps .no .no .no .no .no .no) (ω ++ [.obj "Program" (progF ps.length (chs.map chD) (ω.length + 1) ps), .dic (kvN ks)]) := by
  unfold b_Program___init__
  refine Eq.trans (start1 hl hl2 _) ?_
  refine Eq.trans (seqS_nx (ω' := ω ++ [.obj "Program" []]) (by rw [ifS_f (ω' := ω ++ [.obj "Program" []]) (tst_ev (bo_ev (x := .int chs.length) (y := .int 8) (ω1 := ω ++ [.obj "Program" []]) (uo_ev (x := .lst (chs.map chD)) (ω1 := ω ++ [.obj "Program" []]) rfl rfl lenD_lstM) rfl rfl rfl (gtD_f (by omega))))])) ?_
  refine Eq.trans (seqS_nx (fldS_at (k := ω.length) (c := "Program") (fs := []) (d := .int ps.length) (ω1 := ω ++ [.obj "Program" []]) (ω2 := ω ++ [.obj "Program" []]) (lenO_at (o := netD ps) (ω1 := ω ++ [.obj "Program" []]) rfl rfl rfl (c_nlen _) (by omega) (by omega)) rfl (last_cell _ _) rfl (by decide))) ?_
  rw [set_last]
  refine Eq.trans (seqS_nx (fldS_at (k := ω.length) (c := "Program") (fs := ([("machines", .int ps.length)] : List (Str × D))) (d := .lst (chs.map chD)) (ω1 := ω ++ [.obj "Program" [("machines", .int ps.length)]]) (ω2 := ω ++ [.obj "Program" [("machines", .int ps.length)]]) (y_bind (rows_cm _ _ _ _ _ _ _ _ (by omega)) rfl) rfl (last_cell _ _) rfl (by simp))) ?_
  rw [set_last]
  have hbl : b < ω.length := (List.getElem?_eq_some_iff.mp hb).1
  have hql : q < ω.length := (List.getElem?_eq_some_iff.mp hq).1
  have hne : b ≠ q := fun e => by rw [e, hq] at hb; cases hb
  have hput : putD "channel_rows" (.lst (chs.map chD)) ([("machines", .int ps.length)] : List (Str × D)) = ([("machines", .int ps.length), ("channel_rows", .lst (chs.map chD))] : List (Str × D)) := by
    unfold putD
    rw [if_neg (by decide +kernel)]
    rfl
  rw [hput]
  generalize hc1 : Cell.obj "Program" [("machines", .int ps.length), ("channel_rows", .lst (chs.map chD))] = c1
  have hb1 : (ω ++ [c1])[b]? = some (bookC q) := by rw [List.getElem?_append_left hbl]; exact hb
  have hq1 : (ω ++ [c1])[q]? = some (Cell.dic (kvN ks)) := by rw [List.getElem?_append_left hql]; exact hq
  have hb2 : ((ω ++ [c1]).set q (.ldc (kvN ks)))[b]? = some (bookC q) := by rw [List.getElem?_set_ne (Ne.symm hne)]; exact hb1
  have hq2 : ((ω ++ [c1]).set q (.ldc (kvN ks)))[q]? = some (Cell.ldc (kvN ks)) := by rw [List.getElem?_set_self (by simp; omega)]
  have hp2 : ((ω ++ [c1]).set q (.ldc (kvN ks)) ++ [Cell.dic (kvN ks)])[ω.length]? = some c1 := by
    rw [List.getElem?_append_left (by simp), List.getElem?_set_ne (by omega)]
    exact last_cell _ _
  have kn := known_dc (chs := chs) (ps := ps) (b := b) (q := q) (ks := ks) ((ω ++ [c1]).set q (.ldc (kvN ks))) (.oid ω.length) .no .no .no .no .no .no hb2 hq2 nd hz
  have e3 := fldS_at (cs := ["Program"]) (c := "Program") (f := "known") (k := ω.length) (fs := ([("machines", .int ps.length), ("channel_rows", .lst (chs.map chD))] : List (Str × D))) (fo := vF 0) kn (ω2 := (ω ++ [c1]).set q (.ldc (kvN ks)) ++ [Cell.dic (kvN ks)]) rfl (by rw [hp2, hc1]) rfl (by simp)
  have lenw : ((ω ++ [c1]).set q (.ldc (kvN ks))).length = ω.length + 1 := by simp
  rw [lenw] at e3
  have hput2 : putD "known" (.oid (ω.length + 1)) ([("machines", .int ps.length), ("channel_rows", .lst (chs.map chD))] : List (Str × D)) = ([("machines", .int ps.length), ("channel_rows", .lst (chs.map chD)), ("known", .oid (ω.length + 1))] : List (Str × D)) := by
    unfold putD
    rw [if_neg (by decide +kernel)]
    unfold putD
    rw [if_neg (by decide +kernel)]
    rfl
  rw [hput2] at e3
  have e4 := lockS_at (f := uo (fldD ["Book"] "rows") (vW 2)) (k := q) (kvs' := kvN ks) (ω := ω ++ [c1]) (uo_ev (y_fz rfl) (view_book hb1) (fldD_ev rfl rfl)) hq1 e3 (by
    rw [List.getElem?_set_ne (by omega), List.getElem?_append_left (by simp; omega)]
    exact hq2)
  have ew : ∀ c2 : Cell, (((ω ++ [c1]).set q (.ldc (kvN ks)) ++ [Cell.dic (kvN ks)]).set ω.length c2).set q (.dic (kvN ks)) = ω ++ [c2, Cell.dic (kvN ks)] := fun c2 => by
    rw [List.set_append_left _ _ hql, List.append_assoc, List.set_append_right _ _ (by simp)]
    rw [List.length_set, Nat.sub_self]
    rw [List.set_append_left _ _ (by rw [List.length_set]; exact hql), set_set_back hq]
    rfl
  rw [ew] at e4
  refine Eq.trans (seqS_nx e4) ?_
  generalize hc2 : Cell.obj "Program" [("machines", .int ps.length), ("channel_rows", .lst (chs.map chD)), ("known", .oid (ω.length + 1))] = c2
  have hp3 : (ω ++ [c2, Cell.dic (kvN ks)])[ω.length]? = some c2 := by
    rw [List.getElem?_append_right (Nat.le_refl _), Nat.sub_self]; rfl
  have hput3 : putD "starts" (.lst ps) ([("machines", .int ps.length), ("channel_rows", .lst (chs.map chD)), ("known", .oid (ω.length + 1))] : List (Str × D)) = progF ps.length (chs.map chD) (ω.length + 1) ps := by
    unfold putD
    rw [if_neg (by decide +kernel)]
    unfold putD
    rw [if_neg (by decide +kernel)]
    unfold putD
    rw [if_neg (by decide +kernel)]
    rfl
  refine Eq.trans (seqS_nx (fldS_at (k := ω.length) (c := "Program") (fs := ([("machines", .int ps.length), ("channel_rows", .lst (chs.map chD)), ("known", .oid (ω.length + 1))] : List (Str × D))) (d := .lst ps) (ω1 := ω ++ [c2, Cell.dic (kvN ks)]) (ω2 := ω ++ [c2, Cell.dic (kvN ks)]) (y_bind (starts_cm _ _ _ _ _ _ _ _ hl2) rfl) rfl (by rw [hp3, hc2]) rfl (by simp))) ?_
  rw [hput3, List.set_append_right _ _ (Nat.le_refl _), Nat.sub_self]
  rfl
end
/-! ### texts in lists -/
theorem plainL_strs : ∀ xs : List Str, (∀ x ∈ xs, PySem.PyData.strOk x = true) → plainL (dSs xs) = true
  | [], _ => rfl
  | x :: r, h => by
    show (PySem.PyData.strOk x && plainL (dSs r)) = true
    rw [h x (List.mem_cons_self ..), plainL_strs r fun y hy => h y (List.mem_cons_of_mem _ hy)]; rfl
theorem depL_strs : ∀ xs : List Str, depL (dSs xs) = 0
  | [] => rfl
  | x :: r => by show max 0 (depL (dSs r)) = 0; rw [depL_strs r]; rfl
theorem fine_strs {xs : List Str} (h : ∀ x ∈ xs, PySem.PyData.strOk x = true) : fine (.lst (dSs xs)) = true := by
  rw [fine_iff]
  exact ⟨plainL_strs xs h, by show depL (dSs xs) + 1 ≤ 64; rw [depL_strs]; decide⟩
theorem fine_str {x : Str} (h : PySem.PyData.strOk x = true) : fine (.str x) = true := by
  rw [fine_iff]
  exact ⟨h, Nat.zero_le _⟩
theorem in_names {x : Str} {xs : List Str} (hx : PySem.PyData.strOk x = true) (h : ∀ y ∈ xs, PySem.PyData.strOk y = true) : inD (.str x) (.lst (dSs xs)) = some (.bl (decide (x ∈ xs))) := by
  show (if (fine (.str x) && fine (.lst (dSs xs))) = true then some ((dSs xs).any fun z => eqb z (.str x)) else none).map D.bl = _
  rw [if_pos (show (fine (.str x) && fine (.lst (dSs xs))) = true by rw [fine_str hx, fine_strs h]; rfl), any_str]
  rfl
/-! ### signs -/
theorem strOk_app {x y : Str} (hx : PySem.PyData.strOk x = true) (hy : PySem.PyData.strOk y = true) : PySem.PyData.strOk (x ++ y) = true := by
  unfold PySem.PyData.strOk at hx hy ⊢
  show (x.cps ++ y.cps).all _ = true
  rw [Array.all_append, hx, hy]
  rfl
theorem strOk_of (s : String) : PySem.PyData.strOk (Str.ofString s) = true := by
  unfold PySem.PyData.strOk
  rw [Str.ofString_eq_toList, ← Array.all_toList]
  refine List.all_eq_true.mpr fun c hc => ?_
  obtain ⟨d, _, rfl⟩ := List.mem_map.mp hc
  have h := d.valid
  simp only [UInt32.isValidChar, Nat.isValidChar] at h
  exact decide_eq_true (show d.val.toNat < 0x110000 by omega)
theorem cut_one (z : Str) : cutS z (some 1) none = ⟨(z.cps.toList.drop 1).toArray⟩ := by
  unfold cutS
  rw [show HT.sIx z.length 0 (some 1) = min 1 z.length from HT.sIx_nat z.length 0 1, HT.sIx_none, len_cps]
  cases z.cps.toList with
  | nil => rfl
  | cons c r =>
    have e : min 1 (c :: r).length = 1 := by simp
    rw [e]
    simp
theorem sl_str_from1 {z : Str} {ρ : Rho} {ω : List Cell} (h : z.length ≤ 1000) : slM (.str z) (some 1) none ρ ω = some (.val (.str ⟨(z.cps.toList.drop 1).toArray⟩) ω) := by
  show (match (if z.length ≤ sizeLine then some (D.str (cutS z (some 1) none)) else none) with | some z => some (R.val z ω) | none => none) = _
  rw [if_pos (by rw [sizeLine_eq]; omega), cut_one]
end L11
namespace L11
open PySem L2 DL
local macro_rules
  | `(tactic| fail "as") => `(tactic| focus first
    | (simp only [tupT, lstT, consT, nilT, nmT, view, List.length_cons, List.length_nil, Nat.reduceAdd, if_true, List.set_cons_zero, List.set_cons_succ]; exact rfl)
    | exact rfl)
local macro_rules
  | `(tactic| fail "fi") => `(tactic| focus first
    | with_reducible assumption
    | exact rfl
    | (apply fine_of; (simp only [DL.plain, plainL, Bool.and_true, Bool.true_and]; first | done | decide +kernel); (simp only [dep, depL]; first | done | decide | omega))
    | (apply fine_of; (simp [DL.plain, plainL, *]; done); (simp only [dep, depL]; first | done | decide | omega)))
local macro_rules
  | `(tactic| fail "sd") => `(tactic| focus first
    | with_reducible assumption
    | with_reducible exact And.left (by assumption)
    | omega
    | decide
    | (simp only [List.length_cons, List.length_nil, List.length_append, List.length_map, List.length_range]; omega)
    | (simp; done)
    | (simp; omega)
    | (decide +kernel))
local macro_rules
  | `(tactic| fail "vw") => `(tactic| focus first
    | with_reducible assumption
    | exact rfl)
local macro_rules
  | `(tactic| fail "bt") => `(tactic| focus first
    | with_reducible assumption
    | with_reducible rfl
    | (exact decide_eq_true (by first | with_reducible assumption | omega))
    | (exact decide_eq_false (by first | with_reducible assumption | omega))
    | (simp only [Bool.and_eq_true, Bool.or_eq_true, Bool.not_eq_true', Bool.not_eq_false', Bool.and_eq_false_iff, Bool.or_eq_false_iff, decide_eq_true_eq, decide_eq_false_iff_not, Bool.not_true, Bool.not_false]; omega)
    | exact rfl
    | (simp [*]; done)
    | (decide +kernel))
local macro_rules
  | `(tactic| fail "op") => `(tactic| focus first
    | with_reducible assumption
    | with_reducible exact addD_int _ _
    | with_reducible exact subD_int _ _
    | with_reducible exact ltD_d _ _
    | with_reducible exact gtD_d _ _
    | with_reducible exact leD_d _ _
    | with_reducible exact geD_d _ _
    | with_reducible exact eqD_int _ _
    | with_reducible exact neD_int _ _
    | with_reducible exact lenD_lstM
    | with_reducible exact lenD_tupM
    | with_reducible exact intD_int _
    | with_reducible exact intD_bl _
    | ((with_reducible apply ixD_ints); fail "sd"; fail "sd")
    | ((with_reducible apply ixD_sgn); fail "sd"; fail "sd"; fail "sd")
    | ((with_reducible apply modD_int); fail "sd")
    | ((with_reducible apply mulD_l); fail "sd"; fail "sd")
    | ((with_reducible apply mulD_r); fail "sd"; fail "sd")
    | ((with_reducible apply fdivD_r); fail "sd"; fail "sd")
    | ((with_reducible apply eqD_str); fail "sd"; fail "sd")
    | ((with_reducible apply neD_str); fail "sd"; fail "sd")
    | ((with_reducible apply fldD_ev); exact rfl; exact rfl)
    | ((with_reducible apply neD_sameR); exact rfl; fail "fi")
    | ((with_reducible apply neD_sameL); exact rfl; fail "fi")
    | ((with_reducible apply eqD_sameR); exact rfl; fail "fi")
    | ((with_reducible apply eqD_sameL); exact rfl; fail "fi")
    | ((with_reducible apply mulSD_ev); fail "sd"; fail "sd"; fail "sd"; fail "sd")
    | with_reducible exact strD_str _
    | ((with_reducible apply strD_int); fail "sd")
    | ((with_reducible apply joinD_lst); fail "sd")
    | ((with_reducible apply addD_lstL); fail "sd")
    | ((with_reducible apply addD_tup); fail "sd")
    | ((with_reducible apply addD_strL); fail "sd")
    | exact rfl)
local macro_rules
  | `(tactic| fail "cl") => `(tactic| focus with_reducible assumption)
local macro_rules
  | `(tactic| fail "ev") => `(tactic| focus first
    | with_reducible assumption
    | exact rfl)
local macro_rules
  | `(tactic| fail "ev") => `(tactic| focus first
    | with_reducible assumption
    | with_reducible exact pure_ev
    | ((with_reducible apply y_fF); exact rfl)
    | ((with_reducible apply y_fz); exact rfl)
    | ((with_reducible apply y_ow); exact rfl)
    | ((with_reducible apply bo_ev); fail "ev"; fail "ev"; fail "vw"; fail "vw"; fail "op")
    | ((with_reducible apply uo_ev); fail "ev"; fail "vw"; fail "op")
    | ((with_reducible apply tst_ev); fail "ev")
    | ((with_reducible apply truM_ev); fail "ev")
    | ((with_reducible apply y_truT); fail "ev")
    | ((with_reducible apply y_truL); fail "ev")
    | ((with_reducible apply cons_ev); fail "ev"; fail "ev")
    | ((with_reducible apply calM_ev); fail "ev"; fail "cl")
    | ((with_reducible apply y_lenOk); fail "sd")
    | ((with_reducible apply y_mkTup); fail "sd")
    | ((with_reducible apply y_mkLst); fail "sd")
    | ((with_reducible apply rng1_nat); fail "sd")
    | ((with_reducible apply rng1_int); fail "sd"; fail "sd")
    | ((with_reducible apply notM_ev); fail "ev")
    | ((with_reducible apply notV_ev); fail "ev")
    | ((with_reducible apply orM_ev); fail "ev"; fail "ev")
    | ((with_reducible apply andM_ev); fail "ev"; fail "ev")
    | ((with_reducible apply orV_ev); fail "ev"; fail "ev")
    | ((with_reducible apply andV_ev); fail "ev"; fail "ev")
    | ((with_reducible apply y_orT); fail "ev"; fail "bt")
    | ((with_reducible apply y_orF); fail "ev"; fail "bt"; fail "ev")
    | ((with_reducible apply y_andF); fail "ev"; fail "bt")
    | ((with_reducible apply y_andT); fail "ev"; fail "bt"; fail "ev")
    | ((with_reducible apply y_orVT); fail "ev"; fail "bt")
    | ((with_reducible apply y_orVF); fail "ev"; fail "bt"; fail "ev")
    | ((with_reducible apply y_andVF); fail "ev"; fail "bt")
    | ((with_reducible apply y_andVT); fail "ev"; fail "bt"; fail "ev")
    | ((with_reducible apply y_ifT); fail "ev"; fail "bt"; fail "ev")
    | ((with_reducible apply y_ifF); fail "ev"; fail "bt"; fail "ev")
    | with_reducible exact asI_ev
    | with_reducible exact items_lst
    | with_reducible exact items_tup
    | ((with_reducible apply sl_lst_to); fail "sd")
    | ((with_reducible apply sl_lst_from); fail "sd")
    | ((with_reducible apply sl_tup_to); fail "sd")
    | ((with_reducible apply sl_tup_from); fail "sd")
    | ((with_reducible apply sl_lst_two); fail "sd"; fail "sd")
    | ((with_reducible apply binO_oo); fail "ev"; fail "ev"; fail "cl")
    | ((with_reducible apply cmpO_oo); fail "ev"; fail "ev"; fail "cl")
    | ((with_reducible apply cmpN_oo); fail "ev"; fail "ev"; fail "cl")
    | ((with_reducible apply methM_o); fail "ev"; exact rfl; fail "ev"; fail "cl")
    | ((with_reducible apply methM_ev); fail "ev"; fail "vw"; exact rfl; exact rfl; fail "ev"; fail "cl")
    | ((with_reducible apply y_bind); fail "ev"; fail "ev"))
local macro_rules
  | `(tactic| fail "rs") => `(tactic| focus (first | (simp only [List.set_cons_zero, List.set_cons_succ]; done) | (simp only [List.set_cons_zero, List.set_cons_succ]; exact rfl) | exact rfl))
local macro_rules
  | `(tactic| fail "st") => `(tactic| first
    | (with_reducible apply z_asc)
    | (with_reducible apply z_skp)
    | ((with_reducible apply z_frzOS); exact rfl; fail "rs")
    | ((with_reducible apply z_frzFS); exact rfl)
    | ((with_reducible apply z_frzO); exact rfl; fail "rs")
    | ((with_reducible apply z_frzF); exact rfl)
    | ((with_reducible apply z_set); fail "ev"; fail "rs")
    | ((with_reducible apply z_setO); fail "ev"; fail "rs")
    | ((with_reducible apply z_app); exact rfl; fail "ev"; fail "sd"; fail "rs")
    | ((with_reducible apply z_ext); exact rfl; fail "ev"; fail "vw"; fail "sd"; fail "rs")
    | ((with_reducible apply z_asg); fail "ev"; fail "as")
    | ((with_reducible apply z_exp); fail "ev")
    | ((with_reducible apply z_ret); fail "ev"; first | exact rfl | skip)
    | ((with_reducible apply z_retR); fail "ev"; first | exact rfl | skip)
    | ((with_reducible apply z_rai); fail "ev"; exact rfl)
    | ((with_reducible apply z_raiR); fail "ev"; exact rfl)
    | ((with_reducible apply z_if); fail "ev"; first | ((with_reducible apply z_ct); fail "bt") | ((with_reducible apply z_cf); fail "bt") | skip)
    | ((with_reducible apply z_ifR); fail "ev"; first | ((with_reducible apply z_ctR); fail "bt") | ((with_reducible apply z_cfR); fail "bt") | skip)
    | ((with_reducible apply z_ct); fail "bt")
    | ((with_reducible apply z_cf); fail "bt")
    | ((with_reducible apply z_ctR); fail "bt")
    | ((with_reducible apply z_cfR); fail "bt")
    | ((with_reducible apply z_for); fail "ev"; first | with_reducible assumption | assumption)
    | ((with_reducible apply e_for); fail "ev"; first | with_reducible assumption | assumption)
    | ((with_reducible apply e_set); fail "ev"; fail "rs")
    | ((with_reducible apply e_setO); fail "ev"; fail "rs")
    | ((with_reducible apply e_app); exact rfl; fail "ev"; fail "sd"; fail "rs")
    | ((with_reducible apply e_ext); exact rfl; fail "ev"; fail "vw"; fail "sd"; fail "rs")
    | ((with_reducible apply exprS_ev); fail "ev")
    | ((with_reducible apply asgS_ev); fail "ev"; fail "as")
    | ((with_reducible apply z_end); first | with_reducible exact rfl | exact rfl))
local macro_rules
  | `(tactic| fail "run") => `(tactic| (fail "st"; repeat fail "st"))
local macro_rules
  | `(tactic| fail "ex") => `(tactic| repeat (with_reducible apply Exists.intro))
local macro_rules
  | `(tactic| fail "se") => `(tactic| simp only [startE, List.map_cons, List.map_nil, List.length_cons, List.length_nil, Nat.reduceAdd, Nat.reduceSub, Nat.sub_self, List.replicate_succ, List.replicate_zero, List.cons_append, List.nil_append, List.append_nil])
local macro_rules
  | `(tactic| fail "ev") => `(tactic| focus first
    | ((with_reducible apply inO_at); fail "ev"; fail "ev"; fail "vw"; exact rfl; fail "cl"; exact rfl)
    | ((with_reducible apply lenO_at); fail "ev"; fail "vw"; exact rfl; fail "cl"; fail "sd"; fail "sd")
    | ((with_reducible apply ixO_at); fail "ev"; fail "ev"; fail "vw"; exact rfl; fail "cl")
    | ((with_reducible apply newS_at); fail "ev")
    | ((with_reducible apply sortL_at); fail "ev"; fail "vw"; fail "sd")
    | ((with_reducible apply listK_at); fail "ev"; fail "vw"))
/-! ### the rows of the channels -/
def chBad (m : Int) : List Str → List Row → Option Exc
  | _, [] => none
  | es, r :: rs => if nameB r.1 = false ∨ r.1 ∈ es then some (bad "name") else if ¬ (1 ≤ r.2.1 ∧ r.2.1 ≤ 4) then some (bad "seats") else if ¬ (0 ≤ r.2.2 ∧ r.2.2 < m) then some ⟨"NoMachine", [("machine", .int r.2.2)]⟩ else chBad m (es ++ [r.1]) rs
abbrev chT : TT1 := tupT 3 (consT (nmT 3) (consT (nmT 4) (consT (nmT 5) nilT)))
theorem chan_go {m : Int} {R : D} (ω : List Cell) : ∀ (rs : List Row) (es : List Str) (q3 q4 q5 : Sl), (∀ r ∈ rs, r.1.length ≤ 1000 ∧ PySem.PyData.strOk r.1 = true) → (∀ e ∈ es, PySem.PyData.strOk e = true) → es.length + rs.length ≤ 1000 →
    (chBad m es rs = none → ∃ ρ', forGo chT (lb_check_channels_1 g_is_name) (rs.map chD) [.fz R, .fz (.int m), .ow (dSs es), q3, q4, q5] ω = some (.nx ρ' ω)) ∧
    (∀ x, chBad m es rs = some x → ∃ ρ', forGo chT (lb_check_channels_1 g_is_name) (rs.map chD) [.fz R, .fz (.int m), .ow (dSs es), q3, q4, q5] ω = some (.exc x ρ' ω))
  | [], es, q3, q4, q5, _, _, _ => ⟨fun _ => ⟨_, rfl⟩, fun x h => by cases h⟩
  | r :: rs, es, q3, q4, q5, hr, he, hz => by
    obtain ⟨n, s, t⟩ := r
    have h0 := hr (n, s, t) (List.mem_cons_self ..)
    rw [List.length_cons] at hz
    have t1 : (orM (notM (truM (calM g_is_name (consM (vF 3) (M.pure []))))) (tst (bo inD (vW 3) (vW 2)))) [.fz R, .fz (.int m), .ow (dSs es), .fz (.str n), .fz (.int s), .fz (.int t)] ω = some (.val (!nameB n || decide (n ∈ es)) ω) :=
      orM_ev (notM_ev (truM_ev (calM_ev (ds := [.str n]) (ω1 := ω) rfl (c_isname ω h0.1)))) (tst_ev (bo_ev (x := .str n) (y := .lst (dSs es)) (ω1 := ω) rfl rfl rfl rfl (in_names h0.2 he)))
    have t2 : (orM (tst (bo ltD (vW 4) (M.pure (.int 1)))) (tst (bo gtD (vW 4) (M.pure (.int 4))))) [.fz R, .fz (.int m), .ow (dSs es), .fz (.str n), .fz (.int s), .fz (.int t)] ω = some (.val (decide (s < 1) || decide (4 < s)) ω) :=
      orM_ev (tst_ev (bo_ev (x := .int s) (y := .int 1) (ω1 := ω) rfl rfl rfl rfl (ltD_d _ _))) (tst_ev (bo_ev (x := .int s) (y := .int 4) (ω1 := ω) rfl rfl rfl rfl (gtD_d _ _)))
    have t3 : (orM (tst (bo ltD (vW 5) (M.pure (.int 0)))) (tst (bo geD (vW 5) (vW 1)))) [.fz R, .fz (.int m), .ow (dSs es), .fz (.str n), .fz (.int s), .fz (.int t)] ω = some (.val (decide (t < 0) || decide (m ≤ t)) ω) :=
      orM_ev (tst_ev (bo_ev (x := .int t) (y := .int 0) (ω1 := ω) rfl rfl rfl rfl (ltD_d _ _))) (tst_ev (bo_ev (x := .int t) (y := .int m) (ω1 := ω) rfl rfl rfl rfl (geD_d _ _)))
    have hT : chT (chD (n, s, t)) [.fz R, .fz (.int m), .ow (dSs es), q3, q4, q5] ω = some [.fz R, .fz (.int m), .ow (dSs es), .fz (.str n), .fz (.int s), .fz (.int t)] := rfl
    have go_x : ∀ {x : Exc}, lb_check_channels_1 g_is_name [.fz R, .fz (.int m), .ow (dSs es), .fz (.str n), .fz (.int s), .fz (.int t)] ω = some (.exc x [.fz R, .fz (.int m), .ow (dSs es), .fz (.str n), .fz (.int s), .fz (.int t)] ω) → ∃ ρ', forGo chT (lb_check_channels_1 g_is_name) (((n, s, t) :: rs).map chD) [.fz R, .fz (.int m), .ow (dSs es), q3, q4, q5] ω = some (.exc x ρ' ω) := fun h => ⟨[.fz R, .fz (.int m), .ow (dSs es), .fz (.str n), .fz (.int s), .fz (.int t)], by
      rw [List.map_cons]; unfold forGo; simp only [hT, h]⟩
    unfold chBad
    by_cases h1 : nameB n = false ∨ n ∈ es
    · rw [if_pos h1]
      have e1 : (!nameB n || decide (n ∈ es)) = true := by
        rcases h1 with h | h
        · rw [h]; rfl
        · rw [decide_eq_true h, Bool.or_true]
      rw [e1] at t1
      refine ⟨fun h => (by cases h), fun x h => ?_⟩
      cases h
      refine go_x ?_
      unfold lb_check_channels_1
      exact seqS_ex ((ifS_t t1).trans rfl)
    · rw [if_neg h1]
      have e1 : (!nameB n || decide (n ∈ es)) = false := by
        rw [not_or, Bool.not_eq_false] at h1
        rw [h1.1, decide_eq_false h1.2]; rfl
      rw [e1] at t1
      by_cases h2 : 1 ≤ s ∧ s ≤ 4
      · rw [if_neg (not_not_intro h2)]
        rw [decide_eq_false (show ¬ s < 1 by omega), decide_eq_false (show ¬ 4 < s by omega)] at t2
        by_cases h3 : 0 ≤ t ∧ t < m
        · rw [if_neg (not_not_intro h3)]
          rw [decide_eq_false (show ¬ t < 0 by omega), decide_eq_false (show ¬ m ≤ t by omega)] at t3
          have hb : lb_check_channels_1 g_is_name [.fz R, .fz (.int m), .ow (dSs es), .fz (.str n), .fz (.int s), .fz (.int t)] ω = some (.nx [.fz R, .fz (.int m), .ow (dSs (es ++ [n])), .fz (.str n), .fz (.int s), .fz (.int t)] ω) := by
            unfold lb_check_channels_1
            refine Eq.trans (seqS_nx (ω' := ω) (ρ' := [.fz R, .fz (.int m), .ow (dSs es), .fz (.str n), .fz (.int s), .fz (.int t)]) (by rw [ifS_f t1])) ?_
            refine Eq.trans (seqS_nx (ω' := ω) (ρ' := [.fz R, .fz (.int m), .ow (dSs es), .fz (.str n), .fz (.int s), .fz (.int t)]) (by rw [ifS_f t2])) ?_
            refine Eq.trans (seqS_nx (ω' := ω) (ρ' := [.fz R, .fz (.int m), .ow (dSs es), .fz (.str n), .fz (.int s), .fz (.int t)]) (by rw [ifS_f t3])) ?_
            refine Eq.trans (appS_ev (es := dSs es) (d := .str n) (ω' := ω) rfl rfl (by rw [sizeLine_eq, List.length_map]; omega)) ?_
            rw [dSs, dSs, List.map_append]; rfl
          have ih := chan_go (m := m) (R := R) ω rs (es ++ [n]) (.fz (.str n)) (.fz (.int s)) (.fz (.int t)) (fun r h => hr r (List.mem_cons_of_mem _ h)) (fun e h => by
            rcases List.mem_append.mp h with z | z
            · exact he e z
            · rw [List.mem_singleton.mp z]; exact h0.2) (by rw [List.length_append, List.length_singleton]; omega)
          have eg : forGo chT (lb_check_channels_1 g_is_name) (((n, s, t) :: rs).map chD) [.fz R, .fz (.int m), .ow (dSs es), q3, q4, q5] ω = forGo chT (lb_check_channels_1 g_is_name) (rs.map chD) [.fz R, .fz (.int m), .ow (dSs (es ++ [n])), .fz (.str n), .fz (.int s), .fz (.int t)] ω := by
            rw [List.map_cons]
            conv => lhs; unfold forGo
            simp only [hT, hb]
          rw [eg]
          exact ih
        · rw [if_pos h3]
          have e3 : (decide (t < 0) || decide (m ≤ t)) = true := by
            simp only [Bool.or_eq_true, decide_eq_true_eq]; omega
          rw [e3] at t3
          refine ⟨fun h => (by cases h), fun x h => ?_⟩
          cases h
          refine go_x ?_
          unfold lb_check_channels_1
          refine Eq.trans (seqS_nx (ω' := ω) (ρ' := [.fz R, .fz (.int m), .ow (dSs es), .fz (.str n), .fz (.int s), .fz (.int t)]) (by rw [ifS_f t1])) ?_
          refine Eq.trans (seqS_nx (ω' := ω) (ρ' := [.fz R, .fz (.int m), .ow (dSs es), .fz (.str n), .fz (.int s), .fz (.int t)]) (by rw [ifS_f t2])) ?_
          exact seqS_ex ((ifS_t t3).trans rfl)
      · rw [if_pos h2]
        have e2 : (decide (s < 1) || decide (4 < s)) = true := by
          simp only [Bool.or_eq_true, decide_eq_true_eq]; omega
        rw [e2] at t2
        refine ⟨fun h => (by cases h), fun x h => ?_⟩
        cases h
        refine go_x ?_
        unfold lb_check_channels_1
        refine Eq.trans (seqS_nx (ω' := ω) (ρ' := [.fz R, .fz (.int m), .ow (dSs es), .fz (.str n), .fz (.int s), .fz (.int t)]) (by rw [ifS_f t1])) ?_
        exact seqS_ex ((ifS_t t2).trans rfl)
theorem forS_exc {src : M (List D)} {T : TT1} {F : MS} {items : List D} {ρ ρ' : Rho} {ω ω1 ω' : List Cell} {x : Exc} (h1 : src ρ ω = some (.val items ω1)) (h2 : forGo T F items ρ ω1 = some (.exc x ρ' ω')) : forS src T F ρ ω = some (.exc x ρ' ω') := by
  unfold forS; rw [bindS_ev h1, h2]; rfl
section
variable {m : Int} {chs : List Row} (ω : List Cell)
theorem chan_ok (hr : ∀ r ∈ chs, r.1.length ≤ 1000 ∧ PySem.PyData.strOk r.1 = true) (hz : chs.length ≤ 1000) (h : chBad m [] chs = none) : g_check_channels [.lst (chs.map chD), .int m] ω = some (.val .non ω) := by
  obtain ⟨ρ', e⟩ := (chan_go (m := m) (R := .lst (chs.map chD)) ω chs [] .no .no .no hr (fun e h => by cases h) (by simpa using hz)).1 h
  refine fn_nx (ρ := ρ') rfl ?_
  unfold b_check_channels
  refine Eq.trans (seqS_nx (ρ' := [.fz (.lst (chs.map chD)), .fz (.int m), .ow [], .no, .no, .no]) (ω' := ω) rfl) ?_
  exact forS_nx rfl e
theorem chan_x {x : Exc} (hr : ∀ r ∈ chs, r.1.length ≤ 1000 ∧ PySem.PyData.strOk r.1 = true) (hz : chs.length ≤ 1000) (h : chBad m [] chs = some x) : g_check_channels [.lst (chs.map chD), .int m] ω = some (.exc x ω) := by
  obtain ⟨ρ', e⟩ := (chan_go (m := m) (R := .lst (chs.map chD)) ω chs [] .no .no .no hr (fun e h => by cases h) (by simpa using hz)).2 x h
  refine fn_ex (ρ := ρ') rfl ?_
  unfold b_check_channels
  refine Eq.trans (seqS_nx (ρ' := [.fz (.lst (chs.map chD)), .fz (.int m), .ow [], .no, .no, .no]) (ω' := ω) rfl) ?_
  exact forS_exc rfl e
end
/-! ### a program of stopped processes, with definitions -/
abbrev stopP : D := dPr "choice" [] 1 1
abbrev pwk (ω : List Cell) (chs : List Row) (ps : List D) (ks : List (Str × D)) : List Cell := ω ++ [Cell.obj "Program" (progF ps.length (chs.map chD) (ω.length + 1) ps), Cell.dic (kvN ks)]
theorem stop_names (ω : List Cell) (b : D) (κ : Nat) : g_check_names [stopP, b, .oid κ] ω = some (.val .non ω) := by
  show gr_check_names (7 + 1) _ _ = _
  rw [gs_check_names]
  refine fn_nx (ρ := startE N_check_names [stopP, b, .oid κ]) rfl ?_
  unfold b_check_names
  have t : (tst (bo eqD (uo (fldD ["Process"] "kind") (vW 0)) (M.pure (.str "choice")))) (startE N_check_names [stopP, b, .oid κ]) ω = some (.val true ω) :=
    tst_ev (bo_ev (x := .str "choice") (y := .str "choice") (ω1 := ω) (fld_ev (c := "Process") rfl rfl rfl) rfl rfl rfl (by rw [eqD_str (by decide +kernel) (by decide +kernel)]; rfl))
  refine Eq.trans (ifS_t t) ?_
  exact forS_nx (items := []) (ω1 := ω) (y_bind (a := .tup []) (ω1 := ω) (fld_ev (c := "Process") rfl rfl rfl) rfl) rfl
theorem nin_strs (x : Str) (ss : List Str) : notInD (.str x) (.tup (ss.map D.str)) = some (.bl !(ss.contains x)) := by
  have h := in_strs x ss
  unfold inD at h
  unfold notInD
  cases e : inB (.str x) (.tup (ss.map D.str)) with
  | none => rw [e] at h; cases h
  | some b => rw [e] at h; cases h; rfl
theorem opnd_x {x : Str} {ss : List Str} (ω : List Cell) (h : ss.contains x = false) : g_check_operand [.str x, .tup (dSs ss)] ω = some (.exc ⟨"NoName", [("name", .str x)]⟩ ω) := by
  refine fn_ex (ρ := startE N_check_operand [.str x, .tup (dSs ss)]) rfl ?_
  unfold b_check_operand
  have t : (andM (truM (uo (isiB "str") (vW 0))) (tst (bo notInD (vW 0) (vW 1)))) (startE N_check_operand [.str x, .tup (dSs ss)]) ω = some (.val (true && !(ss.contains x)) ω) :=
    andM_ev (truM_ev (uo_ev (x := .str x) (ω1 := ω) rfl rfl (isi_ss x))) (tst_ev (bo_ev (x := .str x) (y := .tup (dSs ss)) (ω1 := ω) rfl rfl rfl rfl (nin_strs x ss)))
  rw [h] at t
  rw [ifS_t t]
  rfl
abbrev offP (x : Str) : D := dPr "choice" [.tup [.str x, .int 0, .int 1, .int 5, .tup [], stopP]] 2 2
theorem off_names_x {x : Str} {ss : List Str} (ω : List Cell) (κ : Nat) (h : ss.contains x = false) : g_check_names [offP x, .tup (dSs ss), .oid κ] ω = some (.exc ⟨"NoName", [("name", .str x)]⟩ ω) := by
  show gr_check_names (7 + 1) _ _ = _
  rw [gs_check_names]
  refine fn_ex (ρ := (startE N_check_names [offP x, .tup (dSs ss), .oid κ]).set 3 (.fz (.str x)) |>.set 4 (.fz (.int 0)) |>.set 5 (.fz (.int 1)) |>.set 6 (.fz (.int 5)) |>.set 7 (.fz (.tup [])) |>.set 8 (.fz stopP)) rfl ?_
  unfold b_check_names
  have t : (tst (bo eqD (uo (fldD ["Process"] "kind") (vW 0)) (M.pure (.str "choice")))) (startE N_check_names [offP x, .tup (dSs ss), .oid κ]) ω = some (.val true ω) :=
    tst_ev (bo_ev (x := .str "choice") (y := .str "choice") (ω1 := ω) (fld_ev (c := "Process") rfl rfl rfl) rfl rfl rfl (by rw [eqD_str (by decide +kernel) (by decide +kernel)]; rfl))
  refine Eq.trans (ifS_t t) ?_
  refine forS_exc (items := [.tup [.str x, .int 0, .int 1, .int 5, .tup [], stopP]]) (ω1 := ω) (y_bind (a := .tup [.tup [.str x, .int 0, .int 1, .int 5, .tup [], stopP]]) (ω1 := ω) (fld_ev (c := "Process") rfl rfl rfl) rfl) ?_
  have h1 : lb_check_names_1 (gr_check_names 7) g_check_operand ((startE N_check_names [offP x, .tup (dSs ss), .oid κ]).set 3 (.fz (.str x)) |>.set 4 (.fz (.int 0)) |>.set 5 (.fz (.int 1)) |>.set 6 (.fz (.int 5)) |>.set 7 (.fz (.tup [])) |>.set 8 (.fz stopP)) ω = some (.exc ⟨"NoName", [("name", .str x)]⟩ ((startE N_check_names [offP x, .tup (dSs ss), .oid κ]).set 3 (.fz (.str x)) |>.set 4 (.fz (.int 0)) |>.set 5 (.fz (.int 1)) |>.set 6 (.fz (.int 5)) |>.set 7 (.fz (.tup [])) |>.set 8 (.fz stopP)) ω) := by
    unfold lb_check_names_1
    exact seqS_ex (exprS_ex (calM_ex (ds := [.str x, .tup (dSs ss)]) (ω1 := ω) rfl (opnd_x ω h)))
  have hT : (tupT 6 (consT (nmT 3) (consT (nmT 4) (consT (nmT 5) (consT (nmT 6) (consT (nmT 7) (consT (nmT 8) nilT))))))) (.tup [.str x, .int 0, .int 1, .int 5, .tup [], stopP]) (startE N_check_names [offP x, .tup (dSs ss), .oid κ]) ω = some ((startE N_check_names [offP x, .tup (dSs ss), .oid κ]).set 3 (.fz (.str x)) |>.set 4 (.fz (.int 0)) |>.set 5 (.fz (.int 1)) |>.set 6 (.fz (.int 5)) |>.set 7 (.fz (.tup [])) |>.set 8 (.fz stopP)) := rfl
  unfold forGo
  simp only [hT, h1]
section
variable {ω : List Cell} {b q : Nat} {chs : List Row} {ks : List (Str × D)}
theorem view_progk (ps : List D) : view (pwk ω chs ps ks) (.oid ω.length) = some (.obj "Program" (progF ps.length (chs.map chD) (ω.length + 1) ps)) := by
  have h : (pwk ω chs ps ks)[ω.length]? = some (Cell.obj "Program" (progF ps.length (chs.map chD) (ω.length + 1) ps)) := by
    rw [List.getElem?_append_right (Nat.le_refl _), Nat.sub_self]; rfl
  simp only [view, h]
theorem view_knownk (ps : List D) : view (pwk ω chs ps ks) (.oid (ω.length + 1)) = some (.dic (kvN ks)) := by
  have h : (pwk ω chs ps ks)[ω.length + 1]? = some (Cell.dic (kvN ks)) := by
    rw [List.getElem?_append_right (by omega), Nat.add_sub_cancel_left]; rfl
  simp only [view, h]
theorem sort_ev {f : M (List D)} {ss : List Str} {ρ : Rho} {w : List Cell} (h : f ρ w = some (.val (ss.map D.str) w)) (hz : ss.length < 64) : ((((f.bind fun ds => M.pure (.lst ds)).bind sortL).bind fun ds => M.pure (.lst ds)).bind itemsOf) ρ w = some (.val ((sortS ss).map D.str) w) := by
  have e : ((f.bind fun ds => M.pure (.lst ds)).bind sortL) ρ w = some (.val ((sortS ss).map D.str) w) := sortL_at (ss := ss) (x := .lst (ss.map D.str)) (ω' := w) (y_bind h rfl) rfl hz
  exact y_bind (a := .lst ((sortS ss).map D.str)) (ω1 := w) (y_bind e rfl) rfl
theorem end_names {n : Nat} (s4 : Sl) (bd : D) (hs : s4 = .fz bd) (w : List Cell) (κ : Nat) (hk : ∀ s5 s6 s7 s8 s9 : Sl, (uo (fldD ["Program"] "known") (vW 0)) (P3 (.oid ω.length) chs b (List.replicate n stopP) s4 s5 s6 s7 s8 s9) w = some (.val (.oid κ) w)) : ∀ (m : Nat) (s7 : Sl), ∃ t7, forGo (nmT 7) (lb_Program___init___2 g_check_names) (List.replicate m stopP) (P3 (.oid ω.length) chs b (List.replicate n stopP) s4 .no .no s7 .no .no) w = some (.nx (P3 (.oid ω.length) chs b (List.replicate n stopP) s4 .no .no t7 .no .no) w)
  | 0, s7 => ⟨s7, rfl⟩
  | m + 1, s7 => by
    obtain ⟨t7, e⟩ := end_names s4 bd hs w κ hk m (.fz stopP)
    refine ⟨t7, ?_⟩
    rw [List.replicate_succ]
    unfold forGo
    have h1 : nmT 7 stopP (P3 (.oid ω.length) chs b (List.replicate n stopP) s4 .no .no s7 .no .no) w = some (P3 (.oid ω.length) chs b (List.replicate n stopP) s4 .no .no (.fz stopP) .no .no) := rfl
    have h2 : lb_Program___init___2 g_check_names (P3 (.oid ω.length) chs b (List.replicate n stopP) s4 .no .no (.fz stopP) .no .no) w = some (.nx (P3 (.oid ω.length) chs b (List.replicate n stopP) s4 .no .no (.fz stopP) .no .no) w) := by
      unfold lb_Program___init___2
      subst hs
      exact exprS_ev (calM_ev (ds := [stopP, bd, .oid κ]) (ω1 := w) (cons_ev (d := stopP) (ω1 := w) rfl (cons_ev (d := bd) (ω1 := w) rfl (cons_ev (ω1 := w) (hk _ _ _ _ _) (ds := []) (ω2 := w) rfl))) (stop_names w bd κ))
    simp only [h1, h2]
    exact e
theorem prog_x {ps : List D} {x : Exc} (hn : 1 ≤ ps.length) (hn2 : ps.length ≤ 6) (hc : chs.length ≤ 8) (hb : ω[b]? = some (bookC q)) (hq : ω[q]? = some (Cell.dic (kvN ks))) (nd : (ks.map (·.1)).Nodup) (hz : ks.length ≤ 20) (hr : ∀ r ∈ chs, r.1.length ≤ 1000 ∧ PySem.PyData.strOk r.1 = true) (h : chBad ps.length [] chs = some x) :
    g_mk_Program [.oid ω.length, .lst (chs.map chD), .oid b, netD ps] (ω ++ [.obj "Program" []]) = some (.exc x (pwk ω chs ps ks)) := by
  refine fn_ex (ρ := P3 (.oid ω.length) chs b ps .no .no .no .no .no .no) rfl ?_
  refine Eq.trans (init_mid (ks := ks) (by omega) (by omega) hc hb hq nd (by omega)) ?_
  refine seqS_ex (exprS_ex (calM_ex (ds := [.lst (chs.map chD), .int ps.length]) (ω1 := pwk ω chs ps ks) (cons_ev (ω1 := pwk ω chs ps ks) (uo_ev (y_fz rfl) (view_progk _) (fldD_ev rfl rfl)) (cons_ev (ω1 := pwk ω chs ps ks) (uo_ev (y_fz rfl) (view_progk _) (fldD_ev rfl rfl)) (ds := []) rfl)) ?_))
  exact chan_x _ hr (by omega) h
noncomputable abbrev restP2 : MS := (seqS (forS ((((((uo (fldD ["Program"] "known") (vW 0)).bind listK).bind fun ds => M.pure (.lst ds)).bind sortL).bind fun ds => M.pure (.lst ds)).bind itemsOf) (nmT 5) (lb_Program___init___1 g_check_names))
  (seqS (forS ((uo (fldD ["Program"] "starts") (vW 0)).bind itemsOf) (nmT 7) (lb_Program___init___2 g_check_names))
  (exprS (calM g_check_endless (consM (uo (fldD ["Program"] "known") (vW 0)) (M.pure []))))))
abbrev nmsD (chs : List Row) : D := .tup (dSs (chs.map (·.1)))
/-- the channels are good: the names are left -/
theorem prog_mid {ps : List D} (hn : 1 ≤ ps.length) (hn2 : ps.length ≤ 6) (hc : chs.length ≤ 8) (hb : ω[b]? = some (bookC q)) (hq : ω[q]? = some (Cell.dic (kvN ks))) (nd : (ks.map (·.1)).Nodup) (hz : ks.length ≤ 20) (hr : ∀ r ∈ chs, r.1.length ≤ 1000 ∧ PySem.PyData.strOk r.1 = true) (h : chBad ps.length [] chs = none) :
    b_Program___init__ g_Book___getitem__ g_Net___getitem__ g_Net___len__ g_check_channels g_check_endless g_check_names (P3 (.oid ω.length) chs b ps .no .no .no .no .no .no) (ω ++ [.obj "Program" []]) = restP2 (P3 (.oid ω.length) chs b ps (.fz (nmsD chs)) .no .no .no .no .no) (pwk ω chs ps ks) := by
  have vp := view_progk (ω := ω) (chs := chs) (ks := ks) ps
  refine Eq.trans (init_mid (ks := ks) (by omega) (by omega) hc hb hq nd (by omega)) ?_
  show restP _ (pwk ω chs ps ks) = _
  generalize pwk ω chs ps ks = W at vp
  refine Eq.trans (seqS_nx (exprS_ev (calM_ev (ds := [.lst (chs.map chD), .int ps.length]) (ω1 := W) (cons_ev (ω1 := W) (uo_ev (y_fz rfl) vp (fldD_ev rfl rfl)) (cons_ev (ω1 := W) (uo_ev (y_fz rfl) vp (fldD_ev rfl rfl)) (ds := []) rfl)) (chan_ok W hr (by omega) h)))) ?_
  have hcm : cm_Program___init___3 (P3 (.oid ω.length) chs b ps .no .no .no .no .no .no) W = some (.val (dSs (chs.map (·.1))) W) := by
    unfold cm_Program___init___3
    rw [dSs, List.map_map]
    refine lcM_map (xs := chs) (enc := chD) (h := fun r => D.str r.1) (ω1 := W) (y_bind (a := .lst (chs.map chD)) (ω1 := W) (uo_ev (y_fz rfl) vp (fldD_ev rfl rfl)) items_lst) (by rw [sizeLine_eq]; omega) fun r hr => ?_
    exact ⟨_, rfl, bo_ev (x := chD r) (y := .int 0) (ω1 := W) rfl rfl rfl rfl (ixD_t0 _ _)⟩
  exact seqS_nx (setS_ev (uo_ev (x := .lst (dSs (chs.map (·.1)))) (ω1 := W) (y_bind hcm rfl) rfl rfl))
theorem prog_ok {n : Nat} (hn : 1 ≤ n) (hn2 : n ≤ 6) (hc : chs.length ≤ 8) (hb : ω[b]? = some (bookC q)) (hq : ω[q]? = some (Cell.dic (kvN []))) (hr : ∀ r ∈ chs, r.1.length ≤ 1000 ∧ PySem.PyData.strOk r.1 = true) (h : chBad n [] chs = none) :
    g_mk_Program [.oid ω.length, .lst (chs.map chD), .oid b, netD (List.replicate n stopP)] (ω ++ [.obj "Program" []]) = some (.val .non (pwk ω chs (List.replicate n stopP) [])) := by
  have hl : (List.replicate n stopP).length = n := List.length_replicate
  have vp := view_progk (ω := ω) (chs := chs) (ks := []) (List.replicate n stopP)
  have vk := view_knownk (ω := ω) (chs := chs) (ks := []) (List.replicate n stopP)
  have e0 := prog_mid (ω := ω) (b := b) (q := q) (chs := chs) (ks := []) (ps := List.replicate n stopP) (by omega) (by omega) hc hb hq List.nodup_nil (by decide) hr (by rw [hl]; exact h)
  generalize pwk ω chs (List.replicate n stopP) [] = W at vp vk e0 ⊢
  have hk : ∀ (s4 s5 s6 s7 s8 s9 : Sl), (uo (fldD ["Program"] "known") (vW 0)) (P3 (.oid ω.length) chs b (List.replicate n stopP) s4 s5 s6 s7 s8 s9) W = some (.val (.oid (ω.length + 1)) W) := fun s4 s5 s6 s7 s8 s9 => uo_ev (y_fz rfl) vp (fldD_ev rfl rfl)
  obtain ⟨t7, e7⟩ := end_names (n := n) (chs := chs) (b := b) (ω := ω) (.fz (nmsD chs)) _ rfl W (ω.length + 1) (hk _) n .no
  have sn : sortS ([] : List Str) = [] := List.eq_nil_of_length_eq_zero (by rw [(sortS_perm []).length_eq]; rfl)
  refine fn_nx (ρ := P3 (.oid ω.length) chs b (List.replicate n stopP) (.fz (nmsD chs)) .no .no t7 .no .no) rfl ?_
  refine Eq.trans e0 ?_
  refine Eq.trans (seqS_nx (forS_nx (ω1 := W) (sort_ev (ss := []) (listK_at (kvs := []) (hk _ _ _ _ _ _) vk) (by decide)) (by rw [sn]; rfl))) ?_
  refine Eq.trans (seqS_nx (forS_nx (items := List.replicate n stopP) (ω1 := W) (y_bind (a := .lst (List.replicate n stopP)) (ω1 := W) (uo_ev (y_fz rfl) vp (fldD_ev rfl rfl)) items_lst) e7)) ?_
  refine exprS_ev (calM_ev (ds := [.oid (ω.length + 1)]) (ω1 := W) (cons_ev (ω1 := W) (hk _ _ _ _ _ _) (ds := []) rfl) (d := .non) ?_)
  refine fn_nx (ρ := startE N_check_endless [.oid (ω.length + 1)]) rfl ?_
  unfold b_check_endless
  exact forS_nx (ω1 := W) (sort_ev (ss := []) (listK_at (kvs := []) (y_fz rfl) vk) (by decide)) (by rw [sn]; rfl)
theorem prog_lost {ps : List D} {g x : Str} (hn : 1 ≤ ps.length) (hn2 : ps.length ≤ 6) (hc : chs.length ≤ 8) (hb : ω[b]? = some (bookC q)) (hq : ω[q]? = some (Cell.dic (kvN [(g, dDef [] (offP x))]))) (hr : ∀ r ∈ chs, r.1.length ≤ 1000 ∧ PySem.PyData.strOk r.1 = true) (h : chBad ps.length [] chs = none) (hx : (chs.map (·.1)).contains x = false) :
    g_mk_Program [.oid ω.length, .lst (chs.map chD), .oid b, netD ps] (ω ++ [.obj "Program" []]) = some (.exc ⟨"NoName", [("name", .str x)]⟩ (pwk ω chs ps [(g, dDef [] (offP x))])) := by
  have vp := view_progk (ω := ω) (chs := chs) (ks := [(g, dDef [] (offP x))]) ps
  have vk := view_knownk (ω := ω) (chs := chs) (ks := [(g, dDef [] (offP x))]) ps
  have e0 := prog_mid (ω := ω) (b := b) (q := q) (chs := chs) (ks := [(g, dDef [] (offP x))]) (ps := ps) (by omega) (by omega) hc hb hq (List.nodup_cons.mpr ⟨fun z => (by cases z), List.nodup_nil⟩) (by simp) hr h
  generalize pwk ω chs ps [(g, dDef [] (offP x))] = W at vp vk e0 ⊢
  have hk : ∀ (s4 s5 s6 s7 s8 s9 : Sl), (uo (fldD ["Program"] "known") (vW 0)) (P3 (.oid ω.length) chs b ps s4 s5 s6 s7 s8 s9) W = some (.val (.oid (ω.length + 1)) W) := fun s4 s5 s6 s7 s8 s9 => uo_ev (y_fz rfl) vp (fldD_ev rfl rfl)
  have sn : sortS [g] = [g] := List.perm_singleton.mp (sortS_perm [g])
  refine fn_ex (ρ := P3 (.oid ω.length) chs b ps (.fz (nmsD chs)) (.fz (.str g)) (.fz (dDef [] (offP x))) .no .no .no) rfl ?_
  refine Eq.trans e0 ?_
  refine seqS_ex (forS_exc (ω1 := W) (sort_ev (ss := [g]) (listK_at (kvs := kvN [(g, dDef [] (offP x))]) (hk _ _ _ _ _ _) vk) (show 1 < 64 by decide)) ?_)
  rw [sn]
  have hb1 : lb_Program___init___1 g_check_names (P3 (.oid ω.length) chs b ps (.fz (nmsD chs)) (.fz (.str g)) .no .no .no .no) W = some (.exc ⟨"NoName", [("name", .str x)]⟩ (P3 (.oid ω.length) chs b ps (.fz (nmsD chs)) (.fz (.str g)) (.fz (dDef [] (offP x))) .no .no .no) W) := by
    unfold lb_Program___init___1
    have hv : valD (kvN [(g, dDef [] (offP x))]) (.inr g) = some (dDef [] (offP x)) := val_kvN (List.nodup_cons.mpr ⟨fun z => (by cases z), List.nodup_nil⟩) (List.mem_singleton.mpr rfl)
    refine Eq.trans (seqS_nx (ρ' := P3 (.oid ω.length) chs b ps (.fz (nmsD chs)) (.fz (.str g)) (.fz (dDef [] (offP x))) .no .no .no) (ω' := W) (setS_ev (bo_ev (x := .oid (ω.length + 1)) (y := .str g) (ω1 := W) (hk _ _ _ _ _ _) rfl vk rfl hv))) ?_
    refine exprS_ex (calM_ex (ds := [offP x, nmsD chs, .oid (ω.length + 1)]) (ω1 := W) ?_ (off_names_x W _ hx))
    refine cons_ev (ω1 := W) (fld_ev (c := "Definition") rfl rfl rfl) (cons_ev (d := nmsD chs) (ω1 := W) ?_ (cons_ev (ω1 := W) (hk _ _ _ _ _ _) (ds := []) rfl))
    refine bo_ev (x := nmsD chs) (y := .tup []) (ω1 := W) rfl (fld_ev (c := "Definition") (fl := [("params", .tup (dSs [])), ("body", offP x)]) rfl rfl rfl) rfl rfl ?_
    show (if _ then some (D.tup (dSs (chs.map (fun r : Row => r.1)) ++ [])) else none) = _
    rw [List.append_nil, if_pos (by rw [sizeLine_eq]; simp; omega)]
  show forGo (nmT 5) _ [.str g] _ _ = _
  unfold forGo
  have hT : nmT 5 (.str g) (P3 (.oid ω.length) chs b ps (.fz (nmsD chs)) .no .no .no .no .no) W = some (P3 (.oid ω.length) chs b ps (.fz (nmsD chs)) (.fz (.str g)) .no .no .no .no) := rfl
  simp only [hT, hb1]
end
end L11
namespace L11
open PySem L2 DL
local macro_rules
  | `(tactic| fail "as") => `(tactic| focus first
    | (simp only [tupT, lstT, consT, nilT, nmT, view, List.length_cons, List.length_nil, Nat.reduceAdd, if_true, List.set_cons_zero, List.set_cons_succ]; exact rfl)
    | exact rfl)
local macro_rules
  | `(tactic| fail "fi") => `(tactic| focus first
    | with_reducible assumption
    | exact rfl
    | (apply fine_of; (simp only [DL.plain, plainL, Bool.and_true, Bool.true_and]; first | done | decide +kernel); (simp only [dep, depL]; first | done | decide | omega))
    | (apply fine_of; (simp [DL.plain, plainL, *]; done); (simp only [dep, depL]; first | done | decide | omega)))
local macro_rules
  | `(tactic| fail "sd") => `(tactic| focus first
    | with_reducible assumption
    | with_reducible exact And.left (by assumption)
    | omega
    | decide
    | (simp only [List.length_cons, List.length_nil, List.length_append, List.length_map, List.length_range]; omega)
    | (simp; done)
    | (simp; omega)
    | (decide +kernel))
local macro_rules
  | `(tactic| fail "vw") => `(tactic| focus first
    | with_reducible assumption
    | exact rfl)
local macro_rules
  | `(tactic| fail "bt") => `(tactic| focus first
    | with_reducible assumption
    | with_reducible rfl
    | (exact decide_eq_true (by first | with_reducible assumption | omega))
    | (exact decide_eq_false (by first | with_reducible assumption | omega))
    | (simp only [Bool.and_eq_true, Bool.or_eq_true, Bool.not_eq_true', Bool.not_eq_false', Bool.and_eq_false_iff, Bool.or_eq_false_iff, decide_eq_true_eq, decide_eq_false_iff_not, Bool.not_true, Bool.not_false]; omega)
    | exact rfl
    | (simp [*]; done)
    | (decide +kernel))
local macro_rules
  | `(tactic| fail "op") => `(tactic| focus first
    | with_reducible assumption
    | with_reducible exact addD_int _ _
    | with_reducible exact subD_int _ _
    | with_reducible exact ltD_d _ _
    | with_reducible exact gtD_d _ _
    | with_reducible exact leD_d _ _
    | with_reducible exact geD_d _ _
    | with_reducible exact eqD_int _ _
    | with_reducible exact neD_int _ _
    | with_reducible exact lenD_lstM
    | with_reducible exact lenD_tupM
    | with_reducible exact intD_int _
    | with_reducible exact intD_bl _
    | ((with_reducible apply ixD_ints); fail "sd"; fail "sd")
    | ((with_reducible apply ixD_sgn); fail "sd"; fail "sd"; fail "sd")
    | ((with_reducible apply modD_int); fail "sd")
    | ((with_reducible apply mulD_l); fail "sd"; fail "sd")
    | ((with_reducible apply mulD_r); fail "sd"; fail "sd")
    | ((with_reducible apply fdivD_r); fail "sd"; fail "sd")
    | ((with_reducible apply eqD_str); fail "sd"; fail "sd")
    | ((with_reducible apply neD_str); fail "sd"; fail "sd")
    | ((with_reducible apply fldD_ev); exact rfl; exact rfl)
    | ((with_reducible apply neD_sameR); exact rfl; fail "fi")
    | ((with_reducible apply neD_sameL); exact rfl; fail "fi")
    | ((with_reducible apply eqD_sameR); exact rfl; fail "fi")
    | ((with_reducible apply eqD_sameL); exact rfl; fail "fi")
    | ((with_reducible apply mulSD_ev); fail "sd"; fail "sd"; fail "sd"; fail "sd")
    | with_reducible exact strD_str _
    | ((with_reducible apply strD_int); fail "sd")
    | ((with_reducible apply joinD_lst); fail "sd")
    | ((with_reducible apply addD_lstL); fail "sd")
    | ((with_reducible apply addD_tup); fail "sd")
    | ((with_reducible apply addD_strL); fail "sd")
    | exact rfl)
local macro_rules
  | `(tactic| fail "cl") => `(tactic| focus with_reducible assumption)
local macro_rules
  | `(tactic| fail "ev") => `(tactic| focus first
    | with_reducible assumption
    | exact rfl)
local macro_rules
  | `(tactic| fail "ev") => `(tactic| focus first
    | with_reducible assumption
    | with_reducible exact pure_ev
    | ((with_reducible apply y_fF); exact rfl)
    | ((with_reducible apply y_fz); exact rfl)
    | ((with_reducible apply y_ow); exact rfl)
    | ((with_reducible apply bo_ev); fail "ev"; fail "ev"; fail "vw"; fail "vw"; fail "op")
    | ((with_reducible apply uo_ev); fail "ev"; fail "vw"; fail "op")
    | ((with_reducible apply tst_ev); fail "ev")
    | ((with_reducible apply truM_ev); fail "ev")
    | ((with_reducible apply y_truT); fail "ev")
    | ((with_reducible apply y_truL); fail "ev")
    | ((with_reducible apply cons_ev); fail "ev"; fail "ev")
    | ((with_reducible apply calM_ev); fail "ev"; fail "cl")
    | ((with_reducible apply y_lenOk); fail "sd")
    | ((with_reducible apply y_mkTup); fail "sd")
    | ((with_reducible apply y_mkLst); fail "sd")
    | ((with_reducible apply rng1_nat); fail "sd")
    | ((with_reducible apply rng1_int); fail "sd"; fail "sd")
    | ((with_reducible apply notM_ev); fail "ev")
    | ((with_reducible apply notV_ev); fail "ev")
    | ((with_reducible apply orM_ev); fail "ev"; fail "ev")
    | ((with_reducible apply andM_ev); fail "ev"; fail "ev")
    | ((with_reducible apply orV_ev); fail "ev"; fail "ev")
    | ((with_reducible apply andV_ev); fail "ev"; fail "ev")
    | ((with_reducible apply y_orT); fail "ev"; fail "bt")
    | ((with_reducible apply y_orF); fail "ev"; fail "bt"; fail "ev")
    | ((with_reducible apply y_andF); fail "ev"; fail "bt")
    | ((with_reducible apply y_andT); fail "ev"; fail "bt"; fail "ev")
    | ((with_reducible apply y_orVT); fail "ev"; fail "bt")
    | ((with_reducible apply y_orVF); fail "ev"; fail "bt"; fail "ev")
    | ((with_reducible apply y_andVF); fail "ev"; fail "bt")
    | ((with_reducible apply y_andVT); fail "ev"; fail "bt"; fail "ev")
    | ((with_reducible apply y_ifT); fail "ev"; fail "bt"; fail "ev")
    | ((with_reducible apply y_ifF); fail "ev"; fail "bt"; fail "ev")
    | with_reducible exact asI_ev
    | with_reducible exact items_lst
    | with_reducible exact items_tup
    | ((with_reducible apply sl_lst_to); fail "sd")
    | ((with_reducible apply sl_lst_from); fail "sd")
    | ((with_reducible apply sl_tup_to); fail "sd")
    | ((with_reducible apply sl_tup_from); fail "sd")
    | ((with_reducible apply sl_lst_two); fail "sd"; fail "sd")
    | ((with_reducible apply binO_oo); fail "ev"; fail "ev"; fail "cl")
    | ((with_reducible apply cmpO_oo); fail "ev"; fail "ev"; fail "cl")
    | ((with_reducible apply cmpN_oo); fail "ev"; fail "ev"; fail "cl")
    | ((with_reducible apply methM_o); fail "ev"; exact rfl; fail "ev"; fail "cl")
    | ((with_reducible apply methM_ev); fail "ev"; fail "vw"; exact rfl; exact rfl; fail "ev"; fail "cl")
    | ((with_reducible apply y_bind); fail "ev"; fail "ev"))
local macro_rules
  | `(tactic| fail "rs") => `(tactic| focus (first | (simp only [List.set_cons_zero, List.set_cons_succ]; done) | (simp only [List.set_cons_zero, List.set_cons_succ]; exact rfl) | exact rfl))
local macro_rules
  | `(tactic| fail "st") => `(tactic| first
    | (with_reducible apply z_asc)
    | (with_reducible apply z_skp)
    | ((with_reducible apply z_frzOS); exact rfl; fail "rs")
    | ((with_reducible apply z_frzFS); exact rfl)
    | ((with_reducible apply z_frzO); exact rfl; fail "rs")
    | ((with_reducible apply z_frzF); exact rfl)
    | ((with_reducible apply z_set); fail "ev"; fail "rs")
    | ((with_reducible apply z_setO); fail "ev"; fail "rs")
    | ((with_reducible apply z_app); exact rfl; fail "ev"; fail "sd"; fail "rs")
    | ((with_reducible apply z_ext); exact rfl; fail "ev"; fail "vw"; fail "sd"; fail "rs")
    | ((with_reducible apply z_asg); fail "ev"; fail "as")
    | ((with_reducible apply z_exp); fail "ev")
    | ((with_reducible apply z_ret); fail "ev"; first | exact rfl | skip)
    | ((with_reducible apply z_retR); fail "ev"; first | exact rfl | skip)
    | ((with_reducible apply z_rai); fail "ev"; exact rfl)
    | ((with_reducible apply z_raiR); fail "ev"; exact rfl)
    | ((with_reducible apply z_if); fail "ev"; first | ((with_reducible apply z_ct); fail "bt") | ((with_reducible apply z_cf); fail "bt") | skip)
    | ((with_reducible apply z_ifR); fail "ev"; first | ((with_reducible apply z_ctR); fail "bt") | ((with_reducible apply z_cfR); fail "bt") | skip)
    | ((with_reducible apply z_ct); fail "bt")
    | ((with_reducible apply z_cf); fail "bt")
    | ((with_reducible apply z_ctR); fail "bt")
    | ((with_reducible apply z_cfR); fail "bt")
    | ((with_reducible apply z_for); fail "ev"; first | with_reducible assumption | assumption)
    | ((with_reducible apply e_for); fail "ev"; first | with_reducible assumption | assumption)
    | ((with_reducible apply e_set); fail "ev"; fail "rs")
    | ((with_reducible apply e_setO); fail "ev"; fail "rs")
    | ((with_reducible apply e_app); exact rfl; fail "ev"; fail "sd"; fail "rs")
    | ((with_reducible apply e_ext); exact rfl; fail "ev"; fail "vw"; fail "sd"; fail "rs")
    | ((with_reducible apply exprS_ev); fail "ev")
    | ((with_reducible apply asgS_ev); fail "ev"; fail "as")
    | ((with_reducible apply z_end); first | with_reducible exact rfl | exact rfl))
local macro_rules
  | `(tactic| fail "run") => `(tactic| (fail "st"; repeat fail "st"))
local macro_rules
  | `(tactic| fail "ex") => `(tactic| repeat (with_reducible apply Exists.intro))
local macro_rules
  | `(tactic| fail "se") => `(tactic| simp only [startE, List.map_cons, List.map_nil, List.length_cons, List.length_nil, Nat.reduceAdd, Nat.reduceSub, Nat.sub_self, List.replicate_succ, List.replicate_zero, List.cons_append, List.nil_append, List.append_nil])
local macro_rules
  | `(tactic| fail "ev") => `(tactic| focus first
    | ((with_reducible apply inO_at); fail "ev"; fail "ev"; fail "vw"; exact rfl; fail "cl"; exact rfl)
    | ((with_reducible apply lenO_at); fail "ev"; fail "vw"; exact rfl; fail "cl"; fail "sd"; fail "sd")
    | ((with_reducible apply ixO_at); fail "ev"; fail "ev"; fail "vw"; exact rfl; fail "cl")
    | ((with_reducible apply newS_at); fail "ev")
    | ((with_reducible apply sortL_at); fail "ev"; fail "vw"; fail "sd")
    | ((with_reducible apply listK_at); fail "ev"; fail "vw"))
/-! ### the drawn channels -/
abbrev namesL : List Str := ["a", "b", "c", "d", "e1", "f2", "g", "abcdefgh", "i", "j", "", "A", "put", "abcdefghi", "a b", "1a"]
abbrev badL : List Str := ["", "A", "put", "abcdefghi", "a b", "1a"]
theorem namesL_ok : ∀ x ∈ namesL, x.length ≤ 9 ∧ PySem.PyData.strOk x = true ∧ nameB x = !(decide (x ∈ badL)) ∧ (x == "lost") = false := by decide +kernel
theorem badL_ok : ∀ x ∈ badL, PySem.PyData.strOk x = true := by decide +kernel
theorem name_at {i : Int} (h0 : 0 ≤ i) (h : i < 16) : ∃ x ∈ namesL, ixD (.lst (dSs namesL)) (.int i) = some (.str x) := by
  have h' : i.toNat < namesL.length := by show i.toNat < 16; omega
  refine ⟨namesL[i.toNat], List.getElem_mem h', ?_⟩
  exact ixD_lstI h0 (by rw [dSs, List.getElem?_map, List.getElem?_eq_getElem h']; rfl)
theorem max_ev {mm : Int} (h0 : 0 ≤ mm) (h : mm < 7) : ∃ m : Int, 0 < m ∧ maxLD (.lst [.int mm, .int 1]) = some (.int m) := by
  have : mm = 0 ∨ mm = 1 ∨ mm = 2 ∨ mm = 3 ∨ mm = 4 ∨ mm = 5 ∨ mm = 6 := by omega
  rcases this with rfl | rfl | rfl | rfl | rfl | rfl | rfl
  · exact ⟨1, by decide, rfl⟩
  · exact ⟨1, by decide, rfl⟩
  · exact ⟨2, by decide, rfl⟩
  · exact ⟨3, by decide, rfl⟩
  · exact ⟨4, by decide, rfl⟩
  · exact ⟨5, by decide, rfl⟩
  · exact ⟨6, by decide, rfl⟩
section
variable {xs : List Int} {mm : Int}
abbrev clE (xs : List Int) (mm : Int) (cs : List D) (k : Nat) (q5 q6 q7 : Sl) : Rho := [.fz (dInts xs), .fz (.int mm), .fz (.lst (dSs namesL)), .ow cs, .fz (.int (0 + (k : Nat))), q5, q6, q7]
/-- a number of the row -/
theorem num_ev (hl : xs.length = 31) {k : Nat} (hk : k < 10) {c : Int} (c0 : 1 ≤ c) (c1 : c ≤ 3) (cs : List D) (q5 q6 q7 : Sl) (ω : List Cell) :
    ∃ v : Int, (bo ixD (vW 0) (bo addD (bo mulD (M.pure (.int 3)) (vW 4)) (M.pure (.int c)))) (clE xs mm cs k q5 q6 q7) ω = some (.val (.int v) ω) ∧ (∀ (q5 q6 q7 : Sl), (bo ixD (vW 0) (bo addD (bo mulD (M.pure (.int 3)) (vW 4)) (M.pure (.int c)))) (clE xs mm cs k q5 q6 q7) ω = some (.val (.int v) ω)) := by
  have e : ∀ q5 q6 q7 : Sl, (bo ixD (vW 0) (bo addD (bo mulD (M.pure (.int 3)) (vW 4)) (M.pure (.int c)))) (clE xs mm cs k q5 q6 q7) ω = some (.val (.int (xs.getD (3 * (0 + (k : Nat) : Int) + c).toNat 0)) ω) := fun q5 q6 q7 =>
    bo_ev (x := dInts xs) (y := .int (3 * (0 + (k : Nat) : Int) + c)) (ω1 := ω) rfl (bo_ev (x := .int (3 * (0 + (k : Nat) : Int))) (y := .int c) (ω1 := ω) (bo_ev (x := .int 3) (y := .int (0 + (k : Nat))) (ω1 := ω) rfl rfl rfl rfl (mulD_l (by decide) (by decide))) rfl rfl rfl (addD_int _ _)) rfl rfl (ixD_ints (by omega) (by omega))
  exact ⟨_, e q5 q6 q7, e⟩
theorem c_turn (hl : xs.length = 31) (h0 : 0 ≤ mm) (hM : mm < 7) {k : Nat} (hk : k < 10) {chs : List Row} (hc : chs.length ≤ 100) (q5 q6 q7 : Sl) (ω : List Cell) :
    ∃ (r : Row) (p5 p6 p7 : Sl), r.1 ∈ namesL ∧ lb__law_channels_1 (clE xs mm (chs.map chD) k q5 q6 q7) ω = some (.nx (clE xs mm ((chs ++ [r]).map chD) k p5 p6 p7) ω) := by
  obtain ⟨a, -, ha⟩ := num_ev (xs := xs) (mm := mm) hl hk (c := 1) (by decide) (by decide) (chs.map chD) q5 q6 q7 ω
  obtain ⟨b, -, hb⟩ := num_ev (xs := xs) (mm := mm) hl hk (c := 2) (by decide) (by decide) (chs.map chD) q5 q6 q7 ω
  obtain ⟨c, -, hc3⟩ := num_ev (xs := xs) (mm := mm) hl hk (c := 3) (by decide) (by decide) (chs.map chD) q5 q6 q7 ω
  obtain ⟨m, hm, em⟩ := max_ev h0 hM
  have dv : ∀ {f : M D} {v d e : Int} {ρ : Rho}, f ρ ω = some (.val (.int v) ω) → 0 < d → d < 1000 → 0 < e → (bo modD (bo fdivD f (M.pure (.int d))) (M.pure (.int e))) ρ ω = some (.val (.int (v / d % e)) ω) := fun h h1 h2 h3 =>
    bo_ev (y := .int _) (ω1 := ω) (bo_ev (y := .int _) (ω1 := ω) h rfl rfl rfl (fdivD_r h1 (by omega))) rfl rfl rfl (modD_int h3)
  obtain ⟨n1, hn1, en1⟩ := name_at (i := a % 10) (Int.emod_nonneg _ (by decide)) (by have := Int.emod_lt_of_pos a (show (0 : Int) < 10 by decide); omega)
  obtain ⟨n2, hn2, en2⟩ := name_at (i := 10 + a / 60 % 6) (by have := Int.emod_nonneg (a / 60) (show (6 : Int) ≠ 0 by decide); omega) (by have := Int.emod_lt_of_pos (a / 60) (show (0 : Int) < 6 by decide); omega)
  obtain ⟨n3, hn3, en3⟩ := name_at (i := 0 + (k : Nat)) (by omega) (by omega)
  -- the name
  have s1 : setS 5 (bo ixD (vW 2) (bo modD (uo intD (bo ixD (vW 0) (bo addD (bo mulD (M.pure (.int 3)) (vW 4)) (M.pure (.int 1))))) (M.pure (.int 10)))) (clE xs mm (chs.map chD) k q5 q6 q7) ω = some (.nx (clE xs mm (chs.map chD) k (.fz (.str n1)) q6 q7) ω) :=
    setS_ev (bo_ev (x := .lst (dSs namesL)) (y := .int (a % 10)) (ω1 := ω) rfl (bo_ev (x := .int a) (y := .int 10) (ω1 := ω) (uo_ev (x := .int a) (ω1 := ω) (ha _ _ _) rfl rfl) rfl rfl rfl (modD_int (by decide))) rfl rfl en1)
  have t1 : (tst (bo eqD (bo modD (bo fdivD (bo ixD (vW 0) (bo addD (bo mulD (M.pure (.int 3)) (vW 4)) (M.pure (.int 1)))) (M.pure (.int 10))) (M.pure (.int 6))) (M.pure (.int 0)))) (clE xs mm (chs.map chD) k (.fz (.str n1)) q6 q7) ω = some (.val (decide (a / 10 % 6 = 0)) ω) :=
    tst_ev (bo_ev (x := .int (a / 10 % 6)) (y := .int 0) (ω1 := ω) (dv (ha _ _ _) (by decide) (by decide) (by decide)) rfl rfl rfl (eqD_int _ _))
  have t2 : (tst (bo ltD (bo modD (bo fdivD (bo ixD (vW 0) (bo addD (bo mulD (M.pure (.int 3)) (vW 4)) (M.pure (.int 1)))) (M.pure (.int 10))) (M.pure (.int 6))) (M.pure (.int 5)))) (clE xs mm (chs.map chD) k (.fz (.str n1)) q6 q7) ω = some (.val (decide (a / 10 % 6 < 5)) ω) :=
    tst_ev (bo_ev (x := .int (a / 10 % 6)) (y := .int 5) (ω1 := ω) (dv (ha _ _ _) (by decide) (by decide) (by decide)) rfl rfl rfl (ltD_d _ _))
  obtain ⟨n, hn, s2⟩ : ∃ n, n ∈ namesL ∧ (ifS (tst (bo eqD (bo modD (bo fdivD (bo ixD (vW 0) (bo addD (bo mulD (M.pure (.int 3)) (vW 4)) (M.pure (.int 1)))) (M.pure (.int 10))) (M.pure (.int 6))) (M.pure (.int 0)))) (setS 5 (bo ixD (vW 2) (bo addD (M.pure (.int 10)) (bo modD (bo fdivD (bo ixD (vW 0) (bo addD (bo mulD (M.pure (.int 3)) (vW 4)) (M.pure (.int 1)))) (M.pure (.int 60))) (M.pure (.int 6)))))) (ifS (tst (bo ltD (bo modD (bo fdivD (bo ixD (vW 0) (bo addD (bo mulD (M.pure (.int 3)) (vW 4)) (M.pure (.int 1)))) (M.pure (.int 10))) (M.pure (.int 6))) (M.pure (.int 5)))) (setS 5 (bo ixD (vW 2) (vW 4))) (fun ρ ω => some (.nx ρ ω)))) (clE xs mm (chs.map chD) k (.fz (.str n1)) q6 q7) ω = some (.nx (clE xs mm (chs.map chD) k (.fz (.str n)) q6 q7) ω) := by
    by_cases h1 : a / 10 % 6 = 0
    · rw [decide_eq_true h1] at t1
      refine ⟨n2, hn2, (ifS_t t1).trans ?_⟩
      exact setS_ev (bo_ev (x := .lst (dSs namesL)) (y := .int (10 + a / 60 % 6)) (ω1 := ω) rfl (bo_ev (x := .int 10) (y := .int (a / 60 % 6)) (ω1 := ω) rfl (dv (ha _ _ _) (by decide) (by decide) (by decide)) rfl rfl (addD_int _ _)) rfl rfl en2)
    · rw [decide_eq_false h1] at t1
      by_cases h2 : a / 10 % 6 < 5
      · rw [decide_eq_true h2] at t2
        refine ⟨n3, hn3, (ifS_f t1).trans ((ifS_t t2).trans ?_)⟩
        exact setS_ev (bo_ev (x := .lst (dSs namesL)) (y := .int (0 + (k : Nat))) (ω1 := ω) rfl rfl rfl rfl en3)
      · rw [decide_eq_false h2] at t2
        exact ⟨n1, hn1, (ifS_f t1).trans (ifS_f t2)⟩
  -- the seats
  have s3 : setS 6 (bo addD (M.pure (.int 1)) (bo modD (uo intD (bo ixD (vW 0) (bo addD (bo mulD (M.pure (.int 3)) (vW 4)) (M.pure (.int 2))))) (M.pure (.int 4)))) (clE xs mm (chs.map chD) k (.fz (.str n)) q6 q7) ω = some (.nx (clE xs mm (chs.map chD) k (.fz (.str n)) (.fz (.int (1 + b % 4))) q7) ω) :=
    setS_ev (bo_ev (x := .int 1) (y := .int (b % 4)) (ω1 := ω) rfl (bo_ev (x := .int b) (y := .int 4) (ω1 := ω) (uo_ev (x := .int b) (ω1 := ω) (hb _ _ _) rfl rfl) rfl rfl rfl (modD_int (by decide))) rfl rfl (addD_int _ _))
  obtain ⟨s, s4⟩ : ∃ s : Int, (ifS (tst (bo eqD (bo modD (bo fdivD (bo ixD (vW 0) (bo addD (bo mulD (M.pure (.int 3)) (vW 4)) (M.pure (.int 2)))) (M.pure (.int 4))) (M.pure (.int 8))) (M.pure (.int 0)))) (setS 6 (bo subD (bo modD (bo fdivD (bo ixD (vW 0) (bo addD (bo mulD (M.pure (.int 3)) (vW 4)) (M.pure (.int 2)))) (M.pure (.int 32))) (M.pure (.int 8))) (M.pure (.int 1)))) (fun ρ ω => some (.nx ρ ω))) (clE xs mm (chs.map chD) k (.fz (.str n)) (.fz (.int (1 + b % 4))) q7) ω = some (.nx (clE xs mm (chs.map chD) k (.fz (.str n)) (.fz (.int s)) q7) ω) := by
    have t : (tst (bo eqD (bo modD (bo fdivD (bo ixD (vW 0) (bo addD (bo mulD (M.pure (.int 3)) (vW 4)) (M.pure (.int 2)))) (M.pure (.int 4))) (M.pure (.int 8))) (M.pure (.int 0)))) (clE xs mm (chs.map chD) k (.fz (.str n)) (.fz (.int (1 + b % 4))) q7) ω = some (.val (decide (b / 4 % 8 = 0)) ω) :=
      tst_ev (bo_ev (x := .int (b / 4 % 8)) (y := .int 0) (ω1 := ω) (dv (hb _ _ _) (by decide) (by decide) (by decide)) rfl rfl rfl (eqD_int _ _))
    by_cases h1 : b / 4 % 8 = 0
    · rw [decide_eq_true h1] at t
      exact ⟨b / 32 % 8 - 1, (ifS_t t).trans (setS_ev (bo_ev (x := .int (b / 32 % 8)) (y := .int 1) (ω1 := ω) (dv (hb _ _ _) (by decide) (by decide) (by decide)) rfl rfl rfl (subD_int _ _)))⟩
    · rw [decide_eq_false h1] at t
      exact ⟨1 + b % 4, ifS_f t⟩
  -- the machine
  have s5 : setS 7 (bo modD (uo intD (bo ixD (vW 0) (bo addD (bo mulD (M.pure (.int 3)) (vW 4)) (M.pure (.int 3))))) (uo maxLD (((consM (vF 1) (consM (M.pure (.int 1)) (M.pure []))).bind lenOk).bind fun ds => M.pure (.lst ds)))) (clE xs mm (chs.map chD) k (.fz (.str n)) (.fz (.int s)) q7) ω = some (.nx (clE xs mm (chs.map chD) k (.fz (.str n)) (.fz (.int s)) (.fz (.int (c % m)))) ω) :=
    setS_ev (bo_ev (x := .int c) (y := .int m) (ω1 := ω) (uo_ev (x := .int c) (ω1 := ω) (hc3 _ _ _) rfl rfl) (uo_ev (x := .lst [.int mm, .int 1]) (ω1 := ω) rfl rfl em) rfl rfl (modD_int hm))
  obtain ⟨t, s6⟩ : ∃ t : Int, (ifS (tst (bo eqD (bo modD (bo fdivD (bo ixD (vW 0) (bo addD (bo mulD (M.pure (.int 3)) (vW 4)) (M.pure (.int 3)))) (M.pure (.int 6))) (M.pure (.int 8))) (M.pure (.int 0)))) (setS 7 (bo subD (bo modD (bo fdivD (bo ixD (vW 0) (bo addD (bo mulD (M.pure (.int 3)) (vW 4)) (M.pure (.int 3)))) (M.pure (.int 48))) (M.pure (.int 9))) (M.pure (.int 1)))) (fun ρ ω => some (.nx ρ ω))) (clE xs mm (chs.map chD) k (.fz (.str n)) (.fz (.int s)) (.fz (.int (c % m)))) ω = some (.nx (clE xs mm (chs.map chD) k (.fz (.str n)) (.fz (.int s)) (.fz (.int t))) ω) := by
    have t : (tst (bo eqD (bo modD (bo fdivD (bo ixD (vW 0) (bo addD (bo mulD (M.pure (.int 3)) (vW 4)) (M.pure (.int 3)))) (M.pure (.int 6))) (M.pure (.int 8))) (M.pure (.int 0)))) (clE xs mm (chs.map chD) k (.fz (.str n)) (.fz (.int s)) (.fz (.int (c % m)))) ω = some (.val (decide (c / 6 % 8 = 0)) ω) :=
      tst_ev (bo_ev (x := .int (c / 6 % 8)) (y := .int 0) (ω1 := ω) (dv (hc3 _ _ _) (by decide) (by decide) (by decide)) rfl rfl rfl (eqD_int _ _))
    by_cases h1 : c / 6 % 8 = 0
    · rw [decide_eq_true h1] at t
      exact ⟨c / 48 % 9 - 1, (ifS_t t).trans (setS_ev (bo_ev (x := .int (c / 48 % 9)) (y := .int 1) (ω1 := ω) (dv (hc3 _ _ _) (by decide) (by decide) (by decide)) rfl rfl rfl (subD_int _ _)))⟩
    · rw [decide_eq_false h1] at t
      exact ⟨c % m, ifS_f t⟩
  refine ⟨(n, s, t), .fz (.str n), .fz (.int s), .fz (.int t), hn, ?_⟩
  unfold lb__law_channels_1
  refine Eq.trans (seqS_nx s1) ?_
  refine Eq.trans (seqS_nx s2) ?_
  refine Eq.trans (seqS_nx s3) ?_
  refine Eq.trans (seqS_nx s4) ?_
  refine Eq.trans (seqS_nx s5) ?_
  refine Eq.trans (seqS_nx s6) ?_
  refine Eq.trans (appS_ev (es := chs.map chD) (d := chD (n, s, t)) (ω' := ω) rfl (tup_ev (ds := [.str n, .int s, .int t]) (ω1 := ω) rfl (by simp)) (by rw [sizeLine_eq, List.length_map]; omega)) ?_
  rw [List.map_append]; rfl
theorem c_channels (hl : xs.length = 31) (h0 : 0 ≤ mm) (hM : mm < 7) (ω : List Cell) : ∃ chs : List Row, chs.length ≤ 10 ∧ (∀ r ∈ chs, r.1 ∈ namesL) ∧ g__law_channels [dInts xs, .int mm] ω = some (.val (.lst (chs.map chD)) ω) := by
  have r0 : 0 ≤ xs.getD (0 : Int).toNat 0 % 11 := Int.emod_nonneg _ (by decide)
  have r1 : xs.getD (0 : Int).toNat 0 % 11 < 11 := Int.emod_lt_of_pos _ (by decide)
  have e2 : ((bo modD (uo intD (bo ixD (vW 0) (M.pure (.int 0)))) (M.pure (.int 11)))) [.fz (dInts xs), .fz (.int mm), .fz (.lst (dSs namesL)), .ow [], .no, .no, .no, .no] ω = some (.val (.int (xs.getD (0 : Int).toNat 0 % 11)) ω) :=
    bo_ev (y := .int 11) (ω1 := ω) (uo_ev (x := .int (xs.getD (0 : Int).toNat 0)) (ω1 := ω) (bo_ev (x := dInts xs) (y := .int 0) (ω1 := ω) rfl rfl rfl rfl (ixD_ints (by decide) (by omega))) rfl rfl) rfl rfl rfl (modD_int (by decide))
  generalize xs.getD (0 : Int).toNat 0 % 11 = z at e2 r0 r1
  obtain ⟨n, rfl⟩ := Int.eq_ofNat_of_zero_le r0
  obtain ⟨ρ', ω', e, chs, q4, q5, q6, q7, h1, h2, rfl, rfl⟩ := forGo_thru (T := nmT 4) (F := lb__law_channels_1)
    (fun j ρ ω' => ∃ (chs : List Row) (q4 q5 q6 q7 : Sl), chs.length = j ∧ (∀ r ∈ chs, r.1 ∈ namesL) ∧ ρ = [.fz (dInts xs), .fz (.int mm), .fz (.lst (dSs namesL)), .ow (chs.map chD), q4, q5, q6, q7] ∧ ω' = ω)
    (items := rangeD 0 n) (ρ := [.fz (dInts xs), .fz (.int mm), .fz (.lst (dSs namesL)), .ow [], .no, .no, .no, .no]) (ω := ω) ⟨[], _, _, _, _, rfl, fun r h => (by cases h), rfl, rfl⟩ (by
      rintro j d ρ ω' hd ⟨chs, q4, q5, q6, q7, h1, h2, rfl, rfl⟩
      obtain ⟨hj, rfl⟩ := rangeD_get hd
      obtain ⟨r, p5, p6, p7, hr, h⟩ := c_turn (xs := xs) hl h0 hM (show j < 10 by omega) (chs := chs) (by omega) q5 q6 q7 ω'
      exact ⟨_, _, _, rfl, h, chs ++ [r], _, _, _, _, by rw [List.length_append, List.length_singleton]; omega, fun r' hr' => by
        rcases List.mem_append.mp hr' with w | w
        · exact h2 r' w
        · rw [List.mem_singleton.mp w]; exact hr, rfl, rfl⟩)
  have hn : ((rangeD 0 n).length) = n := by simp [rangeD]
  rw [hn] at h1
  refine ⟨chs, by omega, h2, fn_rt rfl ?_⟩
  unfold b__law_channels
  refine Eq.trans (seqS_nx (ρ' := [.fz (dInts xs), .fz (.int mm), .fz (.lst (dSs namesL)), .no, .no, .no, .no, .no]) (ω' := ω') rfl) ?_
  refine Eq.trans (seqS_nx (ρ' := [.fz (dInts xs), .fz (.int mm), .fz (.lst (dSs namesL)), .ow [], .no, .no, .no, .no]) (ω' := ω') rfl) ?_
  have e3 : ((bo modD (uo intD (bo ixD (vW 0) (M.pure (.int 0)))) (M.pure (.int 11))).bind rng1) [.fz (dInts xs), .fz (.int mm), .fz (.lst (dSs namesL)), .ow [], .no, .no, .no, .no] ω' = some (.val (rangeD 0 n) ω') := by
    rw [bind_ev e2]
    exact rng1_nat (n := n) (by omega)
  exact Eq.trans (seqS_nx (forS_nx e3 e)) rfl
end
end L11
namespace L11
open PySem L2 DL
local macro_rules
  | `(tactic| fail "as") => `(tactic| focus first
    | (simp only [tupT, lstT, consT, nilT, nmT, view, List.length_cons, List.length_nil, Nat.reduceAdd, if_true, List.set_cons_zero, List.set_cons_succ]; exact rfl)
    | exact rfl)
local macro_rules
  | `(tactic| fail "fi") => `(tactic| focus first
    | with_reducible assumption
    | exact rfl
    | (apply fine_of; (simp only [DL.plain, plainL, Bool.and_true, Bool.true_and]; first | done | decide +kernel); (simp only [dep, depL]; first | done | decide | omega))
    | (apply fine_of; (simp [DL.plain, plainL, *]; done); (simp only [dep, depL]; first | done | decide | omega)))
local macro_rules
  | `(tactic| fail "sd") => `(tactic| focus first
    | with_reducible assumption
    | with_reducible exact And.left (by assumption)
    | omega
    | decide
    | (simp only [List.length_cons, List.length_nil, List.length_append, List.length_map, List.length_range]; omega)
    | (simp; done)
    | (simp; omega)
    | (decide +kernel))
local macro_rules
  | `(tactic| fail "vw") => `(tactic| focus first
    | with_reducible assumption
    | exact rfl)
local macro_rules
  | `(tactic| fail "bt") => `(tactic| focus first
    | with_reducible assumption
    | with_reducible rfl
    | (exact decide_eq_true (by first | with_reducible assumption | omega))
    | (exact decide_eq_false (by first | with_reducible assumption | omega))
    | (simp only [Bool.and_eq_true, Bool.or_eq_true, Bool.not_eq_true', Bool.not_eq_false', Bool.and_eq_false_iff, Bool.or_eq_false_iff, decide_eq_true_eq, decide_eq_false_iff_not, Bool.not_true, Bool.not_false]; omega)
    | exact rfl
    | (simp [*]; done)
    | (decide +kernel))
local macro_rules
  | `(tactic| fail "op") => `(tactic| focus first
    | with_reducible assumption
    | with_reducible exact addD_int _ _
    | with_reducible exact subD_int _ _
    | with_reducible exact ltD_d _ _
    | with_reducible exact gtD_d _ _
    | with_reducible exact leD_d _ _
    | with_reducible exact geD_d _ _
    | with_reducible exact eqD_int _ _
    | with_reducible exact neD_int _ _
    | with_reducible exact lenD_lstM
    | with_reducible exact lenD_tupM
    | with_reducible exact intD_int _
    | with_reducible exact intD_bl _
    | ((with_reducible apply ixD_ints); fail "sd"; fail "sd")
    | ((with_reducible apply ixD_sgn); fail "sd"; fail "sd"; fail "sd")
    | ((with_reducible apply modD_int); fail "sd")
    | ((with_reducible apply mulD_l); fail "sd"; fail "sd")
    | ((with_reducible apply mulD_r); fail "sd"; fail "sd")
    | ((with_reducible apply fdivD_r); fail "sd"; fail "sd")
    | ((with_reducible apply eqD_str); fail "sd"; fail "sd")
    | ((with_reducible apply neD_str); fail "sd"; fail "sd")
    | ((with_reducible apply fldD_ev); exact rfl; exact rfl)
    | ((with_reducible apply neD_sameR); exact rfl; fail "fi")
    | ((with_reducible apply neD_sameL); exact rfl; fail "fi")
    | ((with_reducible apply eqD_sameR); exact rfl; fail "fi")
    | ((with_reducible apply eqD_sameL); exact rfl; fail "fi")
    | ((with_reducible apply mulSD_ev); fail "sd"; fail "sd"; fail "sd"; fail "sd")
    | with_reducible exact strD_str _
    | ((with_reducible apply strD_int); fail "sd")
    | ((with_reducible apply joinD_lst); fail "sd")
    | ((with_reducible apply addD_lstL); fail "sd")
    | ((with_reducible apply addD_tup); fail "sd")
    | ((with_reducible apply addD_strL); fail "sd")
    | exact rfl)
local macro_rules
  | `(tactic| fail "cl") => `(tactic| focus with_reducible assumption)
local macro_rules
  | `(tactic| fail "ev") => `(tactic| focus first
    | with_reducible assumption
    | exact rfl)
local macro_rules
  | `(tactic| fail "ev") => `(tactic| focus first
    | with_reducible assumption
    | with_reducible exact pure_ev
    | ((with_reducible apply y_fF); exact rfl)
    | ((with_reducible apply y_fz); exact rfl)
    | ((with_reducible apply y_ow); exact rfl)
    | ((with_reducible apply bo_ev); fail "ev"; fail "ev"; fail "vw"; fail "vw"; fail "op")
    | ((with_reducible apply uo_ev); fail "ev"; fail "vw"; fail "op")
    | ((with_reducible apply tst_ev); fail "ev")
    | ((with_reducible apply truM_ev); fail "ev")
    | ((with_reducible apply y_truT); fail "ev")
    | ((with_reducible apply y_truL); fail "ev")
    | ((with_reducible apply cons_ev); fail "ev"; fail "ev")
    | ((with_reducible apply calM_ev); fail "ev"; fail "cl")
    | ((with_reducible apply y_lenOk); fail "sd")
    | ((with_reducible apply y_mkTup); fail "sd")
    | ((with_reducible apply y_mkLst); fail "sd")
    | ((with_reducible apply rng1_nat); fail "sd")
    | ((with_reducible apply rng1_int); fail "sd"; fail "sd")
    | ((with_reducible apply notM_ev); fail "ev")
    | ((with_reducible apply notV_ev); fail "ev")
    | ((with_reducible apply orM_ev); fail "ev"; fail "ev")
    | ((with_reducible apply andM_ev); fail "ev"; fail "ev")
    | ((with_reducible apply orV_ev); fail "ev"; fail "ev")
    | ((with_reducible apply andV_ev); fail "ev"; fail "ev")
    | ((with_reducible apply y_orT); fail "ev"; fail "bt")
    | ((with_reducible apply y_orF); fail "ev"; fail "bt"; fail "ev")
    | ((with_reducible apply y_andF); fail "ev"; fail "bt")
    | ((with_reducible apply y_andT); fail "ev"; fail "bt"; fail "ev")
    | ((with_reducible apply y_orVT); fail "ev"; fail "bt")
    | ((with_reducible apply y_orVF); fail "ev"; fail "bt"; fail "ev")
    | ((with_reducible apply y_andVF); fail "ev"; fail "bt")
    | ((with_reducible apply y_andVT); fail "ev"; fail "bt"; fail "ev")
    | ((with_reducible apply y_ifT); fail "ev"; fail "bt"; fail "ev")
    | ((with_reducible apply y_ifF); fail "ev"; fail "bt"; fail "ev")
    | with_reducible exact asI_ev
    | with_reducible exact items_lst
    | with_reducible exact items_tup
    | ((with_reducible apply sl_lst_to); fail "sd")
    | ((with_reducible apply sl_lst_from); fail "sd")
    | ((with_reducible apply sl_tup_to); fail "sd")
    | ((with_reducible apply sl_tup_from); fail "sd")
    | ((with_reducible apply sl_lst_two); fail "sd"; fail "sd")
    | ((with_reducible apply binO_oo); fail "ev"; fail "ev"; fail "cl")
    | ((with_reducible apply cmpO_oo); fail "ev"; fail "ev"; fail "cl")
    | ((with_reducible apply cmpN_oo); fail "ev"; fail "ev"; fail "cl")
    | ((with_reducible apply methM_o); fail "ev"; exact rfl; fail "ev"; fail "cl")
    | ((with_reducible apply methM_ev); fail "ev"; fail "vw"; exact rfl; exact rfl; fail "ev"; fail "cl")
    | ((with_reducible apply y_bind); fail "ev"; fail "ev"))
local macro_rules
  | `(tactic| fail "rs") => `(tactic| focus (first | (simp only [List.set_cons_zero, List.set_cons_succ]; done) | (simp only [List.set_cons_zero, List.set_cons_succ]; exact rfl) | exact rfl))
local macro_rules
  | `(tactic| fail "st") => `(tactic| first
    | (with_reducible apply z_asc)
    | (with_reducible apply z_skp)
    | ((with_reducible apply z_frzOS); exact rfl; fail "rs")
    | ((with_reducible apply z_frzFS); exact rfl)
    | ((with_reducible apply z_frzO); exact rfl; fail "rs")
    | ((with_reducible apply z_frzF); exact rfl)
    | ((with_reducible apply z_set); fail "ev"; fail "rs")
    | ((with_reducible apply z_setO); fail "ev"; fail "rs")
    | ((with_reducible apply z_app); exact rfl; fail "ev"; fail "sd"; fail "rs")
    | ((with_reducible apply z_ext); exact rfl; fail "ev"; fail "vw"; fail "sd"; fail "rs")
    | ((with_reducible apply z_asg); fail "ev"; fail "as")
    | ((with_reducible apply z_exp); fail "ev")
    | ((with_reducible apply z_ret); fail "ev"; first | exact rfl | skip)
    | ((with_reducible apply z_retR); fail "ev"; first | exact rfl | skip)
    | ((with_reducible apply z_rai); fail "ev"; exact rfl)
    | ((with_reducible apply z_raiR); fail "ev"; exact rfl)
    | ((with_reducible apply z_if); fail "ev"; first | ((with_reducible apply z_ct); fail "bt") | ((with_reducible apply z_cf); fail "bt") | skip)
    | ((with_reducible apply z_ifR); fail "ev"; first | ((with_reducible apply z_ctR); fail "bt") | ((with_reducible apply z_cfR); fail "bt") | skip)
    | ((with_reducible apply z_ct); fail "bt")
    | ((with_reducible apply z_cf); fail "bt")
    | ((with_reducible apply z_ctR); fail "bt")
    | ((with_reducible apply z_cfR); fail "bt")
    | ((with_reducible apply z_for); fail "ev"; first | with_reducible assumption | assumption)
    | ((with_reducible apply e_for); fail "ev"; first | with_reducible assumption | assumption)
    | ((with_reducible apply e_set); fail "ev"; fail "rs")
    | ((with_reducible apply e_setO); fail "ev"; fail "rs")
    | ((with_reducible apply e_app); exact rfl; fail "ev"; fail "sd"; fail "rs")
    | ((with_reducible apply e_ext); exact rfl; fail "ev"; fail "vw"; fail "sd"; fail "rs")
    | ((with_reducible apply exprS_ev); fail "ev")
    | ((with_reducible apply asgS_ev); fail "ev"; fail "as")
    | ((with_reducible apply z_end); first | with_reducible exact rfl | exact rfl))
local macro_rules
  | `(tactic| fail "run") => `(tactic| (fail "st"; repeat fail "st"))
local macro_rules
  | `(tactic| fail "ex") => `(tactic| repeat (with_reducible apply Exists.intro))
local macro_rules
  | `(tactic| fail "se") => `(tactic| simp only [startE, List.map_cons, List.map_nil, List.length_cons, List.length_nil, Nat.reduceAdd, Nat.reduceSub, Nat.sub_self, List.replicate_succ, List.replicate_zero, List.cons_append, List.nil_append, List.append_nil])
local macro_rules
  | `(tactic| fail "ev") => `(tactic| focus first
    | ((with_reducible apply inO_at); fail "ev"; fail "ev"; fail "vw"; exact rfl; fail "cl"; exact rfl)
    | ((with_reducible apply lenO_at); fail "ev"; fail "vw"; exact rfl; fail "cl"; fail "sd"; fail "sd")
    | ((with_reducible apply ixO_at); fail "ev"; fail "ev"; fail "vw"; exact rfl; fail "cl")
    | ((with_reducible apply newS_at); fail "ev")
    | ((with_reducible apply sortL_at); fail "ev"; fail "vw"; fail "sd")
    | ((with_reducible apply listK_at); fail "ev"; fail "vw"))
/-! ### what is due -/
def xD (x : Exc) : D := match x.fs with
  | [(_, .str f)] => .tup [.str "term", .str f]
  | [(_, .int t)] => .tup [.str "machine", .int t]
  | _ => .non
def dueD (m : Int) (chs : List Row) (lost : Bool) : D :=
  if m = 0 then .tup [.str "term", .str "machines"] else if 8 < chs.length then .tup [.str "term", .str "channels"] else match chBad m [] chs with
  | some x => xD x
  | none => if lost = true then .tup [.str "name", .str "lost"] else .tup [.str "", .str ""]
theorem chBad_fine {m : Int} {x : Exc} : ∀ {rs : List Row} {es : List Str}, chBad m es rs = some x → fine (xD x) = true ∧ ((∃ f, x = bad f) ∨ ∃ t : Int, x = ⟨"NoMachine", [("machine", .int t)]⟩)
  | [], _, h => by cases h
  | r :: rs, es, h => by
    unfold chBad at h
    split at h
    · cases h; exact ⟨by decide +kernel, .inl ⟨_, rfl⟩⟩
    · split at h
      · cases h; exact ⟨by decide +kernel, .inl ⟨_, rfl⟩⟩
      · split at h
        · cases h
          refine ⟨?_, .inr ⟨_, rfl⟩⟩
          show fine (.tup [.str "machine", .int r.2.2]) = true
          refine fine_of ?_ (by simp only [dep, depL]; decide)
          simp only [DL.plain, plainL, Bool.and_true]; decide +kernel
        · exact chBad_fine h
theorem dueD_fine (m : Int) (chs : List Row) (lost : Bool) : fine (dueD m chs lost) = true := by
  unfold dueD
  split
  · decide +kernel
  · split
    · decide +kernel
    · cases h : chBad m [] chs with
      | some x => exact (chBad_fine h).1
      | none =>
        show fine (if lost = true then _ else _) = true
        split
        · decide +kernel
        · decide +kernel
theorem due_go {m : Int} {c L : Sl} (ω : List Cell) : ∀ (rs : List Row) (es : List Str) (q4 q5 q6 : Sl), (∀ r ∈ rs, r.1 ∈ namesL) → (∀ e ∈ es, PySem.PyData.strOk e = true) → es.length + rs.length ≤ 1000 →
    (chBad m es rs = none → ∃ p3 p4 p5 p6, forGo (tupT 3 (consT (nmT 4) (consT (nmT 5) (consT (nmT 6) nilT)))) lb__law_due_1 (rs.map chD) [.fz (.int m), c, L, .ow (dSs es), q4, q5, q6] ω = some (.nx [.fz (.int m), c, L, p3, p4, p5, p6] ω)) ∧
    (∀ x, chBad m es rs = some x → forGo (tupT 3 (consT (nmT 4) (consT (nmT 5) (consT (nmT 6) nilT)))) lb__law_due_1 (rs.map chD) [.fz (.int m), c, L, .ow (dSs es), q4, q5, q6] ω = some (.rt (xD x) ω))
  | [], es, q4, q5, q6, _, _, _ => ⟨fun _ => ⟨_, _, _, _, rfl⟩, fun x h => by cases h⟩
  | r :: rs, es, q4, q5, q6, hr, he, hz => by
    obtain ⟨n, s, t⟩ := r
    have h0 : n ∈ namesL := hr (n, s, t) (List.mem_cons_self ..)
    have h0' := namesL_ok n h0
    rw [List.length_cons] at hz
    generalize hρ : ([.fz (.int m), c, L, .ow (dSs es), .fz (.str n), .fz (.int s), .fz (.int t)] : Rho) = ρ
    have t1 : (orM (tst (bo inD (vW 4) (vW 3))) (tst (bo inD (vW 4) (((consM (M.pure (.str "")) (consM (M.pure (.str "A")) (consM (M.pure (.str "put")) (consM (M.pure (.str "abcdefghi")) (consM (M.pure (.str "a b")) (consM (M.pure (.str "1a")) (M.pure []))))))).bind lenOk).bind fun ds => M.pure (.lst ds))))) ρ ω = some (.val (decide (n ∈ es) || decide (n ∈ badL)) ω) := by
      subst hρ
      exact orM_ev (tst_ev (bo_ev (x := .str n) (y := .lst (dSs es)) (ω1 := ω) rfl rfl rfl rfl (in_names h0'.2.1 he))) (tst_ev (bo_ev (x := .str n) (y := .lst (dSs badL)) (ω1 := ω) rfl rfl rfl rfl (in_names h0'.2.1 badL_ok)))
    have t2 : (orM (tst (bo ltD (vW 5) (M.pure (.int 1)))) (tst (bo gtD (vW 5) (M.pure (.int 4))))) ρ ω = some (.val (decide (s < 1) || decide (4 < s)) ω) := by
      subst hρ
      exact orM_ev (tst_ev (bo_ev (x := .int s) (y := .int 1) (ω1 := ω) rfl rfl rfl rfl (ltD_d _ _))) (tst_ev (bo_ev (x := .int s) (y := .int 4) (ω1 := ω) rfl rfl rfl rfl (gtD_d _ _)))
    have t3 : (orM (tst (bo ltD (vW 6) (M.pure (.int 0)))) (tst (bo geD (vW 6) (vW 0)))) ρ ω = some (.val (decide (t < 0) || decide (m ≤ t)) ω) := by
      subst hρ
      exact orM_ev (tst_ev (bo_ev (x := .int t) (y := .int 0) (ω1 := ω) rfl rfl rfl rfl (ltD_d _ _))) (tst_ev (bo_ev (x := .int t) (y := .int m) (ω1 := ω) rfl rfl rfl rfl (geD_d _ _)))
    have hT : (tupT 3 (consT (nmT 4) (consT (nmT 5) (consT (nmT 6) nilT)))) (chD (n, s, t)) [.fz (.int m), c, L, .ow (dSs es), q4, q5, q6] ω = some ρ := by subst hρ; rfl
    have go_x : ∀ {d : D}, lb__law_due_1 ρ ω = some (.rt d ω) → forGo (tupT 3 (consT (nmT 4) (consT (nmT 5) (consT (nmT 6) nilT)))) lb__law_due_1 (((n, s, t) :: rs).map chD) [.fz (.int m), c, L, .ow (dSs es), q4, q5, q6] ω = some (.rt d ω) := fun h => by
      rw [List.map_cons]; unfold forGo; simp only [hT, h]
    unfold chBad
    by_cases h1 : nameB n = false ∨ n ∈ es
    · rw [if_pos h1]
      have e1 : (decide (n ∈ es) || decide (n ∈ badL)) = true := by
        rcases h1 with h | h
        · have z := h0'.2.2.1
          rw [h] at z
          have z2 : decide (n ∈ badL) = true := by
            cases w : decide (n ∈ badL) with
            | true => rfl
            | false => rw [w] at z; cases z
          rw [z2, Bool.or_true]
        · rw [decide_eq_true h]; rfl
      rw [e1] at t1
      refine ⟨fun h => (by cases h), fun x h => ?_⟩
      cases h
      refine go_x ?_
      unfold lb__law_due_1
      exact seqS_rt ((ifS_t t1).trans rfl)
    · rw [if_neg h1]
      have e1 : (decide (n ∈ es) || decide (n ∈ badL)) = false := by
        rw [not_or, Bool.not_eq_false] at h1
        have z := h0'.2.2.1
        rw [h1.1] at z
        rw [decide_eq_false h1.2, Bool.false_or]
        cases w : decide (n ∈ badL) with
        | true => rw [w] at z; cases z
        | false => rfl
      rw [e1] at t1
      by_cases h2 : 1 ≤ s ∧ s ≤ 4
      · rw [if_neg (not_not_intro h2)]
        rw [decide_eq_false (show ¬ s < 1 by omega), decide_eq_false (show ¬ 4 < s by omega)] at t2
        by_cases h3 : 0 ≤ t ∧ t < m
        · rw [if_neg (not_not_intro h3)]
          rw [decide_eq_false (show ¬ t < 0 by omega), decide_eq_false (show ¬ m ≤ t by omega)] at t3
          have hb : lb__law_due_1 ρ ω = some (.nx [.fz (.int m), c, L, .ow (dSs (es ++ [n])), .fz (.str n), .fz (.int s), .fz (.int t)] ω) := by
            unfold lb__law_due_1
            refine Eq.trans (seqS_nx (ω' := ω) (ρ' := ρ) (by rw [ifS_f t1])) ?_
            refine Eq.trans (seqS_nx (ω' := ω) (ρ' := ρ) (by rw [ifS_f t2])) ?_
            refine Eq.trans (seqS_nx (ω' := ω) (ρ' := ρ) (by rw [ifS_f t3])) ?_
            subst hρ
            refine Eq.trans (appS_ev (es := dSs es) (d := .str n) (ω' := ω) rfl rfl (by rw [sizeLine_eq, List.length_map]; omega)) ?_
            rw [dSs, dSs, List.map_append]; rfl
          have ih := due_go (m := m) (c := c) (L := L) ω rs (es ++ [n]) (.fz (.str n)) (.fz (.int s)) (.fz (.int t)) (fun r h => hr r (List.mem_cons_of_mem _ h)) (fun e h => by
            rcases List.mem_append.mp h with z | z
            · exact he e z
            · rw [List.mem_singleton.mp z]; exact h0'.2.1) (by rw [List.length_append, List.length_singleton]; omega)
          have eg : forGo (tupT 3 (consT (nmT 4) (consT (nmT 5) (consT (nmT 6) nilT)))) lb__law_due_1 (((n, s, t) :: rs).map chD) [.fz (.int m), c, L, .ow (dSs es), q4, q5, q6] ω = forGo (tupT 3 (consT (nmT 4) (consT (nmT 5) (consT (nmT 6) nilT)))) lb__law_due_1 (rs.map chD) [.fz (.int m), c, L, .ow (dSs (es ++ [n])), .fz (.str n), .fz (.int s), .fz (.int t)] ω := by
            rw [List.map_cons]
            conv => lhs; unfold forGo
            simp only [hT, hb]
          rw [eg]
          exact ih
        · rw [if_pos h3]
          have e3 : (decide (t < 0) || decide (m ≤ t)) = true := by
            simp only [Bool.or_eq_true, decide_eq_true_eq]; omega
          rw [e3] at t3
          refine ⟨fun h => (by cases h), fun x h => ?_⟩
          cases h
          refine go_x ?_
          unfold lb__law_due_1
          refine Eq.trans (seqS_nx (ω' := ω) (ρ' := ρ) (by rw [ifS_f t1])) ?_
          refine Eq.trans (seqS_nx (ω' := ω) (ρ' := ρ) (by rw [ifS_f t2])) ?_
          refine seqS_rt ((ifS_t t3).trans ?_)
          subst hρ
          rfl
      · rw [if_pos h2]
        have e2 : (decide (s < 1) || decide (4 < s)) = true := by
          simp only [Bool.or_eq_true, decide_eq_true_eq]; omega
        rw [e2] at t2
        refine ⟨fun h => (by cases h), fun x h => ?_⟩
        cases h
        refine go_x ?_
        unfold lb__law_due_1
        refine Eq.trans (seqS_nx (ω' := ω) (ρ' := ρ) (by rw [ifS_f t1])) ?_
        exact seqS_rt ((ifS_t t2).trans rfl)
theorem c_due {m : Int} {chs : List Row} {lost : Bool} (hz : chs.length ≤ 10) (hr : ∀ r ∈ chs, r.1 ∈ namesL) (ω : List Cell) : g__law_due [.int m, .lst (chs.map chD), .bl lost] ω = some (.val (dueD m chs lost) ω) := by
  refine fn_rt rfl ?_
  unfold b__law_due dueD
  have t1 : (tst (bo eqD (vW 0) (M.pure (.int 0)))) (startE N__law_due [.int m, .lst (chs.map chD), .bl lost]) ω = some (.val (decide (m = 0)) ω) := tst_ev (bo_ev (x := .int m) (y := .int 0) (ω1 := ω) rfl rfl rfl rfl (eqD_int _ _))
  have t2 : (tst (bo gtD (uo lenD (vW 1)) (M.pure (.int 8)))) (startE N__law_due [.int m, .lst (chs.map chD), .bl lost]) ω = some (.val (decide (8 < (chs.length : Int))) ω) := tst_ev (bo_ev (x := .int chs.length) (y := .int 8) (ω1 := ω) (uo_ev (x := .lst (chs.map chD)) (ω1 := ω) rfl rfl lenD_lstM) rfl rfl rfl (gtD_d _ _))
  by_cases h1 : m = 0
  · rw [if_pos h1]
    rw [decide_eq_true h1] at t1
    exact seqS_rt ((ifS_t t1).trans rfl)
  · rw [if_neg h1]
    rw [decide_eq_false h1] at t1
    refine Eq.trans (seqS_nx (ω' := ω) (ρ' := startE N__law_due [.int m, .lst (chs.map chD), .bl lost]) (by rw [ifS_f t1])) ?_
    by_cases h2 : 8 < chs.length
    · rw [if_pos h2]
      rw [decide_eq_true (show 8 < (chs.length : Int) by omega)] at t2
      exact seqS_rt ((ifS_t t2).trans rfl)
    · rw [if_neg h2]
      rw [decide_eq_false (show ¬ 8 < (chs.length : Int) by omega)] at t2
      refine Eq.trans (seqS_nx (ω' := ω) (ρ' := startE N__law_due [.int m, .lst (chs.map chD), .bl lost]) (by rw [ifS_f t2])) ?_
      refine Eq.trans (seqS_nx (ρ' := [.fz (.int m), .fz (.lst (chs.map chD)), .fz (.bl lost), .ow [], .no, .no, .no]) (ω' := ω) rfl) ?_
      have g := due_go (m := m) (c := .fz (.lst (chs.map chD))) (L := .fz (.bl lost)) ω chs [] .no .no .no hr (fun e h => (by cases h)) (by simp; omega)
      cases hc : chBad m [] chs with
      | some x => exact seqS_rt (forS_rt rfl (g.2 x hc))
      | none =>
        obtain ⟨p3, p4, p5, p6, e⟩ := g.1 hc
        refine Eq.trans (seqS_nx (forS_nx (items := chs.map chD) (ω1 := ω) rfl e)) ?_
        have t3 : (truM (vW 2)) [.fz (.int m), .fz (.lst (chs.map chD)), .fz (.bl lost), p3, p4, p5, p6] ω = some (.val lost ω) := truM_ev (b := lost) (ω' := ω) rfl
        cases lost with
        | true => exact seqS_rt ((ifS_t t3).trans rfl)
        | false => exact Eq.trans (seqS_nx (ifS_f t3)) rfl
/-! ### the program is tried -/
theorem ca1 : ca_BadTerm.lookup ("BadTerm" : Str) = some true := by decide +kernel
theorem ca2 : ca_BadTerm.lookup ("NoMachine" : Str) = some false := by decide +kernel
theorem ca3 : ca_NoMachine.lookup ("NoMachine" : Str) = some true := by decide +kernel
theorem ca4 : ca_BadTerm.lookup ("NoName" : Str) = some false := by decide +kernel
theorem ca5 : ca_NoMachine.lookup ("NoName" : Str) = some false := by decide +kernel
theorem ca6 : ca_NoName.lookup ("NoName" : Str) = some true := by decide +kernel
theorem mkN_at {c : Str} {Gf : Fn} {fs : M (List D)} {ds : List D} {ρ : Rho} {ω ω1 ω' : List Cell} (ha : fs ρ ω = some (.val ds ω1)) (h : Gf (.oid ω1.length :: ds) (ω1 ++ [.obj c []]) = some (.val .non ω')) : (fs.bind (mkN c Gf)) ρ ω = some (.val (.oid ω1.length) ω') := by
  rw [bind_ev ha]; unfold mkN; simp only [h]
theorem mkN_x {c : Str} {Gf : Fn} {fs : M (List D)} {ds : List D} {x : Exc} {ρ : Rho} {ω ω1 ω' : List Cell} (ha : fs ρ ω = some (.val ds ω1)) (h : Gf (.oid ω1.length :: ds) (ω1 ++ [.obj c []]) = some (.exc x ω')) : (fs.bind (mkN c Gf)) ρ ω = some (.exc x ω') := by
  rw [bind_ev ha]; unfold mkN; simp only [h]
section
variable {ω ω' : List Cell} {b : Nat} {chs : List Row} {ps : List D}
abbrev trE (chs : List Row) (b : Nat) (ps : List D) (q3 : Sl) : Rho := [.fz (.lst (chs.map chD)), .fz (.oid b), .fz (netD ps), q3, .no]
theorem tried_x {x : Exc} (h : g_mk_Program [.oid ω.length, .lst (chs.map chD), .oid b, netD ps] (ω ++ [.obj "Program" []]) = some (.exc x ω')) (d : D) (hd : (∃ f, x = bad f ∧ d = .tup [.str "term", .str f]) ∨ (∃ t : Int, x = ⟨"NoMachine", [("machine", .int t)]⟩ ∧ d = .tup [.str "machine", .int t]) ∨ (∃ n : Str, x = ⟨"NoName", [("name", .str n)]⟩ ∧ d = .tup [.str "name", .str n])) :
    g__law_tried [.lst (chs.map chD), .oid b, netD ps] ω = some (.val d ω') := by
  refine fn_rt rfl ?_
  unfold b__law_tried
  refine seqS_rt ?_
  have e : tb__law_tried_1 g_mk_Program (trE chs b ps .no) ω = some (.exc x (trE chs b ps .no) ω') := by
    unfold tb__law_tried_1
    exact setS_ex (mkN_x (ds := [.lst (chs.map chD), .oid b, netD ps]) (ω1 := ω) rfl h)
  refine Eq.trans (tryS_ex e) ?_
  rcases hd with ⟨f, rfl, rfl⟩ | ⟨t, rfl, rfl⟩ | ⟨n, rfl, rfl⟩
  · refine catS_rt ca1 fun p => ?_
    unfold su__law_tried_3
    exact retS_ev (tup_ev (ds := [.str "term", .str f]) (ω1 := ω') (cons_ev (d := .str "term") (ω1 := ω') rfl (cons_ev (d := .str f) (ω1 := ω') (xfM_ev (x := bad f) rfl rfl rfl) (ds := []) (ω2 := ω') rfl)) (by simp))
  · refine Eq.trans (catS_no ca2) ?_
    refine catS_rt ca3 fun p => ?_
    unfold su__law_tried_2
    exact retS_ev (tup_ev (ds := [.str "machine", .int t]) (ω1 := ω') (cons_ev (d := .str "machine") (ω1 := ω') rfl (cons_ev (d := .int t) (ω1 := ω') (xfM_ev (x := ⟨"NoMachine", [("machine", .int t)]⟩) rfl rfl rfl) (ds := []) (ω2 := ω') rfl)) (by simp))
  · refine Eq.trans (catS_no ca4) ?_
    refine Eq.trans (catS_no ca5) ?_
    refine catS_rt ca6 fun p => ?_
    unfold su__law_tried_1
    exact retS_ev (tup_ev (ds := [.str "name", .str n]) (ω1 := ω') (cons_ev (d := .str "name") (ω1 := ω') rfl (cons_ev (d := .str n) (ω1 := ω') (xfM_ev (x := ⟨"NoName", [("name", .str n)]⟩) rfl rfl rfl) (ds := []) (ω2 := ω') rfl)) (by simp))
theorem fine_rows (hr : ∀ r ∈ chs, PySem.PyData.strOk r.1 = true) : fine (.lst (chs.map chD)) = true := by
  have h : ∀ rs : List Row, (∀ r ∈ rs, PySem.PyData.strOk r.1 = true) → plainL (rs.map chD) = true ∧ depL (rs.map chD) ≤ 1 := by
    intro rs
    induction rs with
    | nil => exact fun _ => ⟨rfl, Nat.zero_le _⟩
    | cons r rs ih =>
      intro hh
      have i := ih fun r h => hh r (List.mem_cons_of_mem _ h)
      have h1 := hh r (List.mem_cons_self ..)
      refine ⟨?_, ?_⟩
      · rw [List.map_cons]
        simp only [plainL, DL.plain, h1, i.1, Bool.and_true]
      · rw [List.map_cons]
        simp only [depL, dep]
        omega
  have := h chs hr
  exact fine_of (by simp only [DL.plain]; exact this.1) (by simp only [dep]; omega)
theorem tried_ok {ks : List (Str × D)} (h : g_mk_Program [.oid ω.length, .lst (chs.map chD), .oid b, netD ps] (ω ++ [.obj "Program" []]) = some (.val .non (pwk ω chs ps ks))) (hr : ∀ r ∈ chs, PySem.PyData.strOk r.1 = true) (hl : ps.length ≤ 6) :
    g__law_tried [.lst (chs.map chD), .oid b, netD ps] ω = some (.val (.tup [.str "", .str ""]) (pwk ω chs ps ks)) := by
  have vp := view_progk (ω := ω) (chs := chs) (ks := ks) ps
  generalize pwk ω chs ps ks = W at vp h ⊢
  refine fn_rt rfl ?_
  unfold b__law_tried
  refine Eq.trans (seqS_nx (ρ' := trE chs b ps (.fz (.oid ω.length))) (ω' := W) (tryS_nx ?_)) ?_
  · unfold tb__law_tried_1
    exact setS_ev (mkN_at (ds := [.lst (chs.map chD), .oid b, netD ps]) (ω1 := ω) rfl h)
  have e1 : (bo neD (uo (fldD ["Program"] "machines") (vW 3)) (lenO [("Net", g_Net___len__)] (vF 2))) (trE chs b ps (.fz (.oid ω.length))) W = some (.val (.bl false) W) :=
    bo_ev (x := .int ps.length) (y := .int ps.length) (ω1 := W) (uo_ev (y_fz rfl) vp (fldD_ev rfl rfl)) (lenO_at (o := netD ps) (ω1 := W) rfl rfl rfl (c_nlen _) (by omega) (by omega)) rfl rfl (neD_same rfl)
  have e2 : (bo neD (methM "declared" [("Program", g_Program_declared)] (vF 3) (M.pure [])) (vW 0)) (trE chs b ps (.fz (.oid ω.length))) W = some (.val (.bl false) W) := by
    refine bo_ev (x := .lst (chs.map chD)) (y := .lst (chs.map chD)) (ω1 := W) (ω2 := W) (methM_ev (o := .oid ω.length) (ω1 := W) (ds := []) (ω2 := W) rfl vp rfl rfl rfl ?_) rfl rfl rfl (neD_same (fine_rows hr))
    refine fn_rt rfl ?_
    unfold b_Program_declared
    exact retS_ev (uo_ev (x := .lst (chs.map chD)) (ω1 := W) (uo_ev (y_fz rfl) vp (fldD_ev rfl rfl)) rfl rfl)
  refine Eq.trans (seqS_nx (ω' := W) (ρ' := trE chs b ps (.fz (.oid ω.length))) (by rw [ifS_f (orM_f (tst_ev e1) (tst_ev e2))])) ?_
  rfl
end
end L11
namespace L11
open PySem L2 DL
local macro_rules
  | `(tactic| fail "as") => `(tactic| focus first
    | (simp only [tupT, lstT, consT, nilT, nmT, view, List.length_cons, List.length_nil, Nat.reduceAdd, if_true, List.set_cons_zero, List.set_cons_succ]; exact rfl)
    | exact rfl)
local macro_rules
  | `(tactic| fail "fi") => `(tactic| focus first
    | with_reducible assumption
    | exact rfl
    | (apply fine_of; (simp only [DL.plain, plainL, Bool.and_true, Bool.true_and]; first | done | decide +kernel); (simp only [dep, depL]; first | done | decide | omega))
    | (apply fine_of; (simp [DL.plain, plainL, *]; done); (simp only [dep, depL]; first | done | decide | omega)))
local macro_rules
  | `(tactic| fail "sd") => `(tactic| focus first
    | with_reducible assumption
    | with_reducible exact And.left (by assumption)
    | omega
    | decide
    | (simp only [List.length_cons, List.length_nil, List.length_append, List.length_map, List.length_range]; omega)
    | (simp; done)
    | (simp; omega)
    | (decide +kernel))
local macro_rules
  | `(tactic| fail "vw") => `(tactic| focus first
    | with_reducible assumption
    | exact rfl)
local macro_rules
  | `(tactic| fail "bt") => `(tactic| focus first
    | with_reducible assumption
    | with_reducible rfl
    | (exact decide_eq_true (by first | with_reducible assumption | omega))
    | (exact decide_eq_false (by first | with_reducible assumption | omega))
    | (simp only [Bool.and_eq_true, Bool.or_eq_true, Bool.not_eq_true', Bool.not_eq_false', Bool.and_eq_false_iff, Bool.or_eq_false_iff, decide_eq_true_eq, decide_eq_false_iff_not, Bool.not_true, Bool.not_false]; omega)
    | exact rfl
    | (simp [*]; done)
    | (decide +kernel))
local macro_rules
  | `(tactic| fail "op") => `(tactic| focus first
    | with_reducible assumption
    | with_reducible exact addD_int _ _
    | with_reducible exact subD_int _ _
    | with_reducible exact ltD_d _ _
    | with_reducible exact gtD_d _ _
    | with_reducible exact leD_d _ _
    | with_reducible exact geD_d _ _
    | with_reducible exact eqD_int _ _
    | with_reducible exact neD_int _ _
    | with_reducible exact lenD_lstM
    | with_reducible exact lenD_tupM
    | with_reducible exact intD_int _
    | with_reducible exact intD_bl _
    | ((with_reducible apply ixD_ints); fail "sd"; fail "sd")
    | ((with_reducible apply ixD_sgn); fail "sd"; fail "sd"; fail "sd")
    | ((with_reducible apply modD_int); fail "sd")
    | ((with_reducible apply mulD_l); fail "sd"; fail "sd")
    | ((with_reducible apply mulD_r); fail "sd"; fail "sd")
    | ((with_reducible apply fdivD_r); fail "sd"; fail "sd")
    | ((with_reducible apply eqD_str); fail "sd"; fail "sd")
    | ((with_reducible apply neD_str); fail "sd"; fail "sd")
    | ((with_reducible apply fldD_ev); exact rfl; exact rfl)
    | ((with_reducible apply neD_sameR); exact rfl; fail "fi")
    | ((with_reducible apply neD_sameL); exact rfl; fail "fi")
    | ((with_reducible apply eqD_sameR); exact rfl; fail "fi")
    | ((with_reducible apply eqD_sameL); exact rfl; fail "fi")
    | ((with_reducible apply mulSD_ev); fail "sd"; fail "sd"; fail "sd"; fail "sd")
    | with_reducible exact strD_str _
    | ((with_reducible apply strD_int); fail "sd")
    | ((with_reducible apply joinD_lst); fail "sd")
    | ((with_reducible apply addD_lstL); fail "sd")
    | ((with_reducible apply addD_tup); fail "sd")
    | ((with_reducible apply addD_strL); fail "sd")
    | exact rfl)
local macro_rules
  | `(tactic| fail "cl") => `(tactic| focus with_reducible assumption)
local macro_rules
  | `(tactic| fail "ev") => `(tactic| focus first
    | with_reducible assumption
    | exact rfl)
local macro_rules
  | `(tactic| fail "ev") => `(tactic| focus first
    | with_reducible assumption
    | with_reducible exact pure_ev
    | ((with_reducible apply y_fF); exact rfl)
    | ((with_reducible apply y_fz); exact rfl)
    | ((with_reducible apply y_ow); exact rfl)
    | ((with_reducible apply bo_ev); fail "ev"; fail "ev"; fail "vw"; fail "vw"; fail "op")
    | ((with_reducible apply uo_ev); fail "ev"; fail "vw"; fail "op")
    | ((with_reducible apply tst_ev); fail "ev")
    | ((with_reducible apply truM_ev); fail "ev")
    | ((with_reducible apply y_truT); fail "ev")
    | ((with_reducible apply y_truL); fail "ev")
    | ((with_reducible apply cons_ev); fail "ev"; fail "ev")
    | ((with_reducible apply calM_ev); fail "ev"; fail "cl")
    | ((with_reducible apply y_lenOk); fail "sd")
    | ((with_reducible apply y_mkTup); fail "sd")
    | ((with_reducible apply y_mkLst); fail "sd")
    | ((with_reducible apply rng1_nat); fail "sd")
    | ((with_reducible apply rng1_int); fail "sd"; fail "sd")
    | ((with_reducible apply notM_ev); fail "ev")
    | ((with_reducible apply notV_ev); fail "ev")
    | ((with_reducible apply orM_ev); fail "ev"; fail "ev")
    | ((with_reducible apply andM_ev); fail "ev"; fail "ev")
    | ((with_reducible apply orV_ev); fail "ev"; fail "ev")
    | ((with_reducible apply andV_ev); fail "ev"; fail "ev")
    | ((with_reducible apply y_orT); fail "ev"; fail "bt")
    | ((with_reducible apply y_orF); fail "ev"; fail "bt"; fail "ev")
    | ((with_reducible apply y_andF); fail "ev"; fail "bt")
    | ((with_reducible apply y_andT); fail "ev"; fail "bt"; fail "ev")
    | ((with_reducible apply y_orVT); fail "ev"; fail "bt")
    | ((with_reducible apply y_orVF); fail "ev"; fail "bt"; fail "ev")
    | ((with_reducible apply y_andVF); fail "ev"; fail "bt")
    | ((with_reducible apply y_andVT); fail "ev"; fail "bt"; fail "ev")
    | ((with_reducible apply y_ifT); fail "ev"; fail "bt"; fail "ev")
    | ((with_reducible apply y_ifF); fail "ev"; fail "bt"; fail "ev")
    | with_reducible exact asI_ev
    | with_reducible exact items_lst
    | with_reducible exact items_tup
    | ((with_reducible apply sl_lst_to); fail "sd")
    | ((with_reducible apply sl_lst_from); fail "sd")
    | ((with_reducible apply sl_tup_to); fail "sd")
    | ((with_reducible apply sl_tup_from); fail "sd")
    | ((with_reducible apply sl_lst_two); fail "sd"; fail "sd")
    | ((with_reducible apply binO_oo); fail "ev"; fail "ev"; fail "cl")
    | ((with_reducible apply cmpO_oo); fail "ev"; fail "ev"; fail "cl")
    | ((with_reducible apply cmpN_oo); fail "ev"; fail "ev"; fail "cl")
    | ((with_reducible apply methM_o); fail "ev"; exact rfl; fail "ev"; fail "cl")
    | ((with_reducible apply methM_ev); fail "ev"; fail "vw"; exact rfl; exact rfl; fail "ev"; fail "cl")
    | ((with_reducible apply y_bind); fail "ev"; fail "ev"))
local macro_rules
  | `(tactic| fail "rs") => `(tactic| focus (first | (simp only [List.set_cons_zero, List.set_cons_succ]; done) | (simp only [List.set_cons_zero, List.set_cons_succ]; exact rfl) | exact rfl))
local macro_rules
  | `(tactic| fail "st") => `(tactic| first
    | (with_reducible apply z_asc)
    | (with_reducible apply z_skp)
    | ((with_reducible apply z_frzOS); exact rfl; fail "rs")
    | ((with_reducible apply z_frzFS); exact rfl)
    | ((with_reducible apply z_frzO); exact rfl; fail "rs")
    | ((with_reducible apply z_frzF); exact rfl)
    | ((with_reducible apply z_set); fail "ev"; fail "rs")
    | ((with_reducible apply z_setO); fail "ev"; fail "rs")
    | ((with_reducible apply z_app); exact rfl; fail "ev"; fail "sd"; fail "rs")
    | ((with_reducible apply z_ext); exact rfl; fail "ev"; fail "vw"; fail "sd"; fail "rs")
    | ((with_reducible apply z_asg); fail "ev"; fail "as")
    | ((with_reducible apply z_exp); fail "ev")
    | ((with_reducible apply z_ret); fail "ev"; first | exact rfl | skip)
    | ((with_reducible apply z_retR); fail "ev"; first | exact rfl | skip)
    | ((with_reducible apply z_rai); fail "ev"; exact rfl)
    | ((with_reducible apply z_raiR); fail "ev"; exact rfl)
    | ((with_reducible apply z_if); fail "ev"; first | ((with_reducible apply z_ct); fail "bt") | ((with_reducible apply z_cf); fail "bt") | skip)
    | ((with_reducible apply z_ifR); fail "ev"; first | ((with_reducible apply z_ctR); fail "bt") | ((with_reducible apply z_cfR); fail "bt") | skip)
    | ((with_reducible apply z_ct); fail "bt")
    | ((with_reducible apply z_cf); fail "bt")
    | ((with_reducible apply z_ctR); fail "bt")
    | ((with_reducible apply z_cfR); fail "bt")
    | ((with_reducible apply z_for); fail "ev"; first | with_reducible assumption | assumption)
    | ((with_reducible apply e_for); fail "ev"; first | with_reducible assumption | assumption)
    | ((with_reducible apply e_set); fail "ev"; fail "rs")
    | ((with_reducible apply e_setO); fail "ev"; fail "rs")
    | ((with_reducible apply e_app); exact rfl; fail "ev"; fail "sd"; fail "rs")
    | ((with_reducible apply e_ext); exact rfl; fail "ev"; fail "vw"; fail "sd"; fail "rs")
    | ((with_reducible apply exprS_ev); fail "ev")
    | ((with_reducible apply asgS_ev); fail "ev"; fail "as")
    | ((with_reducible apply z_end); first | with_reducible exact rfl | exact rfl))
local macro_rules
  | `(tactic| fail "run") => `(tactic| (fail "st"; repeat fail "st"))
local macro_rules
  | `(tactic| fail "ex") => `(tactic| repeat (with_reducible apply Exists.intro))
local macro_rules
  | `(tactic| fail "se") => `(tactic| simp only [startE, List.map_cons, List.map_nil, List.length_cons, List.length_nil, Nat.reduceAdd, Nat.reduceSub, Nat.sub_self, List.replicate_succ, List.replicate_zero, List.cons_append, List.nil_append, List.append_nil])
local macro_rules
  | `(tactic| fail "ev") => `(tactic| focus first
    | ((with_reducible apply inO_at); fail "ev"; fail "ev"; fail "vw"; exact rfl; fail "cl"; exact rfl)
    | ((with_reducible apply lenO_at); fail "ev"; fail "vw"; exact rfl; fail "cl"; fail "sd"; fail "sd")
    | ((with_reducible apply ixO_at); fail "ev"; fail "ev"; fail "vw"; exact rfl; fail "cl")
    | ((with_reducible apply newS_at); fail "ev")
    | ((with_reducible apply sortL_at); fail "ev"; fail "vw"; fail "sd")
    | ((with_reducible apply listK_at); fail "ev"; fail "vw"))
/-! ### the law -/
theorem view_fine (ω : List Cell) {d : D} (h : fine d = true) : view ω d = some d := by
  cases d with
  | oid k => exact absurd (fine_iff.mp h).1 (by show ¬ (false = true); exact Bool.false_ne_true)
  | _ => rfl
theorem noO_rep : ∀ n : Nat, noOL (List.replicate n stopP) = true
  | 0 => rfl
  | n + 1 => by rw [List.replicate_succ]; show (DL.noO stopP && noOL (List.replicate n stopP)) = true; rw [noO_rep n]; rfl
theorem rep_flat : ∀ n : Nat, (List.replicate n [stopP]).flatten = List.replicate n stopP
  | 0 => rfl
  | n + 1 => by rw [List.replicate_succ, List.flatten_cons, rep_flat n, List.replicate_succ]; rfl
abbrev W0 : List Cell := [bookC 1, Cell.dic []]
abbrev W1 (lost : Bool) : List Cell := [bookC 1, Cell.dic (kvN (if lost = true then [("g", dDef [] (offP "lost"))] else []))]
theorem due_lost : dueB "lost" 0 1 (.num 5) [] 1 = "" := by decide +kernel
theorem c_tried {n : Nat} {chs : List Row} {lost : Bool} (hn : n ≤ 6) (hz : chs.length ≤ 10) (hr : ∀ r ∈ chs, r.1 ∈ namesL) : ∃ ω', g__law_tried [.lst (chs.map chD), .oid 0, netD (List.replicate n stopP)] (W1 lost) = some (.val (dueD n chs lost) ω') := by
  have hl : (List.replicate n stopP).length = n := List.length_replicate
  have hr2 : ∀ r ∈ chs, r.1.length ≤ 1000 ∧ PySem.PyData.strOk r.1 = true := fun r h => by
    have := namesL_ok r.1 (hr r h)
    exact ⟨by omega, this.2.1⟩
  have hb : (W1 lost)[0]? = some (bookC 1) := rfl
  have hq : (W1 lost)[1]? = some (Cell.dic (kvN (if lost = true then [("g", dDef [] (offP "lost"))] else []))) := rfl
  have nd : ((if lost = true then ([("g", dDef [] (offP "lost"))] : List (Str × D)) else []).map (·.1)).Nodup := by
    cases lost with
    | true => exact List.nodup_cons.mpr ⟨fun z => (by cases z), List.nodup_nil⟩
    | false => exact List.nodup_nil
  have hks : (if lost = true then ([("g", dDef [] (offP "lost"))] : List (Str × D)) else []).length ≤ 20 := by cases lost <;> decide
  unfold dueD
  by_cases h1 : n = 0
  · subst h1
    rw [if_pos (show ((0 : Nat) : Int) = 0 from rfl)]
    exact ⟨_, tried_x (init_few (ps := List.replicate 0 stopP) (chs := chs) (b := 0) (ω := W1 lost) rfl) _ (.inl ⟨_, rfl, rfl⟩)⟩
  · rw [if_neg (by omega)]
    by_cases h2 : 8 < chs.length
    · rw [if_pos h2]
      exact ⟨_, tried_x (init_many (ps := List.replicate n stopP) (chs := chs) (b := 0) (ω := W1 lost) (by omega) (by omega) h2) _ (.inl ⟨_, rfl, rfl⟩)⟩
    · rw [if_neg h2]
      cases hc : chBad n [] chs with
      | some x =>
        refine ⟨_, tried_x (prog_x (ps := List.replicate n stopP) (b := 0) (q := 1) (ω := W1 lost) (by omega) (by omega) (by omega) hb hq nd hks hr2 (by rw [hl]; exact hc)) _ ?_⟩
        rcases (chBad_fine hc).2 with ⟨f, rfl⟩ | ⟨t, rfl⟩
        · exact .inl ⟨f, rfl, rfl⟩
        · exact .inr (.inl ⟨t, rfl, rfl⟩)
      | none =>
        show ∃ ω', _ = some (DL.R.val (if lost = true then _ else _) ω')
        cases lost with
        | true =>
          rw [if_pos rfl]
          have hx : (chs.map (fun r : Row => r.1)).contains ("lost" : Str) = false := by
            rw [← Bool.not_eq_true]
            intro z
            rw [List.contains_iff_mem] at z
            obtain ⟨r, h, e⟩ := List.mem_map.mp z
            have w := (namesL_ok r.1 (hr r h)).2.2.2
            rw [e] at w
            exact absurd w (by decide +kernel)
          exact ⟨_, tried_x (prog_lost (ps := List.replicate n stopP) (b := 0) (q := 1) (ω := W1 true) (g := "g") (x := "lost") (by omega) (by omega) (by omega) hb hq hr2 (by rw [hl]; exact hc) hx) _ (.inr (.inr ⟨_, rfl, rfl⟩))⟩
        | false =>
          rw [if_neg Bool.false_ne_true]
          exact ⟨_, tried_ok (prog_ok (n := n) (b := 0) (q := 1) (ω := W1 false) (by omega) hn (by omega) hb hq hr2 hc) (fun r h => (hr2 r h).2) (by omega)⟩
theorem law_true : ∀ ns : List Int, ns.length ≤ 63 → ∃ ω, g_law [.scr ns] [] = some (.val (.bl true) ω) := by
  intro ns _
  have h4 := c_cell (ns := ns) (k := 0) [] (by decide)
  have h5 : g__law_row [.int (cellI ns 0), .int 2] [] = some (.val (dInts (rowI (cellI ns 0) 2)) []) := c_row (n := 2) [] (by decide)
  have h6 := c_cell (ns := ns) (k := 1) [] (by decide)
  have h7 : g__law_row [.int (cellI ns 1), .int 31] [] = some (.val (dInts (rowI (cellI ns 1) 31)) []) := c_row (n := 31) [] (by decide)
  have lx := rowI_len (cellI ns 0) 2
  have ly := rowI_len (cellI ns 1) 31
  generalize rowI (cellI ns 0) 2 = xs at h5 lx
  generalize rowI (cellI ns 1) 31 = ys at h7 ly
  have r0 : 0 ≤ xs.getD (0 : Int).toNat 0 % 7 := Int.emod_nonneg _ (by decide)
  have r1 : xs.getD (0 : Int).toNat 0 % 7 < 7 := Int.emod_lt_of_pos _ (by decide)
  have e2 : (bo modD (uo intD (bo ixD (vW 1) (M.pure (.int 0)))) (M.pure (.int 7))) [.fz (.scr ns), .fz (dInts xs), .no, .no, .no, .no, .no, .no] [] = some (.val (.int (xs.getD (0 : Int).toNat 0 % 7)) []) :=
    bo_ev (y := .int 7) (ω1 := []) (uo_ev (x := .int (xs.getD (0 : Int).toNat 0)) (ω1 := []) (bo_ev (x := dInts xs) (y := .int 0) (ω1 := []) rfl rfl rfl rfl (ixD_ints (by decide) (by omega))) rfl rfl) rfl rfl rfl (modD_int (by decide))
  generalize xs.getD (0 : Int).toNat 0 % 7 = z at e2 r0 r1
  obtain ⟨n, rfl⟩ := Int.eq_ofNat_of_zero_le r0
  obtain ⟨chs, hz, hr, hch⟩ := c_channels (xs := ys) (mm := (n : Nat)) ly r0 r1 []
  have e4 : (bo eqD (bo modD (uo intD (bo ixD (vW 1) (M.pure (.int 1)))) (M.pure (.int 3))) (M.pure (.int 0))) [.fz (.scr ns), .fz (dInts xs), .fz (.int (n : Nat)), .fz (.lst (chs.map chD)), .no, .no, .no, .no] [] = some (.val (.bl (decide (xs.getD (1 : Int).toNat 0 % 3 = 0))) []) :=
    bo_ev (y := .int 0) (ω1 := []) (bo_ev (y := .int 3) (ω1 := []) (uo_ev (x := .int (xs.getD (1 : Int).toNat 0)) (ω1 := []) (bo_ev (x := dInts xs) (y := .int 1) (ω1 := []) rfl rfl rfl rfl (ixD_ints (by decide) (by omega))) rfl rfl) rfl rfl rfl (modD_int (by decide))) rfl rfl rfl (eqD_int _ _)
  generalize decide (xs.getD (1 : Int).toNat 0 % 3 = 0) = lost at e4
  obtain ⟨ω', ht⟩ := c_tried (n := n) (chs := chs) (lost := lost) (by omega) hz hr
  refine ⟨ω', fnV_rt rfl ?_⟩
  unfold b_law
  refine Eq.trans (seqS_nx (ρ' := [.fz (.scr ns), .fz (dInts xs), .no, .no, .no, .no, .no, .no]) (ω' := []) (setS_ev (calM_ev (ds := [.int (cellI ns 0), .int 2]) (ω1 := []) (cons_ev (ω1 := []) (calM_ev (ds := [.scr ns, .int 0]) (ω1 := []) rfl h4) (cons_ev (d := .int 2) (ω1 := []) rfl (ds := []) (ω2 := []) rfl)) h5))) ?_
  refine Eq.trans (seqS_nx (setS_ev e2)) ?_
  refine Eq.trans (seqS_nx (ρ' := [.fz (.scr ns), .fz (dInts xs), .fz (.int (n : Nat)), .fz (.lst (chs.map chD)), .no, .no, .no, .no]) (ω' := []) (setS_ev (calM_ev (ds := [dInts ys, .int (n : Nat)]) (ω1 := []) (cons_ev (ω1 := []) (calM_ev (ds := [.int (cellI ns 1), .int 31]) (ω1 := []) (cons_ev (ω1 := []) (calM_ev (ds := [.scr ns, .int 1]) (ω1 := []) rfl h6) (cons_ev (d := .int 31) (ω1 := []) rfl (ds := []) (ω2 := []) rfl)) h7) (cons_ev (d := .int (n : Nat)) (ω1 := []) rfl (ds := []) (ω2 := []) rfl)) hch))) ?_
  refine Eq.trans (seqS_nx (setS_ev e4)) ?_
  refine Eq.trans (seqS_nx (ρ' := [.fz (.scr ns), .fz (dInts xs), .fz (.int (n : Nat)), .fz (.lst (chs.map chD)), .fz (.bl lost), .fz (.oid 0), .no, .no]) (ω' := W0) rfl) ?_
  refine Eq.trans (seqS_nx (ρ' := [.fz (.scr ns), .fz (dInts xs), .fz (.int (n : Nat)), .fz (.lst (chs.map chD)), .fz (.bl lost), .fz (.oid 0), .no, .no]) (ω' := W1 lost) ?_) ?_
  · have t : (truM (vW 4)) [.fz (.scr ns), .fz (dInts xs), .fz (.int (n : Nat)), .fz (.lst (chs.map chD)), .fz (.bl lost), .fz (.oid 0), .no, .no] W0 = some (.val lost W0) := truM_ev (b := lost) (ω' := W0) rfl
    cases lost with
    | true =>
      refine (ifS_t t).trans ?_
      have ho := (c_offer (ch := "lost") (t := 0) (s := 1) (o := .num 5) (xs := []) (gv := .lst []) (gv' := .lst []) (kind := "choice") (parts := []) (d := 1) W0 (by decide +kernel) trivial rfl rfl (fun o h => by cases h) (by decide) (by decide) rfl).trans (if_pos due_lost)
      exact putO_at (ω1 := W0) (ω2 := W0) (ω3 := W0) (d := dDef [] (offP "lost")) (mkdef_ev (ps := []) (b := offP "lost") (v := .lst []) (v' := .lst []) (ω1 := W0) (cons_ev (d := .lst []) (ω1 := W0) rfl (cons_ev (d := offP "lost") (ω1 := W0) (calM_ev (ds := [.str "lost", .int 0, .int 1, .int 5, .lst [], stopP]) (ω1 := W0) (cons_ev (ω1 := W0) rfl (cons_ev (ω1 := W0) rfl (cons_ev (ω1 := W0) rfl (cons_ev (ω1 := W0) rfl (cons_ev (d := .lst []) (ω1 := W0) rfl (cons_ev (d := stopP) (ω1 := W0) (calM_ev (ds := []) (ω1 := W0) rfl (c_stop W0)) (ds := []) rfl)))))) ho) (ds := []) rfl)) rfl rfl (fun o h => by cases h) (by decide) rfl rfl) rfl rfl rfl rfl
        (c_bset (ω := W0) (b := 0) (q := 1) (kvs := []) (n := "g") (d := dDef [] (offP "lost")) rfl rfl (by decide +kernel) (by decide +kernel) (.inr (by decide)) (by decide))
    | false => exact ifS_f t
  have em : (bo mulLD (((consM (calM g_Process_stop (M.pure [])) (M.pure [])).bind lenOk).bind fun ds => M.pure (.lst ds)) (vW 2)) [.fz (.scr ns), .fz (dInts xs), .fz (.int (n : Nat)), .fz (.lst (chs.map chD)), .fz (.bl lost), .fz (.oid 0), .no, .no] (W1 lost) = some (.val (.lst (List.replicate n stopP)) (W1 lost)) := by
    refine bo_ev (x := .lst [stopP]) (y := .int (n : Nat)) (ω1 := W1 lost) ?_ rfl rfl rfl ?_
    · refine y_bind (a := [stopP]) (ω1 := W1 lost) (y_bind (a := [stopP]) (ω1 := W1 lost) (cons_ev (d := stopP) (ω1 := W1 lost) (calM_ev (ds := []) (ω1 := W1 lost) rfl (c_stop (W1 lost))) (ds := []) rfl) rfl) rfl
    · refine (mulLD_ev (by omega) (by omega) (by decide)).trans ?_
      rw [show ((n : Nat) : Int).toNat = n from Int.toNat_natCast n, rep_flat]
  refine Eq.trans (seqS_nx (setS_ev (mkNet_ev (ps := List.replicate n stopP) (v := .lst (List.replicate n stopP)) (ω1 := W1 lost) (cons_ev (ω1 := W1 lost) em (ds := []) rfl) rfl (by rw [List.length_replicate]; omega) (noO_rep n)))) ?_
  refine Eq.trans (seqS_nx (ρ' := [.fz (.scr ns), .fz (dInts xs), .fz (.int (n : Nat)), .fz (.lst (chs.map chD)), .fz (.bl lost), .fz (.oid 0), .fz (netD (List.replicate n stopP)), .fz (.lst (chs.map chD))]) (ω' := W1 lost) (setS_ev (bo_ev (x := .lst (chs.map chD)) (y := .lst []) (ω1 := W1 lost) rfl rfl rfl rfl ?_))) ?_
  · show (if _ then some (D.lst (chs.map chD ++ [])) else none) = _
    rw [List.append_nil, if_pos (by rw [sizeLine_eq]; simp; omega)]
  have f1 : (bo eqD (calM g__law_tried (consM (vF 7) (consM (vF 5) (consM (vF 6) (M.pure []))))) (calM g__law_due (consM (vF 2) (consM (vF 3) (consM (vF 4) (M.pure [])))))) [.fz (.scr ns), .fz (dInts xs), .fz (.int (n : Nat)), .fz (.lst (chs.map chD)), .fz (.bl lost), .fz (.oid 0), .fz (netD (List.replicate n stopP)), .fz (.lst (chs.map chD))] (W1 lost) = some (.val (.bl true) ω') :=
    bo_ev (x := dueD n chs lost) (y := dueD n chs lost) (ω1 := ω') (ω2 := ω') (calM_ev (ds := [.lst (chs.map chD), .oid 0, netD (List.replicate n stopP)]) (ω1 := W1 lost) rfl ht) (calM_ev (ds := [.int (n : Nat), .lst (chs.map chD), .bl lost]) (ω1 := ω') rfl (c_due hz hr ω')) (view_fine ω' (dueD_fine n chs lost)) (view_fine ω' (dueD_fine n chs lost)) (eqD_same (dueD_fine n chs lost))
  have f2 : (bo eqD (vW 7) (vW 3)) [.fz (.scr ns), .fz (dInts xs), .fz (.int (n : Nat)), .fz (.lst (chs.map chD)), .fz (.bl lost), .fz (.oid 0), .fz (netD (List.replicate n stopP)), .fz (.lst (chs.map chD))] ω' = some (.val (.bl true) ω') :=
    bo_ev (x := .lst (chs.map chD)) (y := .lst (chs.map chD)) (ω1 := ω') rfl rfl rfl rfl (eqD_same (fine_rows fun r h => (namesL_ok r.1 (hr r h)).2.1))
  refine retS_ev ?_
  rw [andV_t f1]
  exact f2
end L11
open PySem PySem.W PyProof.Rows
set_option maxRecDepth 100000 in
set_option maxHeartbeats 0 in
theorem PySem.Challenge.cw_fullseats_k11_channels_checked_holds : PySem.Challenge.rw_fullseats_k11_channels_checked.Holds := by
  w_on; o_law; k_head; (case hw => w_witness2)
  k_fill
  refine L11.walk (l := PySem.Challenge.rw_fullseats_k11_channels_checked) rfl rfl (fun w h Y => PySem.W.kIn_of Y) ?F L11.law_true
  case F =>
    intro w mg h KX G
    refine' L11.txt_mk KX G ?h_a_Definition ?h_pg_Definition ?h_hd_Definition ?h_po_Definition ?h_sa_Definition ?h_mk_Definition ?h_kc_Definition ?h_a_Book ?h_pg_Book ?h_hd_Book ?h_po_Book ?h_sa_Book ?h_mk_Book ?h_kc_Book ?h_a_Process ?h_pg_Process ?h_hd_Process ?h_po_Process ?h_sa_Process ?h_mk_Process ?h_kc_Process ?h_a_Net ?h_pg_Net ?h_hd_Net ?h_po_Net ?h_sa_Net ?h_mk_Net ?h_kc_Net ?h_a_Program ?h_pg_Program ?h_hd_Program ?h_po_Program ?h_sa_Program ?h_mk_Program ?h_kc_Program ?h_qr_Process ?h_qg_Process ?h_n_Definition_body ?h_n_Program_channel_rows ?h_n_Process_depth ?h_n_Process_kind ?h_n_Program_known ?h_n_Program_machines ?h_n_Definition_params ?h_n_Process_parts ?h_n_Book_rows ?h_n_Net_rows ?h_n_Process_size ?h_n_Program_starts ?h_b_abs ?h_b_all ?h_b_bool ?h_b_dict ?h_b_int ?h_b_isinstance ?h_b_iter ?h_b_len ?h_b_list ?h_b_max ?h_b_range ?h_b_set ?h_b_sorted ?h_b_str ?h_b_tuple ?h_sq_Book ?h_ga_RESERVED ?h_gl_RESERVED ?h_c_DIGITS ?h_c_LETTERS ?h_c_MOST_CHANNELS ?h_c_MOST_DEFINITIONS ?h_c_MOST_DEPTH ?h_c_MOST_MACHINES ?h_c_MOST_OPERANDS ?h_c_MOST_PARAMS ?h_c_MOST_SEATS ?h_c_MOST_SIGNS ?h_c_MOST_SIZE ?h_c_VALUE_LIMIT ?h_at_is_name ?h_lk_is_name ?h_cd_is_name ?h_kp_is_name ?h_at_is_number ?h_lk_is_number ?h_cd_is_number ?h_kp_is_number ?h_at_is_operand ?h_lk_is_operand ?h_cd_is_operand ?h_kp_is_operand ?h_at_are_unlike_names ?h_lk_are_unlike_names ?h_cd_are_unlike_names ?h_kp_are_unlike_names ?h_at_Definition___init__ ?h_fn_Definition___init__ ?h_lk_Definition___init__ ?h_cd_Definition___init__ ?h_kp_Definition___init__ ?h_at_Book___getitem__ ?h_fn_Book___getitem__ ?h_lk_Book___getitem__ ?h_cd_Book___getitem__ ?h_kp_Book___getitem__ ?h_at_Book___setitem__ ?h_fn_Book___setitem__ ?h_lk_Book___setitem__ ?h_cd_Book___setitem__ ?h_kp_Book___setitem__ ?h_at_check_seats ?h_lk_check_seats ?h_cd_check_seats ?h_kp_check_seats ?h_at_Process___init__ ?h_fn_Process___init__ ?h_lk_Process___init__ ?h_cd_Process___init__ ?h_kp_Process___init__ ?h_at_built ?h_lk_built ?h_cd_built ?h_kp_built ?h_sc_Process_stop ?h_sx_Process_stop ?h_lk_Process_stop ?h_cd_Process_stop ?h_kp_Process_stop ?h_sc_Process_offer ?h_sx_Process_offer ?h_lk_Process_offer ?h_cd_Process_offer ?h_kp_Process_offer ?h_sc_Process_new ?h_sx_Process_new ?h_lk_Process_new ?h_cd_Process_new ?h_kp_Process_new ?h_sc_Process_call ?h_sx_Process_call ?h_lk_Process_call ?h_cd_Process_call ?h_kp_Process_call ?h_at_Net___init__ ?h_fn_Net___init__ ?h_lk_Net___init__ ?h_cd_Net___init__ ?h_kp_Net___init__ ?h_at_Net___len__ ?h_fn_Net___len__ ?h_lk_Net___len__ ?h_cd_Net___len__ ?h_kp_Net___len__ ?h_at_Net___getitem__ ?h_fn_Net___getitem__ ?h_lk_Net___getitem__ ?h_cd_Net___getitem__ ?h_kp_Net___getitem__ ?h_at_check_channels ?h_lk_check_channels ?h_cd_check_channels ?h_kp_check_channels ?h_at_direct_calls ?h_lk_direct_calls ?h_cd_direct_calls ?h_kp_direct_calls ?h_at_check_endless ?h_lk_check_endless ?h_cd_check_endless ?h_kp_check_endless ?h_at_check_operand ?h_lk_check_operand ?h_cd_check_operand ?h_kp_check_operand ?h_at_check_names ?h_lk_check_names ?h_cd_check_names ?h_kp_check_names ?h_at_Program___init__ ?h_fn_Program___init__ ?h_lk_Program___init__ ?h_cd_Program___init__ ?h_kp_Program___init__ ?h_at_Program_declared ?h_fn_Program_declared ?h_lk_Program_declared ?h_cd_Program_declared ?h_kp_Program_declared ?h_at__law_cell_at ?h_lk__law_cell_at ?h_cd__law_cell_at ?h_kp__law_cell_at ?h_at__law_mixed ?h_lk__law_mixed ?h_cd__law_mixed ?h_kp__law_mixed ?h_at__law_row ?h_lk__law_row ?h_cd__law_row ?h_kp__law_row ?h_at__law_channels ?h_lk__law_channels ?h_cd__law_channels ?h_kp__law_channels ?h_at__law_due ?h_lk__law_due ?h_cd__law_due ?h_kp__law_due ?h_at__law_tried ?h_lk__law_tried ?h_cd__law_tried ?h_kp__law_tried ?h_at_law ?h_lk_law ?h_cd_law ?h_kp_law ?h_at_it_Book ?h_fn_it_Book ?h_lk_it_Book ?h_cd_it_Book ?h_kp_it_Book ?h_at_mk0_Book ?h_fn_mk0_Book ?h_lk_mk0_Book ?h_dt_mk0_Book ?h_t0_mk0_Book ?h_cd_mk0_Book ?h_kp_mk0_Book ?h_a_BadTerm ?h_a_Endless ?h_a_NoMachine ?h_a_NoName ?h_a_SeatsError ?h_a_WrongCount ?h_sr_SeatsError ?h_sg_SeatsError ?h_sf_SeatsError ?h_cbe_BadTerm ?h_chd_BadTerm ?h_cty_BadTerm ?h_ce_BadTerm_BadTerm ?h_ce_BadTerm_Endless ?h_ce_BadTerm_NoMachine ?h_ce_BadTerm_NoName ?h_ce_BadTerm_WrongCount ?h_cbe_NoMachine ?h_chd_NoMachine ?h_cty_NoMachine ?h_ce_NoMachine_BadTerm ?h_ce_NoMachine_Endless ?h_ce_NoMachine_NoMachine ?h_ce_NoMachine_NoName ?h_ce_NoMachine_WrongCount ?h_cbe_NoName ?h_chd_NoName ?h_cty_NoName ?h_ce_NoName_BadTerm ?h_ce_NoName_Endless ?h_ce_NoName_NoMachine ?h_ce_NoName_NoName ?h_ce_NoName_WrongCount ?h_xga_BadTerm ?h_xgg_BadTerm ?h_xbe_BadTerm ?h_xhd_BadTerm ?h_xno_BadTerm ?h_xga_NoMachine ?h_xgg_NoMachine ?h_xbe_NoMachine ?h_xhd_NoMachine ?h_xno_NoMachine ?h_xga_NoName ?h_xgg_NoName ?h_xbe_NoName ?h_xhd_NoName ?h_xno_NoName ?h_xo_BadTerm ?h_xsa_BadTerm ?h_xex_BadTerm ?h_xty_BadTerm ?h_xkc_BadTerm ?h_xnf_BadTerm ?h_at_x_BadTerm ?h_ft_x_BadTerm ?h_lk_x_BadTerm ?h_cd_x_BadTerm ?h_kp_x_BadTerm ?h_xo_Endless ?h_xsa_Endless ?h_xex_Endless ?h_xty_Endless ?h_xkc_Endless ?h_xnf_Endless ?h_at_x_Endless ?h_ft_x_Endless ?h_lk_x_Endless ?h_cd_x_Endless ?h_kp_x_Endless ?h_xo_NoMachine ?h_xsa_NoMachine ?h_xex_NoMachine ?h_xty_NoMachine ?h_xkc_NoMachine ?h_xnf_NoMachine ?h_at_x_NoMachine ?h_ft_x_NoMachine ?h_lk_x_NoMachine ?h_cd_x_NoMachine ?h_kp_x_NoMachine ?h_xo_NoName ?h_xsa_NoName ?h_xex_NoName ?h_xty_NoName ?h_xkc_NoName ?h_xnf_NoName ?h_at_x_NoName ?h_ft_x_NoName ?h_lk_x_NoName ?h_cd_x_NoName ?h_kp_x_NoName ?h_xo_WrongCount ?h_xsa_WrongCount ?h_xex_WrongCount ?h_xty_WrongCount ?h_xkc_WrongCount ?h_xnf_WrongCount ?h_at_x_WrongCount ?h_ft_x_WrongCount ?h_lk_x_WrongCount ?h_cd_x_WrongCount ?h_kp_x_WrongCount
    (case h_a_Definition => k_is)
    (case h_pg_Definition => k_is)
    (case h_hd_Definition => k_is)
    (case h_po_Definition => k_is)
    (case h_sa_Definition => k_is)
    (case h_mk_Definition => k_is)
    (case h_kc_Definition => k_is)
    (case h_a_Book => k_is)
    (case h_pg_Book => k_is)
    (case h_hd_Book => k_is)
    (case h_po_Book => k_is)
    (case h_sa_Book => k_is)
    (case h_mk_Book => k_is)
    (case h_kc_Book => k_is)
    (case h_a_Process => k_is)
    (case h_pg_Process => k_is)
    (case h_hd_Process => k_is)
    (case h_po_Process => k_is)
    (case h_sa_Process => k_is)
    (case h_mk_Process => k_is)
    (case h_kc_Process => k_is)
    (case h_a_Net => k_is)
    (case h_pg_Net => k_is)
    (case h_hd_Net => k_is)
    (case h_po_Net => k_is)
    (case h_sa_Net => k_is)
    (case h_mk_Net => k_is)
    (case h_kc_Net => k_is)
    (case h_a_Program => k_is)
    (case h_pg_Program => k_is)
    (case h_hd_Program => k_is)
    (case h_po_Program => k_is)
    (case h_sa_Program => k_is)
    (case h_mk_Program => k_is)
    (case h_kc_Program => k_is)
    (case h_qr_Process => k_is)
    (case h_qg_Process => k_is)
    (case h_n_Definition_body => k_is)
    (case h_n_Program_channel_rows => k_is)
    (case h_n_Process_depth => k_is)
    (case h_n_Process_kind => k_is)
    (case h_n_Program_known => k_is)
    (case h_n_Program_machines => k_is)
    (case h_n_Definition_params => k_is)
    (case h_n_Process_parts => k_is)
    (case h_n_Book_rows => k_is)
    (case h_n_Net_rows => k_is)
    (case h_n_Process_size => k_is)
    (case h_n_Program_starts => k_is)
    (case h_b_abs => k_is)
    (case h_b_all => k_is)
    (case h_b_bool => k_is)
    (case h_b_dict => k_is)
    (case h_b_int => k_is)
    (case h_b_isinstance => k_is)
    (case h_b_iter => k_is)
    (case h_b_len => k_is)
    (case h_b_list => k_is)
    (case h_b_max => k_is)
    (case h_b_range => k_is)
    (case h_b_set => k_is)
    (case h_b_sorted => k_is)
    (case h_b_str => k_is)
    (case h_b_tuple => k_is)
    (case h_sq_Book => k_is)
    (case h_ga_RESERVED => k_is)
    (case h_gl_RESERVED => k_is)
    (case h_c_DIGITS => k_is)
    (case h_c_LETTERS => k_is)
    (case h_c_MOST_CHANNELS => k_is)
    (case h_c_MOST_DEFINITIONS => k_is)
    (case h_c_MOST_DEPTH => k_is)
    (case h_c_MOST_MACHINES => k_is)
    (case h_c_MOST_OPERANDS => k_is)
    (case h_c_MOST_PARAMS => k_is)
    (case h_c_MOST_SEATS => k_is)
    (case h_c_MOST_SIGNS => k_is)
    (case h_c_MOST_SIZE => k_is)
    (case h_c_VALUE_LIMIT => k_is)
    (case h_at_is_name => k_is)
    (case h_lk_is_name => k_is)
    (case h_cd_is_name => k_is)
    (case h_kp_is_name => k_is)
    (case h_at_is_number => k_is)
    (case h_lk_is_number => k_is)
    (case h_cd_is_number => k_is)
    (case h_kp_is_number => k_is)
    (case h_at_is_operand => k_is)
    (case h_lk_is_operand => k_is)
    (case h_cd_is_operand => k_is)
    (case h_kp_is_operand => k_is)
    (case h_at_are_unlike_names => k_is)
    (case h_lk_are_unlike_names => k_is)
    (case h_cd_are_unlike_names => k_is)
    (case h_kp_are_unlike_names => k_is)
    (case h_at_Definition___init__ => k_is)
    (case h_fn_Definition___init__ => k_is)
    (case h_lk_Definition___init__ => k_is)
    (case h_cd_Definition___init__ => k_is)
    (case h_kp_Definition___init__ => k_is)
    (case h_at_Book___getitem__ => k_is)
    (case h_fn_Book___getitem__ => k_is)
    (case h_lk_Book___getitem__ => k_is)
    (case h_cd_Book___getitem__ => k_is)
    (case h_kp_Book___getitem__ => k_is)
    (case h_at_Book___setitem__ => k_is)
    (case h_fn_Book___setitem__ => k_is)
    (case h_lk_Book___setitem__ => k_is)
    (case h_cd_Book___setitem__ => k_is)
    (case h_kp_Book___setitem__ => k_is)
    (case h_at_check_seats => k_is)
    (case h_lk_check_seats => k_is)
    (case h_cd_check_seats => k_is)
    (case h_kp_check_seats => k_is)
    (case h_at_Process___init__ => k_is)
    (case h_fn_Process___init__ => k_is)
    (case h_lk_Process___init__ => k_is)
    (case h_cd_Process___init__ => k_is)
    (case h_kp_Process___init__ => k_is)
    (case h_at_built => k_is)
    (case h_lk_built => k_is)
    (case h_cd_built => k_is)
    (case h_kp_built => k_is)
    (case h_sc_Process_stop => k_is)
    (case h_sx_Process_stop => k_is)
    (case h_lk_Process_stop => k_is)
    (case h_cd_Process_stop => k_is)
    (case h_kp_Process_stop => k_is)
    (case h_sc_Process_offer => k_is)
    (case h_sx_Process_offer => k_is)
    (case h_lk_Process_offer => k_is)
    (case h_cd_Process_offer => k_is)
    (case h_kp_Process_offer => k_is)
    (case h_sc_Process_new => k_is)
    (case h_sx_Process_new => k_is)
    (case h_lk_Process_new => k_is)
    (case h_cd_Process_new => k_is)
    (case h_kp_Process_new => k_is)
    (case h_sc_Process_call => k_is)
    (case h_sx_Process_call => k_is)
    (case h_lk_Process_call => k_is)
    (case h_cd_Process_call => k_is)
    (case h_kp_Process_call => k_is)
    (case h_at_Net___init__ => k_is)
    (case h_fn_Net___init__ => k_is)
    (case h_lk_Net___init__ => k_is)
    (case h_cd_Net___init__ => k_is)
    (case h_kp_Net___init__ => k_is)
    (case h_at_Net___len__ => k_is)
    (case h_fn_Net___len__ => k_is)
    (case h_lk_Net___len__ => k_is)
    (case h_cd_Net___len__ => k_is)
    (case h_kp_Net___len__ => k_is)
    (case h_at_Net___getitem__ => k_is)
    (case h_fn_Net___getitem__ => k_is)
    (case h_lk_Net___getitem__ => k_is)
    (case h_cd_Net___getitem__ => k_is)
    (case h_kp_Net___getitem__ => k_is)
    (case h_at_check_channels => k_is)
    (case h_lk_check_channels => k_is)
    (case h_cd_check_channels => k_is)
    (case h_kp_check_channels => k_is)
    (case h_at_direct_calls => k_is)
    (case h_lk_direct_calls => k_is)
    (case h_cd_direct_calls => k_is)
    (case h_kp_direct_calls => k_is)
    (case h_at_check_endless => k_is)
    (case h_lk_check_endless => k_is)
    (case h_cd_check_endless => k_is)
    (case h_kp_check_endless => k_is)
    (case h_at_check_operand => k_is)
    (case h_lk_check_operand => k_is)
    (case h_cd_check_operand => k_is)
    (case h_kp_check_operand => k_is)
    (case h_at_check_names => k_is)
    (case h_lk_check_names => k_is)
    (case h_cd_check_names => k_is)
    (case h_kp_check_names => k_is)
    (case h_at_Program___init__ => k_is)
    (case h_fn_Program___init__ => k_is)
    (case h_lk_Program___init__ => k_is)
    (case h_cd_Program___init__ => k_is)
    (case h_kp_Program___init__ => k_is)
    (case h_at_Program_declared => k_is)
    (case h_fn_Program_declared => k_is)
    (case h_lk_Program_declared => k_is)
    (case h_cd_Program_declared => k_is)
    (case h_kp_Program_declared => k_is)
    (case h_at__law_cell_at => k_is)
    (case h_lk__law_cell_at => k_is)
    (case h_cd__law_cell_at => k_is)
    (case h_kp__law_cell_at => k_is)
    (case h_at__law_mixed => k_is)
    (case h_lk__law_mixed => k_is)
    (case h_cd__law_mixed => k_is)
    (case h_kp__law_mixed => k_is)
    (case h_at__law_row => k_is)
    (case h_lk__law_row => k_is)
    (case h_cd__law_row => k_is)
    (case h_kp__law_row => k_is)
    (case h_at__law_channels => k_is)
    (case h_lk__law_channels => k_is)
    (case h_cd__law_channels => k_is)
    (case h_kp__law_channels => k_is)
    (case h_at__law_due => k_is)
    (case h_lk__law_due => k_is)
    (case h_cd__law_due => k_is)
    (case h_kp__law_due => k_is)
    (case h_at__law_tried => k_is)
    (case h_lk__law_tried => k_is)
    (case h_cd__law_tried => k_is)
    (case h_kp__law_tried => k_is)
    (case h_at_law => k_is)
    (case h_lk_law => k_is)
    (case h_cd_law => k_is)
    (case h_kp_law => k_is)
    (case h_at_it_Book => k_is)
    (case h_fn_it_Book => k_is)
    (case h_lk_it_Book => k_is)
    (case h_cd_it_Book => k_is)
    (case h_kp_it_Book => k_is)
    (case h_at_mk0_Book => k_is)
    (case h_fn_mk0_Book => k_is)
    (case h_lk_mk0_Book => k_is)
    (case h_dt_mk0_Book => k_is)
    (case h_t0_mk0_Book => k_is)
    (case h_cd_mk0_Book => k_is)
    (case h_kp_mk0_Book => k_is)
    (case h_a_BadTerm => k_is)
    (case h_a_Endless => k_is)
    (case h_a_NoMachine => k_is)
    (case h_a_NoName => k_is)
    (case h_a_SeatsError => k_is)
    (case h_a_WrongCount => k_is)
    (case h_sr_SeatsError => k_is)
    (case h_sg_SeatsError => k_is)
    (case h_sf_SeatsError => k_is)
    (case h_cbe_BadTerm => k_is)
    (case h_chd_BadTerm => k_is)
    (case h_cty_BadTerm => k_is)
    (case h_ce_BadTerm_BadTerm => first | rfl | k_is)
    (case h_ce_BadTerm_Endless => first | rfl | k_is)
    (case h_ce_BadTerm_NoMachine => first | rfl | k_is)
    (case h_ce_BadTerm_NoName => first | rfl | k_is)
    (case h_ce_BadTerm_WrongCount => first | rfl | k_is)
    (case h_cbe_NoMachine => k_is)
    (case h_chd_NoMachine => k_is)
    (case h_cty_NoMachine => k_is)
    (case h_ce_NoMachine_BadTerm => first | rfl | k_is)
    (case h_ce_NoMachine_Endless => first | rfl | k_is)
    (case h_ce_NoMachine_NoMachine => first | rfl | k_is)
    (case h_ce_NoMachine_NoName => first | rfl | k_is)
    (case h_ce_NoMachine_WrongCount => first | rfl | k_is)
    (case h_cbe_NoName => k_is)
    (case h_chd_NoName => k_is)
    (case h_cty_NoName => k_is)
    (case h_ce_NoName_BadTerm => first | rfl | k_is)
    (case h_ce_NoName_Endless => first | rfl | k_is)
    (case h_ce_NoName_NoMachine => first | rfl | k_is)
    (case h_ce_NoName_NoName => first | rfl | k_is)
    (case h_ce_NoName_WrongCount => first | rfl | k_is)
    (case h_xga_BadTerm => k_is)
    (case h_xgg_BadTerm => k_is)
    (case h_xbe_BadTerm => k_is)
    (case h_xhd_BadTerm => k_is)
    (case h_xno_BadTerm => k_is)
    (case h_xga_NoMachine => k_is)
    (case h_xgg_NoMachine => k_is)
    (case h_xbe_NoMachine => k_is)
    (case h_xhd_NoMachine => k_is)
    (case h_xno_NoMachine => k_is)
    (case h_xga_NoName => k_is)
    (case h_xgg_NoName => k_is)
    (case h_xbe_NoName => k_is)
    (case h_xhd_NoName => k_is)
    (case h_xno_NoName => k_is)
    (case h_xo_BadTerm => k_is)
    (case h_xsa_BadTerm => k_is)
    (case h_xex_BadTerm => k_is)
    (case h_xty_BadTerm => k_is)
    (case h_xkc_BadTerm => k_is)
    (case h_xnf_BadTerm => k_is)
    (case h_at_x_BadTerm => k_is)
    (case h_ft_x_BadTerm => k_is)
    (case h_lk_x_BadTerm => k_is)
    (case h_cd_x_BadTerm => k_is)
    (case h_kp_x_BadTerm => k_is)
    (case h_xo_Endless => k_is)
    (case h_xsa_Endless => k_is)
    (case h_xex_Endless => k_is)
    (case h_xty_Endless => k_is)
    (case h_xkc_Endless => k_is)
    (case h_xnf_Endless => k_is)
    (case h_at_x_Endless => k_is)
    (case h_ft_x_Endless => k_is)
    (case h_lk_x_Endless => k_is)
    (case h_cd_x_Endless => k_is)
    (case h_kp_x_Endless => k_is)
    (case h_xo_NoMachine => k_is)
    (case h_xsa_NoMachine => k_is)
    (case h_xex_NoMachine => k_is)
    (case h_xty_NoMachine => k_is)
    (case h_xkc_NoMachine => k_is)
    (case h_xnf_NoMachine => k_is)
    (case h_at_x_NoMachine => k_is)
    (case h_ft_x_NoMachine => k_is)
    (case h_lk_x_NoMachine => k_is)
    (case h_cd_x_NoMachine => k_is)
    (case h_kp_x_NoMachine => k_is)
    (case h_xo_NoName => k_is)
    (case h_xsa_NoName => k_is)
    (case h_xex_NoName => k_is)
    (case h_xty_NoName => k_is)
    (case h_xkc_NoName => k_is)
    (case h_xnf_NoName => k_is)
    (case h_at_x_NoName => k_is)
    (case h_ft_x_NoName => k_is)
    (case h_lk_x_NoName => k_is)
    (case h_cd_x_NoName => k_is)
    (case h_kp_x_NoName => k_is)
    (case h_xo_WrongCount => k_is)
    (case h_xsa_WrongCount => k_is)
    (case h_xex_WrongCount => k_is)
    (case h_xty_WrongCount => k_is)
    (case h_xkc_WrongCount => k_is)
    (case h_xnf_WrongCount => k_is)
    (case h_at_x_WrongCount => k_is)
    (case h_ft_x_WrongCount => k_is)
    (case h_lk_x_WrongCount => k_is)
    (case h_cd_x_WrongCount => k_is)
    (case h_kp_x_WrongCount => k_is)
