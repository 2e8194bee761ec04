import PyProof.Rows.All
import Wide.All
import OpenK.AllK
import Wide.FinOn
import HandS.ForMost
import HandS.Walk
import HandS.Flow
import HandS.Exc
import HandS.ExcOwn
import HandS.TryOnly
import HandS.WordsExc
import HandS.Wide
import HandS.IsInst
import HandS.TupAny
import HandS.RaiseMore
import PyProof.ReprRoads
import HandS.SortInts
import HandS.Zip
import KE.GoesMore
import KE.GoesEnum
import HandS.SetTxt0
import HandS.SetTxtIn
import HandS.TupSets
import HandS.More
import HandS.Ends
import HandS.EndBits
import PySem.Challenge.RW_loneguess_k00_integers_names_letters_and
set_option Elab.async false
set_option linter.all false
set_option maxRecDepth 100000
/-! Pu1: plain data D over the abstract heap; a store of changing things; the monad M; what a run promises. -/
namespace Pu
open PySem L2

inductive D where
  | non | bl (b : Bool) | int (i : Int) | str (x : Str)
  | tup (xs : List D) | lst (xs : List D) | frz (xs : List D) | dic (kvs : List (Key × D))
  | obj (C : Str) (fs : List (Str × D))
  | cell (i : Nat) | ty (n : String) | adr (x : Str)
  deriving Inhabited

/-- what a cell holds -/
inductive MO where
  | lst (xs : List D) | dic (kvs : List (Key × D)) | obj (C : Str) (fs : List (Str × D)) | dead
  deriving Inhabited
abbrev Sto := List MO

/-- the abstract heap, the cells' addresses, the cells -/
structure Mem where
  H : Hp
  as : List Addr
  μ : Sto
  pv : List Addr
/-- what may still change: a cell, or a list that is being made -/
def Mem.live (m : Mem) (a : Addr) : Prop := (∃ (i : Nat) (o : MO), m.as[i]? = some a ∧ m.μ[i]? = some o ∧ o ≠ MO.dead) ∨ a ∈ m.pv

/-- the fixed part: what the top has written, where its classes and named objects stand -/
structure Wd where
  K : PySem.W.Frag
  ca : Str → Addr

def PurL (W : Wd) (m : Mem) (a : Addr) (vs : List V) : Prop := (Rd m.H a (.lst vs) ∧ ¬ m.live a) ∨ ∀ H, SqL W.K H a vs
def PurT (W : Wd) (m : Mem) (a : Addr) (vs : List V) : Prop := (Rd m.H a (.tup vs) ∧ ¬ m.live a) ∨ ∀ H, SqT W.K H a vs
theorem PurL.sq {W : Wd} {m : Mem} {a : Addr} {vs : List V} : PurL W m a vs → SqL W.K m.H a vs
  | .inl h => .inl h.1
  | .inr h => h _
theorem PurT.sq {W : Wd} {m : Mem} {a : Addr} {vs : List V} : PurT W m a vs → SqT W.K m.H a vs
  | .inl h => .inl h.1
  | .inr h => h _

mutual
inductive Den (W : Wd) (m : Mem) : D → V → Prop
  | non : Den W m .non .non
  | bl (b) : Den W m (.bl b) (.bl b)
  | int (i) : Den W m (.int i) (.int i)
  | str (x) : Den W m (.str x) (.str x)
  | ty (n) : Den W m (.ty n) (.ty n)
  | adr (x) : Den W m (.adr x) (.ref (W.ca x))
  | cell {i a} : m.as[i]? = some a → Den W m (.cell i) (.ref a)
  | tup {ds a vs} : PurT W m a vs → DenL W m ds vs → Den W m (.tup ds) (.ref a)
  | lst {ds a vs} : m.H a = some (.lst vs) → ¬ m.live a → DenL W m ds vs → Den W m (.lst ds) (.ref a)
  | frz {ds a vs} : PurL W m a vs → DenL W m ds vs → Den W m (.frz ds) (.ref a)
  | dic {kvs a kv'} : m.H a = some (.dK kv') → ¬ m.live a → DenK W m kvs kv' → Den W m (.dic kvs) (.ref a)
  | obj {C fs a dx fv} : m.H a = some (.ins (W.ca C) dx fv) → ¬ m.live a → DenF W m fs fv → Den W m (.obj C fs) (.ref a)
inductive DenL (W : Wd) (m : Mem) : List D → List V → Prop
  | nil : DenL W m [] []
  | cons {d v ds vs} : Den W m d v → DenL W m ds vs → DenL W m (d :: ds) (v :: vs)
inductive DenK (W : Wd) (m : Mem) : List (Key × D) → List (Key × V) → Prop
  | nil : DenK W m [] []
  | cons {k d v ds vs} : Den W m d v → DenK W m ds vs → DenK W m ((k, d) :: ds) ((k, v) :: vs)
inductive DenF (W : Wd) (m : Mem) : List (Str × D) → List (Str × V) → Prop
  | nil : DenF W m [] []
  | cons {k d v ds vs} : Den W m d v → DenF W m ds vs → DenF W m ((k, d) :: ds) ((k, v) :: vs)
end

def CellOk (W : Wd) (m : Mem) : MO → Addr → Prop
  | .lst ds, a => ∃ vs, m.H a = some (.lst vs) ∧ DenL W m ds vs
  | .dic kvs, a => ∃ kv', m.H a = some (.dK kv') ∧ DenK W m kvs kv'
  | .obj C fs, a => ∃ dx fv, m.H a = some (.ins (W.ca C) dx fv) ∧ DenF W m fs fv
  | .dead, _ => True
structure Okm (W : Wd) (m : Mem) : Prop where
  len : m.as.length = m.μ.length
  nd : m.as.Nodup
  tr : ∀ a ∈ m.as, ∃ o, m.H a = some o
  pvt : ∀ a ∈ m.pv, (∃ o, m.H a = some o) ∧ a ∉ m.as
  ok : ∀ (i : Nat) (o : MO) (a : Addr), m.μ[i]? = some o → m.as[i]? = some a → CellOk W m o a

structure Step (m m' : Mem) : Prop where
  ext : ∃ l, m'.as = m.as ++ l
  keep : ∀ a o, m.H a = some o → ¬ m.live a → m'.H a = some o
  live : ∀ a, m'.live a → m.live a ∨ m.H a = none
  pv : m'.pv = m.pv
  pvk : ∀ a ∈ m.pv, m'.H a = m.H a

theorem Step.refl (m : Mem) : Step m m := ⟨⟨[], by simp⟩, fun _ _ h _ => h, fun _ h => .inl h, rfl, fun _ _ => rfl⟩
theorem Step.dead {m m' : Mem} (s : Step m m') {a : Addr} {o : HO} (h : m.H a = some o) (n : ¬ m.live a) : ¬ m'.live a := fun l => by
  rcases s.live a l with l | l
  · exact n l
  · rw [h] at l; cases l
theorem Step.trans {m m1 m2 : Mem} (s : Step m m1) (t : Step m1 m2) : Step m m2 := by
  refine ⟨?_, fun a o h n => t.keep a o (s.keep a o h n) (s.dead h n), fun a l => ?_, t.pv.trans s.pv, fun a h => (t.pvk a (by rw [s.pv]; exact h)).trans (s.pvk a h)⟩
  · obtain ⟨l, e⟩ := s.ext
    obtain ⟨k, e'⟩ := t.ext
    exact ⟨l ++ k, by rw [e', e, List.append_assoc]⟩
  · by_cases h : m.live a
    · exact .inl h
    · right
      cases e : m.H a with
      | none => rfl
      | some o =>
        rcases t.live a l with l | l
        · exact absurd l (s.dead e h)
        · rw [s.keep a o e h] at l; cases l

/-- what stood still stands still -/
structure Up (m n : Mem) : Prop where
  as : ∀ (i : Nat) (a : Addr), m.as[i]? = some a → n.as[i]? = some a
  keep : ∀ a o, m.H a = some o → ¬ m.live a → n.H a = some o ∧ ¬ n.live a
theorem Step.as {m m' : Mem} (s : Step m m') {i : Nat} {a : Addr} (h : m.as[i]? = some a) : m'.as[i]? = some a := by
  obtain ⟨l, e⟩ := s.ext
  rw [e, List.getElem?_append_left (List.getElem?_eq_some_iff.mp h).1]
  exact h
theorem Step.up {m m' : Mem} (s : Step m m') : Up m m' := ⟨fun _ _ h => s.as h, fun a o h n => ⟨s.keep a o h n, s.dead h n⟩⟩
theorem Up.rd {m n : Mem} (s : Up m n) {a : Addr} {u : HO} (h : Rd m.H a u) (l : ¬ m.live a) : Rd n.H a u ∧ ¬ n.live a := by
  rcases h with h | ⟨o, h⟩
  · exact ⟨.inl (s.keep a _ h l).1, (s.keep a _ h l).2⟩
  · exact ⟨.inr ⟨o, (s.keep a _ h l).1⟩, (s.keep a _ h l).2⟩
theorem PurL.up {W : Wd} {m n : Mem} {a : Addr} {vs : List V} (s : Up m n) : PurL W m a vs → PurL W n a vs
  | .inl h => .inl (s.rd h.1 h.2)
  | .inr h => .inr h
theorem PurT.up {W : Wd} {m n : Mem} {a : Addr} {vs : List V} (s : Up m n) : PurT W m a vs → PurT W n a vs
  | .inl h => .inl (s.rd h.1 h.2)
  | .inr h => .inr h
theorem PurL.mono {W : Wd} {m m' : Mem} {a : Addr} {vs : List V} (s : Step m m') (h : PurL W m a vs) : PurL W m' a vs := h.up s.up
theorem PurT.mono {W : Wd} {m m' : Mem} {a : Addr} {vs : List V} (s : Step m m') (h : PurT W m a vs) : PurT W m' a vs := h.up s.up
mutual
theorem Den.up {W : Wd} {m m' : Mem} (s : Up m m') : ∀ {d : D} {v : V}, Den W m d v → Den W m' d v
  | _, _, .non => .non
  | _, _, .bl b => .bl b
  | _, _, .int i => .int i
  | _, _, .str x => .str x
  | _, _, .ty n => .ty n
  | _, _, .adr x => .adr x
  | _, _, .cell h => .cell (s.as _ _ h)
  | _, _, .tup h l => .tup (h.up s) (DenL.up s l)
  | _, _, .lst h n l => .lst (s.keep _ _ h n).1 (s.keep _ _ h n).2 (DenL.up s l)
  | _, _, .frz h l => .frz (h.up s) (DenL.up s l)
  | _, _, .dic h n l => .dic (s.keep _ _ h n).1 (s.keep _ _ h n).2 (DenK.up s l)
  | _, _, .obj h n l => .obj (s.keep _ _ h n).1 (s.keep _ _ h n).2 (DenF.up s l)
theorem DenL.up {W : Wd} {m m' : Mem} (s : Up m m') : ∀ {ds : List D} {vs : List V}, DenL W m ds vs → DenL W m' ds vs
  | _, _, .nil => .nil
  | _, _, .cons h t => .cons (Den.up s h) (DenL.up s t)
theorem DenK.up {W : Wd} {m m' : Mem} (s : Up m m') : ∀ {ds : List (Key × D)} {vs : List (Key × V)}, DenK W m ds vs → DenK W m' ds vs
  | _, _, .nil => .nil
  | _, _, .cons h t => .cons (Den.up s h) (DenK.up s t)
theorem DenF.up {W : Wd} {m m' : Mem} (s : Up m m') : ∀ {ds : List (Str × D)} {vs : List (Str × V)}, DenF W m ds vs → DenF W m' ds vs
  | _, _, .nil => .nil
  | _, _, .cons h t => .cons (Den.up s h) (DenF.up s t)
end
theorem Den.mono {W : Wd} {m m' : Mem} (s : Step m m') {d : D} {v : V} (h : Den W m d v) : Den W m' d v := h.up s.up
theorem DenL.mono {W : Wd} {m m' : Mem} (s : Step m m') {d : List D} {v : List V} (h : DenL W m d v) : DenL W m' d v := h.up s.up
theorem DenK.mono {W : Wd} {m m' : Mem} (s : Step m m') {d : List (Key × D)} {v : List (Key × V)} (h : DenK W m d v) : DenK W m' d v := h.up s.up
theorem DenF.mono {W : Wd} {m m' : Mem} (s : Step m m') {d : List (Str × D)} {v : List (Str × V)} (h : DenF W m d v) : DenF W m' d v := h.up s.up

section
variable {W : Wd} {m m' : Mem}
theorem DenL.length : ∀ {ds : List D} {vs : List V}, DenL W m ds vs → ds.length = vs.length
  | _, _, .nil => rfl
  | _, _, .cons _ t => by rw [List.length_cons, List.length_cons, DenL.length t]
theorem DenL.get : ∀ {ds : List D} {vs : List V} {i : Nat} {d : D}, DenL W m ds vs → ds[i]? = some d → ∃ v, vs[i]? = some v ∧ Den W m d v
  | _, _, _, _, .nil, e => by simp at e
  | _, _, 0, _, .cons h _, e => by
    have e' := Option.some.inj e
    subst e'
    exact ⟨_, rfl, h⟩
  | _, _, i + 1, d, .cons _ t, e => DenL.get (i := i) (d := d) t e
theorem DenL.getV : ∀ {ds : List D} {vs : List V} {i : Nat} {v : V}, DenL W m ds vs → vs[i]? = some v → ∃ d, ds[i]? = some d ∧ Den W m d v
  | _, _, _, _, .nil, e => by simp at e
  | _, _, 0, _, .cons h _, e => by
    have e' := Option.some.inj e
    subst e'
    exact ⟨_, rfl, h⟩
  | _, _, i + 1, d, .cons _ t, e => DenL.getV (i := i) (v := d) t e
theorem DenL.append : ∀ {ds es : List D} {vs ws : List V}, DenL W m ds vs → DenL W m es ws → DenL W m (ds ++ es) (vs ++ ws)
  | _, _, _, _, .nil, s => s
  | _, _, _, _, .cons r t, s => .cons r (DenL.append t s)
theorem DenL.take : ∀ {ds : List D} {vs : List V} (n : Nat), DenL W m ds vs → DenL W m (ds.take n) (vs.take n)
  | _, _, 0, _ => .nil
  | _, _, _ + 1, .nil => .nil
  | _, _, n + 1, .cons r t => .cons r (DenL.take n t)
theorem DenL.drop : ∀ {ds : List D} {vs : List V} (n : Nat), DenL W m ds vs → DenL W m (ds.drop n) (vs.drop n)
  | _, _, 0, r => r
  | _, _, _ + 1, .nil => .nil
  | _, _, n + 1, .cons _ t => DenL.drop n t
theorem DenL.set {d : D} {v : V} (r : Den W m d v) : ∀ {ds : List D} {vs : List V} (i : Nat), DenL W m ds vs → DenL W m (ds.set i d) (vs.set i v)
  | _, _, _, .nil => .nil
  | _, _, 0, .cons _ t => .cons r t
  | _, _, i + 1, .cons q t => .cons q (DenL.set r i t)
theorem DenL.ints : ∀ (ns : List Int), DenL W m (ns.map D.int) (ns.map V.int)
  | [] => .nil
  | n :: r => .cons (.int n) (DenL.ints r)
theorem DenL.of_ints : ∀ {ns : List Int} {vs : List V}, DenL W m (ns.map D.int) vs → vs = ns.map V.int
  | [], _, .nil => rfl
  | _ :: _, _, .cons h t => by cases h; rw [DenL.of_ints t]; rfl
theorem DenL.bls : ∀ (ns : List Bool), DenL W m (ns.map D.bl) (ns.map V.bl)
  | [] => .nil
  | n :: r => .cons (.bl n) (DenL.bls r)
theorem DenL.of_bls : ∀ {ns : List Bool} {vs : List V}, DenL W m (ns.map D.bl) vs → vs = ns.map V.bl
  | [], _, .nil => rfl
  | _ :: _, _, .cons h t => by cases h; rw [DenL.of_bls t]; rfl
theorem DenL.strs : ∀ (ns : List Str), DenL W m (ns.map D.str) (ns.map V.str)
  | [] => .nil
  | n :: r => .cons (.str n) (DenL.strs r)
theorem DenL.of_strs : ∀ {ns : List Str} {vs : List V}, DenL W m (ns.map D.str) vs → vs = ns.map V.str
  | [], _, .nil => rfl
  | _ :: _, _, .cons h t => by cases h; rw [DenL.of_strs t]; rfl

/-! ### the heap grows by one thing; by one cell; a cell changes; a cell dies -/
def Mem.put (m : Mem) (p : Addr) (o : HO) : Mem := { m with H := upd m.H p o }
theorem Okm.notin (g : Okm W m) {p : Addr} (h : m.H p = none) : p ∉ m.as := fun z => by
  obtain ⟨o, e⟩ := g.tr p z
  rw [h] at e; cases e
theorem Okm.nolive (g : Okm W m) {p : Addr} (h : m.H p = none) : ¬ m.live p := by
  rintro (⟨i, _, e, _⟩ | e)
  · exact g.notin h (List.mem_of_getElem? e)
  · obtain ⟨⟨o, z⟩, _⟩ := g.pvt p e
    rw [h] at z; cases z
theorem step_put (g : Okm W m) {p : Addr} {o : HO} (h : m.H p = none) : Step m (m.put p o) :=
  ⟨⟨[], by simp [Mem.put]⟩, fun a u e _ => by show upd m.H p o a = some u; rw [upd_ne (ne_of_none e h)]; exact e, fun _ l => .inl l, rfl, fun a ha => by
    obtain ⟨⟨u, e⟩, _⟩ := g.pvt a ha
    show upd m.H p o a = m.H a
    rw [upd_ne (ne_of_none e h)]⟩
theorem CellOk.up (s : Up m m') {o : MO} {a : Addr} (h : CellOk W m o a) (e : ∀ u, m.H a = some u → m'.H a = some u) : CellOk W m' o a := by
  cases o with
  | lst ds => obtain ⟨vs, h1, h2⟩ := h; exact ⟨vs, e _ h1, h2.up s⟩
  | dic kvs => obtain ⟨vs, h1, h2⟩ := h; exact ⟨vs, e _ h1, h2.up s⟩
  | obj C fs => obtain ⟨dx, vs, h1, h2⟩ := h; exact ⟨dx, vs, e _ h1, h2.up s⟩
  | dead => exact h
theorem CellOk.mono (s : Step m m') {o : MO} {a : Addr} (h : CellOk W m o a) (e : ∀ u, m.H a = some u → m'.H a = some u) : CellOk W m' o a := h.up s.up e
theorem good_put (g : Okm W m) {p : Addr} {o : HO} (h : m.H p = none) : Okm W (m.put p o) := by
  have hu : ∀ a u, m.H a = some u → upd m.H p o a = some u := fun a u e => by rw [upd_ne (ne_of_none e h)]; exact e
  refine ⟨g.len, g.nd, fun a ha => ?_, fun a ha => ⟨let ⟨u, e⟩ := (g.pvt a ha).1; ⟨u, hu a u e⟩, (g.pvt a ha).2⟩, fun i u a e1 e2 => (g.ok i u a e1 e2).mono (step_put g h) (hu a)⟩
  obtain ⟨u, e⟩ := g.tr a ha
  exact ⟨u, hu a u e⟩
theorem live_put {p a : Addr} {o : HO} : (m.put p o).live a ↔ m.live a := Iff.rfl
/-- a new tuple, a new list that stays as it is -/
theorem den_tup (g : Okm W m) {p : Addr} {ds : List D} {vs : List V} (h : m.H p = none) (l : DenL W m ds vs) : Den W (m.put p (.tup vs)) (.tup ds) (.ref p) :=
  .tup (.inl ⟨.inl upd_same, g.nolive h⟩) (l.mono (step_put g h))
theorem den_lst (g : Okm W m) {p : Addr} {ds : List D} {vs : List V} (h : m.H p = none) (l : DenL W m ds vs) : Den W (m.put p (.lst vs)) (.lst ds) (.ref p) :=
  .lst upd_same (g.nolive h) (l.mono (step_put g h))
theorem den_dic (g : Okm W m) {p : Addr} {ds : List (Key × D)} {vs : List (Key × V)} (h : m.H p = none) (l : DenK W m ds vs) : Den W (m.put p (.dK vs)) (.dic ds) (.ref p) :=
  .dic upd_same (g.nolive h) (l.mono (step_put g h))

/-- a new cell -/
def Mem.grow (m : Mem) (p : Addr) (o : HO) (c : MO) : Mem := { m with H := upd m.H p o, as := m.as ++ [p], μ := m.μ ++ [c] }
theorem live_grow (g : Okm W m) {p a : Addr} {o : HO} {c : MO} (l : (m.grow p o c).live a) : m.live a ∨ a = p := by
  obtain ⟨i, u, e1, e2, n⟩ | l := l
  case inr => exact .inl (.inr l)
  by_cases hi : i < m.as.length
  · left
    refine .inl ⟨i, u, ?_, ?_, n⟩
    · have e1' : (m.as ++ [p])[i]? = some a := e1
      rw [List.getElem?_append_left hi] at e1'; exact e1'
    · have e2' : (m.μ ++ [c])[i]? = some u := e2
      rw [List.getElem?_append_left (by rw [← g.len]; exact hi)] at e2'; exact e2'
  · right
    have e1' : (m.as ++ [p])[i]? = some a := e1
    rw [List.getElem?_append_right (by omega)] at e1'
    cases h : i - m.as.length with
    | zero => rw [h] at e1'; exact (Option.some.inj e1').symm
    | succ k => rw [h] at e1'; simp at e1'
theorem step_grow (g : Okm W m) {p : Addr} {o : HO} {c : MO} (h : m.H p = none) : Step m (m.grow p o c) :=
  ⟨⟨[p], rfl⟩, fun a u e _ => by show upd m.H p o a = some u; rw [upd_ne (ne_of_none e h)]; exact e, fun a l => by
    rcases live_grow g l with l | rfl
    · exact .inl l
    · exact .inr h, rfl, fun a ha => by
    obtain ⟨⟨u, e⟩, _⟩ := g.pvt a ha
    show upd m.H p o a = m.H a
    rw [upd_ne (ne_of_none e h)]⟩
theorem good_grow (g : Okm W m) {p : Addr} {o : HO} {c : MO} (h : m.H p = none) (hc : CellOk W (m.grow p o c) c p) : Okm W (m.grow p o c) := by
  have hu : ∀ a u, m.H a = some u → upd m.H p o a = some u := fun a u e => by rw [upd_ne (ne_of_none e h)]; exact e
  refine ⟨by simp [Mem.grow, g.len], ?_, fun a ha => ?_, fun a ha => ?_, fun i u a e1 e2 => ?_⟩
  · show (m.as ++ [p]).Nodup
    rw [List.nodup_append]
    exact ⟨g.nd, by simp, fun a ha b hb => by
      have : b = p := by simpa using hb
      subst this
      rintro rfl
      exact g.notin h ha⟩
  · have ha' : a ∈ m.as ++ [p] := ha
    rcases List.mem_append.mp ha' with ha' | ha'
    · obtain ⟨u, e⟩ := g.tr a ha'
      exact ⟨u, hu a u e⟩
    · have : a = p := by simpa using ha'
      subst this
      exact ⟨o, upd_same⟩
  · obtain ⟨⟨u, e⟩, n⟩ := g.pvt a ha
    refine ⟨⟨u, hu a u e⟩, fun z => ?_⟩
    rcases List.mem_append.mp (show a ∈ m.as ++ [p] from z) with z | z
    · exact n z
    · have : a = p := by simpa using z
      subst this
      rw [h] at e; cases e
  · have e1' : (m.μ ++ [c])[i]? = some u := e1
    have e2' : (m.as ++ [p])[i]? = some a := e2
    by_cases hi : i < m.as.length
    · rw [List.getElem?_append_left (by rw [← g.len]; exact hi)] at e1'
      rw [List.getElem?_append_left hi] at e2'
      exact (g.ok i u a e1' e2').mono (step_grow g h) (hu a)
    · rw [List.getElem?_append_right (by rw [← g.len]; omega)] at e1'
      rw [List.getElem?_append_right (by omega)] at e2'
      rw [← g.len] at e1'
      cases hz : i - m.as.length with
      | zero =>
        rw [hz] at e1' e2'
        cases e1'; cases e2'; exact hc
      | succ k => rw [hz] at e2'; simp at e2'
theorem den_grow {p : Addr} {o : HO} {c : MO} : Den W (m.grow p o c) (.cell m.as.length) (.ref p) := .cell (by show (m.as ++ [p])[m.as.length]? = some p; simp)

/-- the i-th cell, at a, is written -/
def Mem.wr (m : Mem) (i : Nat) (a : Addr) (o : HO) (c : MO) : Mem := { m with H := upd m.H a o, μ := m.μ.set i c }
theorem live_wr {i : Nat} {a b : Addr} {o : HO} {c : MO} (hi : m.as[i]? = some a) (hl : m.live a) (l : (m.wr i a o c).live b) : m.live b := by
  obtain ⟨j, u, e1, e2, n⟩ | l := l
  case inr => exact .inr l
  have e2' : (m.μ.set i c)[j]? = some u := e2
  by_cases h : i = j
  · subst h
    have e1' : m.as[i]? = some b := e1
    rw [hi] at e1'; cases e1'; exact hl
  · rw [List.getElem?_set_ne h] at e2'
    exact .inl ⟨j, u, e1, e2', n⟩
theorem step_wr (g : Okm W m) {i : Nat} {a : Addr} {o : HO} {c : MO} (hi : m.as[i]? = some a) (hl : m.live a) : Step m (m.wr i a o c) :=
  ⟨⟨[], by simp [Mem.wr]⟩, fun b u e n => by
    show upd m.H a o b = some u
    have hb : b ≠ a := fun z => n (by rw [z]; exact hl)
    rw [upd_ne hb]; exact e, fun b l => .inl (live_wr hi hl l), rfl, fun b hb => by
    have ne : b ≠ a := fun z => (g.pvt b hb).2 (by rw [z]; exact List.mem_of_getElem? hi)
    show upd m.H a o b = m.H b
    rw [upd_ne ne]⟩
theorem good_wr (g : Okm W m) {i : Nat} {a : Addr} {o : HO} {c : MO} (hi : m.as[i]? = some a) (hl : m.live a) (hc : CellOk W (m.wr i a o c) c a) : Okm W (m.wr i a o c) := by
  have tr : ∀ b, (∃ u, m.H b = some u) → ∃ u, upd m.H a o b = some u := fun b ⟨u, e⟩ => by
    by_cases h : b = a
    · subst h; exact ⟨o, upd_same⟩
    · exact ⟨u, by rw [upd_ne h]; exact e⟩
  refine ⟨by simp [Mem.wr, g.len], g.nd, fun b hb => tr b (g.tr b hb), fun b hb => ⟨tr b (g.pvt b hb).1, (g.pvt b hb).2⟩, fun j u b e1 e2 => ?_⟩
  · have e1' : (m.μ.set i c)[j]? = some u := e1
    have e2' : m.as[j]? = some b := e2
    by_cases h : i = j
    · subst h
      rw [hi] at e2'; cases e2'
      have hlt : i < m.μ.length := by rw [← g.len]; exact (List.getElem?_eq_some_iff.mp hi).1
      rw [List.getElem?_set_self hlt] at e1'
      cases e1'; exact hc
    · rw [List.getElem?_set_ne h] at e1'
      refine (g.ok j u b e1' e2').mono (step_wr g hi hl) fun w e => ?_
      show upd m.H a o b = some w
      rw [upd_ne (fun z => h ?_)]
      · exact e
      · obtain ⟨h1, z1⟩ := List.getElem?_eq_some_iff.mp hi
        obtain ⟨h2, z2⟩ := List.getElem?_eq_some_iff.mp e2'
        exact (List.getElem_inj g.nd).mp (z1.trans (z ▸ z2.symm))
/-- the i-th cell changes no more -/
def Mem.die (m : Mem) (i : Nat) : Mem := { m with μ := m.μ.set i .dead }
theorem live_die {i : Nat} {b : Addr} (l : (m.die i).live b) : m.live b := by
  obtain ⟨j, u, e1, e2, n⟩ | l := l
  case inr => exact .inr l
  have e2' : (m.μ.set i .dead)[j]? = some u := e2
  by_cases h : i = j
  · subst h
    rw [List.getElem?_set] at e2'
    simp at e2'
    obtain ⟨_, e⟩ := e2'
    exact absurd e.symm n
  · rw [List.getElem?_set_ne h] at e2'
    exact .inl ⟨j, u, e1, e2', n⟩
theorem die_live (g : Okm W m) {i : Nat} {a : Addr} (hi : m.as[i]? = some a) : ¬ (m.die i).live a := by
  rintro (⟨j, u, e1, e2, n⟩ | l)
  case inr => exact (g.pvt a l).2 (List.mem_of_getElem? hi)
  have e1' : m.as[j]? = some a := e1
  have e2' : (m.μ.set i .dead)[j]? = some u := e2
  have hij : i = j := by
    obtain ⟨h1, z1⟩ := List.getElem?_eq_some_iff.mp hi
    obtain ⟨h2, z2⟩ := List.getElem?_eq_some_iff.mp e1'
    exact (List.getElem_inj g.nd).mp (z1.trans z2.symm)
  subst hij
  rw [List.getElem?_set] at e2'
  simp at e2'
  exact n e2'.2.symm
theorem step_die {i : Nat} : Step m (m.die i) := ⟨⟨[], by simp [Mem.die]⟩, fun _ _ e _ => e, fun b l => .inl (live_die l), rfl, fun _ _ => rfl⟩
theorem good_die (g : Okm W m) {i : Nat} : Okm W (m.die i) := by
  refine ⟨by simp [Mem.die, g.len], g.nd, g.tr, g.pvt, fun j u b e1 e2 => ?_⟩
  have e1' : (m.μ.set i .dead)[j]? = some u := e1
  by_cases h : i = j
  · subst h
    rw [List.getElem?_set] at e1'
    simp at e1'
    rw [← e1'.2]
    trivial
  · rw [List.getElem?_set_ne h] at e1'
    exact (g.ok j u b e1' e2).mono step_die fun _ e => e
end

section
variable {W : Wd} {m m' : Mem}
/-- a list that is being made, at D: it begins, it grows, it is made -/
def Mem.opn (m : Mem) (D : Addr) (vs : List V) : Mem := { m with H := upd m.H D (.lst vs), pv := D :: m.pv }
def Mem.gro (m : Mem) (D : Addr) (vs : List V) : Mem := { m with H := upd m.H D (.lst vs) }
def Mem.cls (m : Mem) (l : List Addr) : Mem := { m with pv := l }
theorem up_opn {D : Addr} {vs : List V} (h : m.H D = none) : Up m (m.opn D vs) :=
  ⟨fun _ _ e => e, fun a o e n => ⟨by show upd m.H D _ a = some o; rw [upd_ne (ne_of_none e h)]; exact e, fun l => by
    rcases l with l | l
    · exact n (.inl l)
    · rcases List.mem_cons.mp (show a ∈ D :: m.pv from l) with z | z
      · subst z; rw [h] at e; cases e
      · exact n (.inr z)⟩⟩
theorem okm_opn (g : Okm W m) {D : Addr} {vs : List V} (h : m.H D = none) : Okm W (m.opn D vs) := by
  have hu : ∀ a u, m.H a = some u → upd m.H D (.lst vs) a = some u := fun a u e => by rw [upd_ne (ne_of_none e h)]; exact e
  refine ⟨g.len, g.nd, fun a ha => let ⟨u, e⟩ := g.tr a ha; ⟨u, hu a u e⟩, fun a ha => ?_, fun i o a e1 e2 => (g.ok i o a e1 e2).up (up_opn h) (hu a)⟩
  rcases List.mem_cons.mp (show a ∈ D :: m.pv from ha) with z | z
  · subst z; exact ⟨⟨_, upd_same⟩, g.notin h⟩
  · exact ⟨let ⟨u, e⟩ := (g.pvt a z).1; ⟨u, hu a u e⟩, (g.pvt a z).2⟩
theorem up_gro {D : Addr} {vs : List V} (h : D ∈ m.pv) : Up m (m.gro D vs) :=
  ⟨fun _ _ e => e, fun a o e n => ⟨by
    have z : a ≠ D := fun z => n (.inr (by rw [z]; exact h))
    show upd m.H D _ a = some o; rw [upd_ne z]; exact e, fun l => n l⟩⟩
theorem okm_gro (g : Okm W m) {D : Addr} {vs : List V} (h : D ∈ m.pv) : Okm W (m.gro D vs) := by
  have hu : ∀ a u, a ≠ D → m.H a = some u → upd m.H D (.lst vs) a = some u := fun a u z e => by rw [upd_ne z]; exact e
  have na : ∀ a ∈ m.as, a ≠ D := fun a ha z => (g.pvt D h).2 (z ▸ ha)
  refine ⟨g.len, g.nd, fun a ha => let ⟨u, e⟩ := g.tr a ha; ⟨u, hu a u (na a ha) e⟩, fun a ha => ⟨?_, (g.pvt a ha).2⟩, fun i o a e1 e2 => (g.ok i o a e1 e2).up (up_gro h) fun u e => hu a u (na a (List.mem_of_getElem? e2)) e⟩
  by_cases z : a = D
  · subst z; exact ⟨_, upd_same⟩
  · obtain ⟨u, e⟩ := (g.pvt a ha).1
    exact ⟨u, hu a u z e⟩
theorem up_cls {D : Addr} {l : List Addr} (h : m.pv = D :: l) : Up m (m.cls l) :=
  ⟨fun _ _ e => e, fun a o e n => ⟨e, fun z => n (by
    rcases z with z | z
    · exact .inl z
    · exact .inr (by rw [h]; exact List.mem_cons_of_mem _ z))⟩⟩
theorem okm_cls (g : Okm W m) {D : Addr} {l : List Addr} (h : m.pv = D :: l) : Okm W (m.cls l) :=
  ⟨g.len, g.nd, g.tr, fun a ha => g.pvt a (by rw [h]; exact List.mem_cons_of_mem _ ha), fun i o a e1 e2 => (g.ok i o a e1 e2).up (up_cls h) fun _ e => e⟩
/-- from the opening on, seen from ahead: D is new, all else steps -/
structure Mk (m m' : Mem) (D : Addr) : Prop where
  ext : ∃ l, m'.as = m.as ++ l
  keep : ∀ a o, m.H a = some o → ¬ m.live a → m'.H a = some o
  live : ∀ a, m'.live a → m.live a ∨ m.H a = none
  pv : m'.pv = D :: m.pv
  pvk : ∀ a ∈ m.pv, m'.H a = m.H a
theorem Mk.opn (g : Okm W m) {D : Addr} {vs : List V} (h : m.H D = none) : Mk m (m.opn D vs) D :=
  ⟨⟨[], by simp [Mem.opn]⟩, fun a o e n => ((up_opn h).keep a o e n).1, fun a l => by
    rcases l with l | l
    · exact .inl (.inl l)
    · rcases List.mem_cons.mp (show a ∈ D :: m.pv from l) with z | z
      · subst z; exact .inr h
      · exact .inl (.inr z), rfl, fun a ha => by
    obtain ⟨⟨u, e⟩, _⟩ := g.pvt a ha
    show upd m.H D _ a = m.H a
    rw [upd_ne (ne_of_none e h)]⟩
theorem Mk.step {m1 : Mem} {D : Addr} (k : Mk m m1 D) (s : Step m1 m') : Mk m m' D := by
  have dead : ∀ a o, m.H a = some o → ¬ m.live a → ¬ m1.live a := fun a o e n l => by
    rcases k.live a l with z | z
    · exact n z
    · rw [e] at z; cases z
  refine ⟨?_, fun a o e n => s.keep a o (k.keep a o e n) (dead a o e n), fun a l => ?_, s.pv.trans k.pv, fun a h => (s.pvk a (by rw [k.pv]; exact List.mem_cons_of_mem _ h)).trans (k.pvk a h)⟩
  · obtain ⟨x, e⟩ := k.ext
    obtain ⟨y, e'⟩ := s.ext
    exact ⟨x ++ y, by rw [e', e, List.append_assoc]⟩
  · by_cases h : m.live a
    · exact .inl h
    · right
      cases e : m.H a with
      | none => rfl
      | some o =>
        rcases s.live a l with z | z
        · exact absurd z (dead a o e h)
        · rw [k.keep a o e h] at z; cases z
theorem Mk.gro (g : Okm W m) {m1 : Mem} {D : Addr} {vs : List V} (hD : m.H D = none) (k : Mk m m1 D) : Mk m (m1.gro D vs) D :=
  ⟨k.ext, fun a o e n => by show upd m1.H D _ a = some o; rw [upd_ne (ne_of_none e hD)]; exact k.keep a o e n, fun a l => k.live a l, k.pv, fun a ha => by
    obtain ⟨⟨u, e⟩, _⟩ := g.pvt a ha
    show upd m1.H D _ a = m.H a
    rw [upd_ne (ne_of_none e hD)]
    exact k.pvk a ha⟩
theorem Mk.cls {m1 : Mem} {D : Addr} (k : Mk m m1 D) : Step m (m1.cls m.pv) :=
  ⟨k.ext, k.keep, fun a l => k.live a (by
    rcases l with l | l
    · exact .inl l
    · exact .inr (by rw [k.pv]; exact List.mem_cons_of_mem _ l)), rfl, k.pvk⟩
theorem Mk.up {m1 : Mem} {D : Addr} (k : Mk m m1 D) : Up m m1 := by
  refine ⟨fun i a e => ?_, fun a o e n => ⟨k.keep a o e n, fun l => ?_⟩⟩
  · obtain ⟨l, h⟩ := k.ext
    rw [h, List.getElem?_append_left (List.getElem?_eq_some_iff.mp e).1]
    exact e
  · rcases k.live a l with z | z
    · exact n z
    · rw [e] at z; cases z
theorem Mk.new (g : Okm W m) {m1 : Mem} {D : Addr} (hD : m.H D = none) (g1 : Okm W m1) (k : Mk m m1 D) : D ∉ m1.as ∧ D ∉ m.pv := by
  refine ⟨(g1.pvt D (by rw [k.pv]; exact List.mem_cons_self)).2, fun z => ?_⟩
  obtain ⟨⟨u, e⟩, _⟩ := g.pvt D z
  rw [hD] at e; cases e
/-- the list is made, and becomes a cell -/
def Mem.fix (m : Mem) (D : Addr) (l : List Addr) (ds : List Pu.D) : Mem := { m with as := m.as ++ [D], μ := m.μ ++ [.lst ds], pv := l }
theorem Mk.fix (g : Okm W m) {m1 : Mem} {D : Addr} (hD : m.H D = none) (g1 : Okm W m1) (k : Mk m m1 D) {ds : List Pu.D} {vs : List V} (h1 : m1.H D = some (.lst vs)) (l1 : DenL W m1 ds vs) :
    Step m (m1.fix D m.pv ds) ∧ Okm W (m1.fix D m.pv ds) := by
  obtain ⟨n1, n2⟩ := k.new g hD g1
  have lv : ∀ a, (m1.fix D m.pv ds).live a → a = D ∨ (m1.live a ∧ a ≠ D) ∨ a ∈ m.pv := by
    rintro a (⟨i, u, e1, e2, n⟩ | l)
    · have e1' : (m1.as ++ [D])[i]? = some a := e1
      have e2' : (m1.μ ++ [.lst ds])[i]? = some u := e2
      by_cases hi : i < m1.as.length
      · rw [List.getElem?_append_left hi] at e1'
        rw [List.getElem?_append_left (by rw [← g1.len]; exact hi)] at e2'
        exact .inr (.inl ⟨.inl ⟨i, u, e1', e2', n⟩, fun z => n1 (by rw [← z]; exact List.mem_of_getElem? e1')⟩)
      · rw [List.getElem?_append_right (by omega)] at e1'
        cases h : i - m1.as.length with
        | zero => rw [h] at e1'; exact .inl (Option.some.inj e1').symm
        | succ j => rw [h] at e1'; simp at e1'
    · exact .inr (.inr l)
  have st : Step m (m1.fix D m.pv ds) := by
    refine ⟨?_, k.keep, fun a l => ?_, rfl, k.pvk⟩
    · obtain ⟨l, e⟩ := k.ext
      exact ⟨l ++ [D], by show m1.as ++ [D] = _; rw [e, List.append_assoc]⟩
    · rcases lv a l with z | z | z
      · rw [z]; exact .inr hD
      · exact k.live a z.1
      · exact .inl (.inr z)
  have up : Up m1 (m1.fix D m.pv ds) := by
    refine ⟨fun i a e => ?_, fun a o e n => ⟨e, fun l => ?_⟩⟩
    · show (m1.as ++ [D])[i]? = some a
      rw [List.getElem?_append_left (List.getElem?_eq_some_iff.mp e).1]
      exact e
    · rcases lv a l with z | z | z
      · exact n (.inr (by rw [z, k.pv]; exact List.mem_cons_self))
      · exact n z.1
      · exact n (.inr (by rw [k.pv]; exact List.mem_cons_of_mem _ z))
  refine ⟨st, by show (m1.as ++ [D]).length = (m1.μ ++ [_]).length; simp [g1.len], ?_, fun a ha => ?_, fun a ha => ?_, fun i u a e1 e2 => ?_⟩
  · show (m1.as ++ [D]).Nodup
    rw [List.nodup_append]
    exact ⟨g1.nd, by simp, fun a ha b hb => by
      have : b = D := by simpa using hb
      subst this
      rintro rfl
      exact n1 ha⟩
  · rcases List.mem_append.mp (show a ∈ m1.as ++ [D] from ha) with z | z
    · exact g1.tr a z
    · have : a = D := by simpa using z
      subst this
      exact ⟨_, h1⟩
  · have hp : a ∈ m1.pv := by rw [k.pv]; exact List.mem_cons_of_mem _ ha
    refine ⟨(g1.pvt a hp).1, fun z => ?_⟩
    rcases List.mem_append.mp (show a ∈ m1.as ++ [D] from z) with z | z
    · exact (g1.pvt a hp).2 z
    · have : a = D := by simpa using z
      exact n2 (by rw [← this]; exact ha)
  · have e1' : (m1.μ ++ [.lst ds])[i]? = some u := e1
    have e2' : (m1.as ++ [D])[i]? = some a := e2
    by_cases hi : i < m1.as.length
    · rw [List.getElem?_append_left (by rw [← g1.len]; exact hi)] at e1'
      rw [List.getElem?_append_left hi] at e2'
      exact (g1.ok i u a e1' e2').up up fun _ e => e
    · rw [List.getElem?_append_right (by rw [← g1.len]; omega)] at e1'
      rw [List.getElem?_append_right (by omega)] at e2'
      rw [← g1.len] at e1'
      cases hz : i - m1.as.length with
      | zero =>
        rw [hz] at e1' e2'
        cases e1'; cases e2'
        exact ⟨vs, h1, l1.up up⟩
      | succ j => rw [hz] at e2'; simp at e2'
theorem Mk.mem {m1 : Mem} {D : Addr} (k : Mk m m1 D) : D ∈ m1.pv := by rw [k.pv]; exact List.mem_cons_self
end

/-! ### the monad -/
structure Ex where
  cls : Str
  fs : List (Str × D)
inductive R (α : Type) where
  | ok (a : α) (μ : Sto) | exc (e : Ex) (μ : Sto) | stuck
def M (α : Type) := Sto → R α
def M.bind {α β : Type} (x : M α) (f : α → M β) : M β := fun μ => match x μ with
  | .ok a μ' => f a μ'
  | .exc e μ' => .exc e μ'
  | .stuck => .stuck
def M.pure {α : Type} (a : α) : M α := fun μ => .ok a μ
instance : Monad M where
  pure := M.pure
  bind := M.bind
def yes {α : Type} (a : α) : M α := fun μ => .ok a μ
def stuck {α : Type} : M α := fun _ => .stuck
def raise {α : Type} (e : Ex) : M α := fun μ => .exc e μ

/-- what a run promises of the memory behind it -/
def wpR {α : Type} (W : Wd) (m : Mem) (E : Ex → Mem → Prop) (Q : α → Mem → Prop) : R α → Prop
  | .ok a μ => ∀ m', Step m m' → Okm W m' → m'.μ = μ → Q a m'
  | .exc e μ => ∀ m', Step m m' → Okm W m' → m'.μ = μ → E e m'
  | .stuck => False
section
variable {α β : Type} {W : Wd} {m m1 : Mem} {E : Ex → Mem → Prop} {Q : α → Mem → Prop}
theorem wpR.mono {E' : Ex → Mem → Prop} {Q' : α → Mem → Prop} {r : R α} (h : wpR W m E Q r) (hE : ∀ e m', Step m m' → Okm W m' → E e m' → E' e m') (hQ : ∀ a m', Step m m' → Okm W m' → Q a m' → Q' a m') : wpR W m E' Q' r := by
  cases r with
  | ok a μ => exact fun m' s g e => hQ a m' s g (h m' s g e)
  | exc x μ => exact fun m' s g e => hE x m' s g (h m' s g e)
  | stuck => exact h
/-- the first part of a run -/
theorem wpR_bind {x : M β} {f : β → M α} (h : wpR W m E Q ((x >>= f) m.μ)) : wpR W m E (fun b m1 => wpR W m1 E Q (f b m1.μ)) (x m.μ) := by
  have h' : wpR W m E Q (M.bind x f m.μ) := h
  unfold M.bind at h'
  cases e : x m.μ with
  | ok b μ =>
    rw [e] at h'
    intro m1 s g e1
    have h2 : wpR W m E Q (f b μ) := h'
    rw [e1]
    cases e2 : f b μ with
    | ok a μ2 => rw [e2] at h2; exact fun m2 s2 g2 q => h2 m2 (s.trans s2) g2 q
    | exc x μ2 => rw [e2] at h2; exact fun m2 s2 g2 q => h2 m2 (s.trans s2) g2 q
    | stuck => rw [e2] at h2; exact h2
  | exc b μ => rw [e] at h'; exact h'
  | stuck => rw [e] at h'; exact h'
/-- behind a step -/
theorem wpR.behind {r : R α} (s : Step m m1) (h : wpR W m E Q r) : wpR W m1 E Q r := by
  cases r with
  | ok a μ => exact fun m2 s2 g2 q => h m2 (s.trans s2) g2 q
  | exc x μ => exact fun m2 s2 g2 q => h m2 (s.trans s2) g2 q
  | stuck => exact h
theorem wpR_pure {a : α} (g : Okm W m) (h : wpR W m E Q ((Pure.pure a : M α) m.μ)) : Q a m := h m (Step.refl m) g rfl
end
end Pu

set_option Elab.async false
set_option linter.all false
set_option maxRecDepth 100000
/-! Pu2: readings made of plain functions; what a def keeps, where no repr is under way; the context of a den. -/
namespace Pu
open PySem L2

abbrev Sl := List (Option D)
inductive Fl where
  | next (ρ : Sl) | brk (ρ : Sl) | cont (ρ : Sl) | ret (d : D) | exc (e : Ex) (ρ : Sl)

structure EnvOk (W : Wd) (m : Mem) (ρ : Sl) (σ : St) : Prop where
  len : ρ.length = σ.length
  get : ∀ (i : Nat) (d : D), ρ[i]? = some (some d) → ∃ v, σ[i]? = some (some v) ∧ Den W m d v
theorem EnvOk.mono {W : Wd} {m m' : Mem} {ρ : Sl} {σ : St} (s : Step m m') (h : EnvOk W m ρ σ) : EnvOk W m' ρ σ :=
  ⟨h.len, fun i d e => let ⟨v, e1, e2⟩ := h.get i d e; ⟨v, e1, e2.mono s⟩⟩
theorem EnvOk.set {W : Wd} {m : Mem} {ρ : Sl} {σ : St} {d : D} {v : V} (i : Nat) (h : EnvOk W m ρ σ) (r : Den W m d v) : EnvOk W m (ρ.set i (some d)) (σ.set i (some v)) := by
  refine ⟨by simp [h.len], fun j e q => ?_⟩
  by_cases hj : i = j
  · subst hj
    by_cases hl : i < ρ.length
    · rw [List.getElem?_set_self hl] at q
      have q' := Option.some.inj (Option.some.inj q)
      subst q'
      exact ⟨v, by rw [List.getElem?_set_self (by rw [← h.len]; exact hl)], r⟩
    · rw [List.getElem?_eq_none (by simpa using hl)] at q; cases q
  · rw [List.getElem?_set_ne hj] at q ⊢
    exact h.get j e q
theorem EnvOk.wipe {W : Wd} {m : Mem} {ρ : Sl} {σ : St} (i : Nat) (h : EnvOk W m ρ σ) : EnvOk W m (ρ.set i none) (σ.set i none) := by
  refine ⟨by simp [h.len], fun j e q => ?_⟩
  by_cases hj : i = j
  · subst hj
    by_cases hl : i < ρ.length
    · rw [List.getElem?_set_self hl] at q; cases q
    · rw [List.getElem?_eq_none (by simpa using hl)] at q; cases q
  · rw [List.getElem?_set_ne hj] at q ⊢
    exact h.get j e q
theorem EnvOk.forget {W : Wd} {m : Mem} {ρ : Sl} {σ : St} (i : Nat) (h : EnvOk W m ρ σ) : EnvOk W m (ρ.set i none) σ := by
  refine ⟨by simp [h.len], fun j e q => ?_⟩
  by_cases hj : i = j
  · subst hj
    by_cases hl : i < ρ.length
    · rw [List.getElem?_set_self hl] at q; cases q
    · rw [List.getElem?_eq_none (by simpa using hl)] at q; cases q
  · rw [List.getElem?_set_ne hj] at q
    exact h.get j e q
def wipeL (ρ : Sl) : List Nat → Sl
  | [] => ρ
  | v :: vs => (wipeL ρ vs).set v none
theorem EnvOk.wipes {W : Wd} {m : Mem} {ρ : Sl} {σ : St} (h : EnvOk W m ρ σ) : ∀ vs : List Nat, EnvOk W m (wipeL ρ vs) (L2.wipe σ vs)
  | [] => h
  | v :: vs => (EnvOk.wipes h vs).wipe v

/-- an exception in the air -/
def XDen (W : Wd) (m : Mem) (e : Ex) (cls : Value) (dx : Option Addr) : Prop :=
  cls = .ref (W.ca e.cls) ∧ ((e.fs = [] ∧ dx = none) ∨ ∃ d fv, dx = some d ∧ m.H d = some (.xd fv) ∧ DenF W m e.fs fv)

section
variable (W : Wd) (Z : WX)
def EWish (σ : St) : Ex → Mem → Prop := fun e m' => ∀ cls dx, XDen W m' e cls dx → Z cls dx σ m'.H
def TEof (f : Sl → M D) : TE := fun σ H Q => ∃ ρ m, m.H = H ∧ Okm W m ∧ EnvOk W m ρ σ ∧ wpR W m (EWish W Z σ) (fun d m' => ∀ v, Den W m' d v → Q v m'.H) (f ρ m.μ)
def TTof (f : Sl → M Bool) : TT := fun σ H Q => ∃ ρ m, m.H = H ∧ Okm W m ∧ EnvOk W m ρ σ ∧ wpR W m (EWish W Z σ) (fun b m' => Q b m'.H) (f ρ m.μ)
def TAof (f : Sl → M (List D)) : TA := fun σ H Q => ∃ ρ m, m.H = H ∧ Okm W m ∧ EnvOk W m ρ σ ∧ wpR W m (EWish W Z σ) (fun ds m' => ∀ vs, DenL W m' ds vs → Q vs m'.H) (f ρ m.μ)
def TOof (f : Sl → M (Option Int)) : TO := fun σ H Q => ∃ ρ m, m.H = H ∧ Okm W m ∧ EnvOk W m ρ σ ∧ wpR W m (EWish W Z σ) (fun o m' => Q o m'.H) (f ρ m.μ)
def TGof (f : D → Sl → M Sl) : TG := fun v σ H Q => ∃ ρ m d, m.H = H ∧ Okm W m ∧ EnvOk W m ρ σ ∧ Den W m d v ∧ wpR W m (EWish W Z σ) (fun ρ' m' => ∀ σ', EnvOk W m' ρ' σ' → Q σ' m'.H) (f d ρ m.μ)
def FlOk (D : Ends) : Fl → Mem → Prop
  | .next ρ, m => ∀ σ, EnvOk W m ρ σ → D.nx σ m.H
  | .brk ρ, m => ∀ σ, EnvOk W m ρ σ → D.bk σ m.H
  | .cont ρ, m => ∀ σ, EnvOk W m ρ σ → D.ct σ m.H
  | .ret d, m => ∀ v, Den W m d v → D.rt v m.H
  | .exc e ρ, m => ∀ σ cls dx, EnvOk W m ρ σ → XDen W m e cls dx → Z cls dx σ m.H
def TSof (f : Sl → M Fl) : TS := fun D σ H => ∃ ρ m, m.H = H ∧ Okm W m ∧ EnvOk W m ρ σ ∧ wpR W m (fun _ _ => False) (FlOk W Z D) (f ρ m.μ)
end

theorem PE.weak {X : Cx} {e : Expr} {t t' : TE} (h : PE X e t) (w : ∀ σ H Q, t' σ H Q → t σ H Q) : PE X e t' := ⟨fun pins s σ H Q I q => h.run pins s σ H Q I (w σ H Q q)⟩
theorem PT.weak {X : Cx} {e : Expr} {t t' : TT} (h : PT X e t) (w : ∀ σ H Q, t' σ H Q → t σ H Q) : PT X e t' := ⟨fun pins s σ H Q I q => h.run pins s σ H Q I (w σ H Q q)⟩
theorem PA.weak {X : Cx} {es : List Expr} {t t' : TA} (h : PA X es t) (w : ∀ σ H Q, t' σ H Q → t σ H Q) : PA X es t' := ⟨fun pos pins s σ H Q I q => h.run pos pins s σ H Q I (w σ H Q q)⟩
theorem PS.weak {X : Cx} {st : Stmt} {t t' : TS} (h : PS X st t) (w : ∀ D σ H, t' D σ H → t D σ H) : PS X st t' := ⟨fun pins s σ H D I q => h.run pins s σ H D I (w D σ H q)⟩
theorem PSs.weak {X : Cx} {st : List Stmt} {t t' : TS} (h : PSs X st t) (w : ∀ D σ H, t' D σ H → t D σ H) : PSs X st t' := ⟨fun pins s σ H D I q => h.run pins s σ H D I (w D σ H q)⟩
theorem PE.any {X : Cx} {e : Expr} : PE X e (fun _ _ _ => False) := ⟨fun _ _ _ _ _ _ q => q.elim⟩
theorem PS.any {X : Cx} {e : Stmt} : PS X e (fun _ _ _ => False) := ⟨fun _ _ _ _ _ _ q => q.elim⟩
theorem PSs.any {X : Cx} {e : List Stmt} : PSs X e (fun _ _ _ => False) := ⟨fun _ _ _ _ _ _ q => q.elim⟩
theorem PT.any {X : Cx} {e : Expr} : PT X e (fun _ _ _ => False) := ⟨fun _ _ _ _ _ _ q => q.elim⟩

/-! ### a def's promise by a plain function -/
/-- as FnOk, where no repr is under way; exceptions may leave -/
structure FnG (P : Program) (w : World) (K : PySem.W.Frag) (mg : Str → Option Value) (base : Heap) (k : Nat) (f : Addr) (fd : FuncData) (ps : List Str) (sp : Sp) : Prop where
  arity : ∀ vs H Q E, sp vs H Q E → vs.length = ps.length
  go : ∀ (A : Around) (out : List Env) (s : Shared) (H : Hp) (args : Args) (us : List Value) (vs : List V) (Q : VK) (E : XK), Room k A → A.guards = some [] → Env0 P w K mg base A out s H → BindsTo s fd args (ps.zip us) → Vals vs us → sp vs H Q E →
    codeAny (model P w) A (.call (.ref f) args) (CR (L2.CX P w) out P w H s Q E) s
theorem FnG.mono {P : Program} {w : World} {K : PySem.W.Frag} {mg : Str → Option Value} {base : Heap} {j k : Nat} {f : Addr} {fd : FuncData} {ps : List Str} {sp : Sp} (F : FnG P w K mg base j f fd ps sp) (h : j ≤ k) : FnG P w K mg base k f fd ps sp :=
  ⟨F.arity, fun A out s H args us vs Q E r => F.go A out s H args us vs Q E (r.mono h)⟩
theorem FnG.imp {P : Program} {w : World} {K : PySem.W.Frag} {mg : Str → Option Value} {base : Heap} {k : Nat} {f : Addr} {fd : FuncData} {ps : List Str} {sp sp' : Sp} (F : FnG P w K mg base k f fd ps sp) (h : ∀ vs H Q E, sp' vs H Q E → sp vs H Q E) :
    FnG P w K mg base k f fd ps sp' := ⟨fun vs H Q E q => F.arity vs H Q E (h _ _ _ _ q), fun A out s H args us vs Q E r g e b v q => F.go A out s H args us vs Q E r g e b v (h _ _ _ _ q)⟩

/-- the promise of a plain function -/
def spOf (W : Wd) (n : Nat) (F : List D → M D) : Sp := fun vs H Q E => vs.length = n ∧ ∃ ds m, m.H = H ∧ Okm W m ∧ DenL W m ds vs ∧
  wpR W m (fun e m' => ∀ cls dx, XDen W m' e cls dx → E cls dx m'.H) (fun d m' => ∀ v, Den W m' d v → Q v m'.H) (F ds m.μ)

/-- THE RULE for a def, where no repr is under way -/
theorem fnG_of {P : Program} {w : World} {K : PySem.W.Frag} {mg : Str → Option Value} {base : Heap} {k : Nat} {x qual : Str} {st : Stmt} {f : Addr} {fd : FuncData} {N ps : List Str} {sp : Sp}
    (F : Fun K x qual st f fd) (S : FnScope N ps (defScope st)) (arity : ∀ vs H Q E, sp vs H Q E → vs.length = ps.length)
    (body : ∀ (cdv : Value) (A : Around) (out : List Env) (s : Shared) (H : Hp) (vs : List V) (Q : VK) (E : XK), Room k (A.deeper (PyProof.Rows.envOfC qual (defScope st) s.heap.objs.size f cdv)) → A.guards = some [] → sp vs H Q E →
      ∃ t, PSs (cxOf (L2.CX P w) P w K mg base N qual (defScope st) f cdv A out s H E) (defBody st) t ∧ t { nx := fun _ H' => Q .non H', rt := Q } (start N vs) H) :
    FnG P w K mg base (k + 1) f fd ps sp := by
  obtain ⟨oc, od, kV, doc, pm, an, cdv, ct, osl, rfl, look, code⟩ := F.ex
  refine ⟨arity, fun A out s H args us vs Q E room gd e0 bind rel hs => ?_⟩
  have nvs := arity _ _ _ _ hs
  have kin : K.In s.heap := e0.mod.kin.keeps fun b o e => (e0.bs b o e).1
  have nolim : s.heap.NoLimit := e0.mod.nolimit.keeps fun b o e => (e0.bs b o e).1
  have kinds : ∀ y ∈ ps.zip us, (defScope st).names.lookup y.1 = some .local ∨ ((defScope st).names.lookup y.1 = some .cell ∧ ((cellsFrom (s.heap.objs.size + 1) (defScope st).names []).lookup y.1).isSome = true) := by
    rintro ⟨n, v⟩ hy
    rcases S.par n (List.of_mem_zip hy).1 with z | z
    · exact .inl z
    · exact .inr ⟨z, PySem.W.cellsFrom_some _ _ _ (.inl z)⟩
  refine codeAny_call_function room.depth (kin _ _ look) rfl S.co S.gen rfl (PySem.W.codeRec_of kin code) (bind _ _ _ _ ?_)
  refine wpAny_newFunctionEnv_cells S.kind kinds fun env ee s1 fresh => ?_
  subst ee
  refine ⟨nolim.keeps fresh.toInCall.keep, codeAny_func ?_⟩
  obtain ⟨t, run, q⟩ := body cdv A out s H vs Q E (room.deeper _) gd hs
  have I := inv_start (CX := L2.CX P w) (E := E) S room.hd e0 nvs rel fresh
  refine wpAny_mono (run.run [] s1 (start N vs) H _ I q) (fun fl s' hq => ?_) fun _ _ z => z
  cases fl with
  | ret u =>
    obtain ⟨v, σ', H', J, rv, z⟩ := hq
    exact ⟨v, H', J.os, J.bare, J.base, J.hok, rv, z⟩
  | next =>
    obtain ⟨σ', H', J, z⟩ := hq
    exact ⟨V.non, H', J.os, J.bare, J.base, J.hok, rfl, z⟩
  | brk =>
    obtain ⟨_, _, _, z⟩ := hq
    exact z.elim
  | cont =>
    obtain ⟨_, _, _, z⟩ := hq
    exact z.elim

section
variable {X : Cx} {k : Nat} {f : Addr} {fd : FuncData} {ps : List Str} {sp : Sp} {Z : WX} {x : Str} {p pos : Pos} {e : Expr} {es : List Expr} {t : TA}
/-- a call by values -/
theorem run_G {pins : List (Addr × Obj)} {σ : St} {H : Hp} {s : Shared} {Q : VK} {us : List Value} {vs : List V} (F : FnG X.prog X.w X.K X.mg X.base k f fd ps sp) (room : Room k X.A) (gd : X.A.guards = some []) (bs : Binds X.K fd ps []) (tk : Takes X Z)
    (I : Inv X pins σ H s) (r : Vals vs us) (h : sp vs H Q (WE Z σ)) : wpAny (model X.prog X.w) X.A (call (.ref f) us) (EP X pins σ Q) X.xe s := by
  have n : us.length = ps.length := by rw [← r.length]; exact F.arity _ _ _ _ h
  have bb := bs s us I.kIn (by rw [List.append_nil]; exact n)
  rw [List.append_nil] at bb
  refine wpAny_call (codeAny_mono (F.go X.A X.stack s H ⟨us, []⟩ us vs Q (WE Z σ) room gd I.env0 bb r h) fun res s' q => ?_)
  cases res with
  | error err => exact passAt tk σ pins H s err s' I q
  | ok fl =>
    cases fl with
    | ret u => exact I.after q
    | _ => exact q.elim
/-- f(e, ..) -/
theorem pe_callG (F : FnG X.prog X.w X.K X.mg X.base k f fd ps sp) (room : Room k X.A) (gd : X.A.guards = some []) (hg : Gl X x) (hm : X.mg x = some (.ref f)) (kp : PySem.W.keepIn X.K (.ref f) = true) (bs : Binds X.K fd ps []) (tk : Takes X Z)
    (ha : PA X (e :: es) t) (nd : (x == ("__debug__" : Str)) = false) (st : starEach (e :: es) X.env = (false, eval e X.env) :: starEach es X.env) (pl : (backTo pos (starEach es X.env)).any (·.1) = false) :
    PE X (.Call (.Name x p) (e :: es) [] pos) (fun σ H Q => t σ H fun vs H1 => sp vs H1 Q (WE Z σ)) := by
  refine ⟨fun pins s σ H Q I h => wpAny_Call_Name_kw (ld_glob I hg hm ?_ nd)⟩
  exact PySem.W.callWith_K (h₀ := X.base) I.ok.mod.kin kp (thn (ha.run pos pins s σ H _ I h) fun us s1 ⟨vs, H1, I1, r, q⟩ => ⟨I1.kIn, run_G F room gd bs tk I1 r q⟩) st pl
theorem pe_callG0 (F : FnG X.prog X.w X.K X.mg X.base k f fd ps sp) (room : Room k X.A) (gd : X.A.guards = some []) (hg : Gl X x) (hm : X.mg x = some (.ref f)) (kp : PySem.W.keepIn X.K (.ref f) = true) (bs : Binds X.K fd ps []) (tk : Takes X Z)
    (nd : (x == ("__debug__" : Str)) = false) : PE X (.Call (.Name x p) [] [] pos) (fun σ H Q => sp [] H Q (WE Z σ)) := by
  refine ⟨fun pins s σ H Q I h => wpAny_Call_Name_kw (ld_glob I hg hm ?_ nd)⟩
  exact PySem.W.callWith_K0 I.kIn kp (run_G (us := []) F room gd bs tk I .nil h)
end

/-! ### the context of a den -/
structure Ctx where
  N : List Str
  sc : Scope
  /-- the names whose cells are this frame's own -/
  own : Str → Bool
  glob : Str → Option D
  fn : Str → Option (Nat × (List D → M D))
  isB : Str → Bool
  /-- own exception classes that are raised with a text -/
  xc : Str → Bool
  /-- does «except c» catch an exception of the class x -/
  cat : Str → Str → Option Bool
  hint : Pos → Nat
  k : Nat
  hot : Bool
/-- what the module's facts must say -/
structure GOk (P : Program) (w : World) (mg : Str → Option Value) (base : Heap) (W : Wd) (G : Ctx) : Prop where
  glob : ∀ x d, G.glob x = some d → ∃ u v, mg x = some u ∧ RelV v u ∧ ∀ m, Den W m d v
  bl : ∀ x, G.isB x = true → mg x = none
  fn : ∀ x n F, G.fn x = some (n, F) → ∃ f fd ps, FnG P w W.K mg base G.k f fd ps (spOf W n F) ∧ mg x = some (.ref f) ∧ PySem.W.keepIn W.K (.ref f) = true ∧ Binds W.K fd ps []
  xc : ∀ x, G.xc x = true → mg x = some (.ref (W.ca x)) ∧ PySem.W.keepIn W.K (.ref (W.ca x)) = true ∧ PySem.W.excIn W.K (W.ca x) [.type "ValueError", .type "Exception", .type "BaseException", .type "object"] "ValueError.__new__" = true ∧
    PySem.W.subIn W.K (.ref (W.ca x)) (.type "BaseException") = some true ∧ PySem.W.typeIn W.K (.ref (W.ca x)) = some (.type "type")
  cat : ∀ c x b, G.cat c x = some b → mg c = some (.ref (W.ca c)) ∧ PySem.W.exmOne W.K (.ref (W.ca x)) (.ref (W.ca c)) = some b
/-- an expression's context -/
structure EOk (W : Wd) (X : Cx) (Z : WX) (G : Ctx) : Prop where
  K : X.K = W.K
  N : X.N = G.N
  nd : X.N.Nodup
  sc : X.env.scope = G.sc
  own : X.fn = G.own
  tk : Takes X Z
  calm : G.hot = false → X.calm = true
  room : G.hot = false → Room G.k X.A
  un : X.A.units + 64 < cLine
  gd : X.A.guards = some []
  g : GOk X.prog X.w X.mg X.base W G
/-- a statement's context -/
structure SOk (W : Wd) (X : Cx) (Z : WX) (G : Ctx) : Prop where
  e : EOk W X Z G
  pass : PassesOwn (model X.prog X.w) X.A X.env X.xe
  stk : X.stack = X.env :: X.outer
  frm : X.env.frame = some X.env.locals
  kind : G.sc.kind = .function
end Pu

set_option Elab.async false
set_option linter.all false
set_option maxRecDepth 100000
/-! Pu3: plain operations on data, each with the rule that the model keeps it. -/
namespace Pu
open PySem L2

/-! ### what a thing holds -/
def asL (μ : Sto) : D → Option (List D)
  | .lst ds => some ds
  | .cell i => match μ[i]? with
    | some (.lst ds) => some ds
    | _ => none
  | _ => none
def asQ (μ : Sto) : D → Option (List D)
  | .frz ds => some ds
  | d => asL μ d
def asS (μ : Sto) : D → Option (List D)
  | .tup ds => some ds
  | d => asQ μ d
section
variable {W : Wd} {m : Mem} {d : D} {v : V} {ds : List D}
theorem asL_den (g : Okm W m) (h : Den W m d v) (e : asL m.μ d = some ds) : ∃ a vs, v = .ref a ∧ m.H a = some (.lst vs) ∧ DenL W m ds vs := by
  cases h with
  | lst h1 h2 h3 => simp [asL] at e; subst e; exact ⟨_, _, rfl, h1, h3⟩
  | @cell i a h1 =>
    simp only [asL] at e
    cases q : m.μ[i]? with
    | none => rw [q] at e; cases e
    | some o =>
      rw [q] at e
      cases o with
      | lst xs =>
        simp at e; subst e
        obtain ⟨vs, h2, h3⟩ := g.ok i _ a q h1
        exact ⟨a, vs, rfl, h2, h3⟩
      | _ => cases e
  | _ => simp [asL] at e
theorem asQ_den (g : Okm W m) (h : Den W m d v) (e : asQ m.μ d = some ds) : ∃ a vs, v = .ref a ∧ SqL W.K m.H a vs ∧ DenL W m ds vs := by
  cases d with
  | frz xs =>
    simp [asQ] at e; subst e
    cases h with
    | frz h1 h2 => exact ⟨_, _, rfl, h1.sq, h2⟩
  | _ =>
    obtain ⟨a, vs, h1, h2, h3⟩ := asL_den g h (by simpa only [asQ] using e)
    exact ⟨a, vs, h1, .inl (.inl h2), h3⟩
theorem asS_den (g : Okm W m) (h : Den W m d v) (e : asS m.μ d = some ds) : ∃ a vs, v = .ref a ∧ (SqL W.K m.H a vs ∨ SqT W.K m.H a vs) ∧ DenL W m ds vs := by
  cases d with
  | tup xs =>
    simp [asS] at e; subst e
    cases h with
    | tup h1 h2 => exact ⟨_, _, rfl, .inr h1.sq, h2⟩
  | _ =>
    obtain ⟨a, vs, h1, h2, h3⟩ := asQ_den g h (by simpa only [asS] using e)
    exact ⟨a, vs, h1, .inl h2, h3⟩
end

/-! ### readings by values -/
def out (W : Wd) (m : Mem) (E : Ex → Mem → Prop) (Q : VK) (r : R D) : Prop := wpR W m E (fun d m' => ∀ v, Den W m' d v → Q v m'.H) r
def R1of (W : Wd) (p : D → M D) : V → Hp → VK → Prop := fun x H Q => ∃ E a m, m.H = H ∧ Okm W m ∧ Den W m a x ∧ out W m E Q (p a m.μ)
def R2of (W : Wd) (p : D → D → M D) : R2 := fun x y H Q => ∃ E a b m, m.H = H ∧ Okm W m ∧ Den W m a x ∧ Den W m b y ∧ out W m E Q (p a b m.μ)
def RCof (W : Wd) (p : List D → M D) : List V → Hp → VK → Prop := fun xs H Q => ∃ E ds m, m.H = H ∧ Okm W m ∧ DenL W m ds xs ∧ out W m E Q (p ds m.μ)
def RMof (W : Wd) (p : D → List D → M D) : V → List V → Hp → VK → Prop := fun x xs H Q => ∃ E d ds m, m.H = H ∧ Okm W m ∧ Den W m d x ∧ DenL W m ds xs ∧ out W m E Q (p d ds m.μ)
def RSof (W : Wd) (p : D → Option Int → Option Int → M D) : V → Option Int → Option Int → Hp → VK → Prop := fun x lo hi H Q => ∃ E a m, m.H = H ∧ Okm W m ∧ Den W m a x ∧ out W m E Q (p a lo hi m.μ)
section
variable {W : Wd} {m : Mem} {E : Ex → Mem → Prop} {Q : VK} {d : D} {v : V} {ds : List D} {vs : List V} {p : Addr}
theorem out.same (h : out W m E Q (.ok d m.μ)) (g : Okm W m) (r : Den W m d v) : Q v m.H := h m (Step.refl m) g rfl v r
theorem out.tup (h : out W m E Q (.ok (.tup ds) m.μ)) (g : Okm W m) (l : DenL W m ds vs) (hp : m.H p = none) : Q (.ref p) (upd m.H p (.tup vs)) := h (m.put p _) (step_put g hp) (good_put g hp) rfl _ (den_tup g hp l)
theorem out.lst (h : out W m E Q (.ok (.lst ds) m.μ)) (g : Okm W m) (l : DenL W m ds vs) (hp : m.H p = none) : Q (.ref p) (upd m.H p (.lst vs)) := h (m.put p _) (step_put g hp) (good_put g hp) rfl _ (den_lst g hp l)
theorem out.dic {ks : List (Key × D)} {kv : List (Key × V)} (h : out W m E Q (.ok (.dic ks) m.μ)) (g : Okm W m) (l : DenK W m ks kv) (hp : m.H p = none) : Q (.ref p) (upd m.H p (.dK kv)) := h (m.put p _) (step_put g hp) (good_put g hp) rfl _ (den_dic g hp l)
/-- a new cell that is a list -/
theorem out.cel (h : out W m E Q (.ok (.cell m.μ.length) (m.μ ++ [.lst ds]))) (g : Okm W m) (l : DenL W m ds vs) (hp : m.H p = none) : Q (.ref p) (upd m.H p (.lst vs)) := by
  have st : Step m (m.grow p (.lst vs) (.lst ds)) := step_grow g hp
  refine h (m.grow p (.lst vs) (.lst ds)) st (good_grow g hp ⟨vs, upd_same, l.mono st⟩) rfl _ ?_
  rw [← g.len]
  exact den_grow
end

/-! ### + - * // % ** of two -/
def addD (a b : D) : M D := fun μ => match a, b with
  | .int i, .int j => .ok (.int (i + j)) μ
  | .str x, .str y => if x.length + y.length ≤ sizeLine then .ok (.str (x ++ y)) μ else .stuck
  | .tup xs, .tup ys => if xs.length + ys.length ≤ sizeLine then .ok (.tup (xs ++ ys)) μ else .stuck
  | _, _ => match asL μ a, asL μ b with
    | some xs, some ys => if xs.length + ys.length ≤ sizeLine then .ok (.lst (xs ++ ys)) μ else .stuck
    | _, _ => .stuck
def subD (a b : D) : M D := fun μ => match a, b with
  | .int i, .int j => .ok (.int (i - j)) μ
  | _, _ => .stuck
def mulD (a b : D) : M D := fun μ => match a, b with
  | .int i, .int j => if i.natAbs.log2 + j.natAbs.log2 < 1000000 then .ok (.int (i * j)) μ else .stuck
  | _, .int k => match asL μ a with
    | some xs => if k < 2 ^ 63 ∧ -(2 ^ 63) ≤ k ∧ xs.length * k.toNat ≤ sizeLine then .ok (.lst (List.replicate k.toNat xs).flatten) μ else .stuck
    | none => .stuck
  | _, _ => .stuck
def fdivD (a b : D) : M D := fun μ => match a, b with
  | .int i, .int j => if 0 < j ∧ j.natAbs.log2 < 9000 then .ok (.int (i / j)) μ else .stuck
  | _, _ => .stuck
def modD (a b : D) : M D := fun μ => match a, b with
  | .int i, .int j => if 0 < j then .ok (.int (i % j)) μ else .stuck
  | _, _ => .stuck
def powD (a b : D) : M D := fun μ => match a, b with
  | .int i, .int j => if 0 ≤ j ∧ (Builtin.Int.intBits i : Int) * j ≤ 2 ^ 27 then .ok (.int (i ^ j.toNat)) μ else .stuck
  | _, _ => .stuck
def binD : Operator → D → D → M D
  | .Add => addD
  | .Sub => subD
  | .Mult => mulD
  | .FloorDiv => fdivD
  | .Mod => modD
  | .Pow => powD
  | _ => fun _ _ => stuck
section
variable {W : Wd} {X : Cx}
theorem DenL.flat {m : Mem} {xs : List D} {vs : List V} (l : DenL W m xs vs) : ∀ n, DenL W m (List.replicate n xs).flatten (List.replicate n vs).flatten
  | 0 => .nil
  | n + 1 => by
    rw [List.replicate_succ, List.replicate_succ, List.flatten_cons, List.flatten_cons]
    exact l.append (DenL.flat l n)
theorem op_addD (hK : X.K = W.K) : OpR X (binaryOp .Add) (R2of W addD) := by
  intro pins s σ H x y v u Q I rx ry h
  obtain ⟨E, a, b, m, rfl, g, ha, hb, q⟩ := h
  have lists : ∀ xs ys, asL m.μ a = some xs → asL m.μ b = some ys → (if xs.length + ys.length ≤ sizeLine then out W m E Q (.ok (.lst (xs ++ ys)) m.μ) else False) → wpAny (model X.prog X.w) X.A (binaryOp .Add v u) (EP X pins σ Q) X.xe s := by
    intro xs ys e1 e2 q
    obtain ⟨a1, vs, rfl, h1, l1⟩ := asL_den g ha e1
    obtain ⟨b1, ws, rfl, h2, l2⟩ := asL_den g hb e2
    split at q
    · rename_i hz
      exact op_cat pins s σ m.H _ _ v u Q I rx ry ⟨a1, b1, vs, ws, rfl, rfl, h1, h2, by rw [← l1.length, ← l2.length]; exact hz, fun p hp => q.lst g (l1.append l2) hp⟩
    · exact q.elim
  have gen : ∀ (q : out W m E Q (match asL m.μ a, asL m.μ b with
      | some xs, some ys => if xs.length + ys.length ≤ sizeLine then .ok (.lst (xs ++ ys)) m.μ else .stuck
      | _, _ => .stuck)), wpAny (model X.prog X.w) X.A (binaryOp .Add v u) (EP X pins σ Q) X.xe s := by
    intro q
    cases e1 : asL m.μ a with
    | none => rw [e1] at q; exact (show False from q).elim
    | some xs =>
      cases e2 : asL m.μ b with
      | none => rw [e1, e2] at q; exact (show False from q).elim
      | some ys =>
        rw [e1, e2] at q
        refine lists xs ys e1 e2 ?_
        have q' : out W m E Q (if xs.length + ys.length ≤ sizeLine then .ok (.lst (xs ++ ys)) m.μ else .stuck) := q
        split at q'
        · rename_i hz; rw [if_pos hz]; exact q'
        · exact (show False from q').elim
  cases ha with
  | int i =>
    cases hb with
    | int j => exact op_add pins s σ m.H _ _ v u Q I rx ry ⟨i, j, rfl, rfl, out.same (d := .int (i + j)) q g (.int _)⟩
    | _ => exact gen q
  | str i =>
    cases hb with
    | str j =>
      have q' : out W m E Q (if i.length + j.length ≤ sizeLine then .ok (.str (i ++ j)) m.μ else .stuck) := q
      split at q'
      · rename_i hz
        exact op_add_str pins s σ m.H _ _ v u Q I rx ry ⟨i, j, rfl, rfl, hz, q'.same g (.str _)⟩
      · exact (show False from q').elim
    | _ => exact gen q
  | @tup xs a1 vs h1 l1 =>
    cases hb with
    | @tup ys b1 ws h2 l2 =>
      have q' : out W m E Q (if xs.length + ys.length ≤ sizeLine then .ok (.tup (xs ++ ys)) m.μ else .stuck) := q
      split at q'
      · rename_i hz
        refine op_catA pins s σ m.H _ _ v u Q I rx ry ⟨a1, b1, vs, ws, rfl, rfl, by rw [hK]; exact h1.sq, by rw [hK]; exact h2.sq, by rw [← l1.length, ← l2.length]; exact hz, fun e => ?_, fun _ e => ?_, fun _ _ p hp => ?_⟩
        · subst e
          cases l1
          exact q'.same g (.tup h2 (by simpa using l2))
        · subst e
          cases l2
          exact q'.same g (.tup h1 (by simpa using l1))
        · exact q'.tup g (l1.append l2) hp
      · exact (show False from q').elim
    | _ => exact gen q
  | _ => exact gen (by cases hb <;> exact q)
theorem op_subD : OpR X (binaryOp .Sub) (R2of W subD) := by
  intro pins s σ H x y v u Q I rx ry h
  obtain ⟨E, a, b, m, rfl, g, ha, hb, q⟩ := h
  cases ha with
  | int i =>
    cases hb with
    | int j => exact op_sub pins s σ m.H _ _ v u Q I rx ry ⟨i, j, rfl, rfl, out.same (d := .int (i - j)) q g (.int _)⟩
    | _ => exact (show False from q).elim
  | _ => exact (show False from q).elim
theorem op_mulD : OpR X (binaryOp .Mult) (R2of W mulD) := by
  intro pins s σ H x y v u Q I rx ry h
  obtain ⟨E, a, b, m, rfl, g, ha, hb, q⟩ := h
  have gen : ∀ k, y = .int k → out W m E Q (match asL m.μ a with
      | some xs => if k < 2 ^ 63 ∧ -(2 ^ 63) ≤ k ∧ xs.length * k.toNat ≤ sizeLine then .ok (.lst (List.replicate k.toNat xs).flatten) m.μ else .stuck
      | none => .stuck) → wpAny (model X.prog X.w) X.A (binaryOp .Mult v u) (EP X pins σ Q) X.xe s := by
    intro k ey q
    cases e1 : asL m.μ a with
    | none => rw [e1] at q; exact (show False from q).elim
    | some xs =>
      rw [e1] at q
      have q' : out W m E Q (if k < 2 ^ 63 ∧ -(2 ^ 63) ≤ k ∧ xs.length * k.toNat ≤ sizeLine then .ok (.lst (List.replicate k.toNat xs).flatten) m.μ else .stuck) := q
      split at q'
      · rename_i hz
        obtain ⟨a1, vs, rfl, h1, l1⟩ := asL_den g ha e1
        exact op_rep pins s σ m.H _ _ v u Q I rx ry ⟨a1, k, vs, rfl, ey, h1, hz.2.1, hz.1, by rw [← l1.length]; exact hz.2.2, fun p hp => q'.lst g (l1.flat _) hp⟩
      · exact (show False from q').elim
  cases hb with
  | int j =>
    cases ha with
    | int i =>
      have q' : out W m E Q (if i.natAbs.log2 + j.natAbs.log2 < 1000000 then .ok (.int (i * j)) m.μ else .stuck) := q
      split at q'
      · rename_i hz
        exact op_mulW pins s σ m.H _ _ v u Q I rx ry ⟨i, j, rfl, rfl, hz, q'.same g (.int _)⟩
      · exact (show False from q').elim
    | _ => exact gen j rfl q
  | _ => exact (show False from by cases ha <;> exact q).elim
theorem op_fdivD : OpR X (binaryOp .FloorDiv) (R2of W fdivD) := by
  intro pins s σ H x y v u Q I rx ry h
  obtain ⟨E, a, b, m, rfl, g, ha, hb, q⟩ := h
  cases ha with
  | int i =>
    cases hb with
    | int j =>
      have q' : out W m E Q (if 0 < j ∧ j.natAbs.log2 < 9000 then .ok (.int (i / j)) m.μ else .stuck) := q
      split at q'
      · rename_i hz
        exact op_fdivW pins s σ m.H _ _ v u Q I rx ry ⟨i, j, rfl, rfl, hz, q'.same g (.int _)⟩
      · exact (show False from q').elim
    | _ => exact (show False from q).elim
  | _ => exact (show False from q).elim
theorem op_modD : OpR X (binaryOp .Mod) (R2of W modD) := by
  intro pins s σ H x y v u Q I rx ry h
  obtain ⟨E, a, b, m, rfl, g, ha, hb, q⟩ := h
  cases ha with
  | int i =>
    cases hb with
    | int j =>
      have q' : out W m E Q (if 0 < j then .ok (.int (i % j)) m.μ else .stuck) := q
      split at q'
      · rename_i hz
        exact op_mod pins s σ m.H _ _ v u Q I rx ry ⟨i, j, rfl, rfl, hz, q'.same g (.int _)⟩
      · exact (show False from q').elim
    | _ => exact (show False from q).elim
  | _ => exact (show False from q).elim
theorem op_powD : OpR X (binaryOp .Pow) (R2of W powD) := by
  intro pins s σ H x y v u Q I rx ry h
  obtain ⟨E, a, b, m, rfl, g, ha, hb, q⟩ := h
  cases ha with
  | int i =>
    cases hb with
    | int j =>
      have q' : out W m E Q (if 0 ≤ j ∧ (Builtin.Int.intBits i : Int) * j ≤ 2 ^ 27 then .ok (.int (i ^ j.toNat)) m.μ else .stuck) := q
      split at q'
      · rename_i hz
        obtain ⟨t, rfl⟩ := rx
        obtain ⟨t', rfl⟩ := ry
        exact PyProof.Rows.pow_int hz.1 hz.2 ⟨.int _, m.H, I.tok _, ⟨_, rfl⟩, q'.same g (.int _)⟩
      · exact (show False from q').elim
    | _ => exact (show False from q).elim
  | _ => exact (show False from q).elim
theorem op_binD (hK : X.K = W.K) : ∀ op, OpR X (binaryOp op) (R2of W (binD op))
  | .Add => op_addD hK
  | .Sub => op_subD
  | .Mult => op_mulD
  | .FloorDiv => op_fdivD
  | .Mod => op_modD
  | .Pow => op_powD
  | .MatMult | .Div | .LShift | .RShift | .BitOr | .BitXor | .BitAnd => fun _ _ _ _ _ _ _ _ _ _ _ _ ⟨_, _, _, _, _, _, _, _, q⟩ => (show False from q).elim
/-! ### -x -/
def negD (a : D) : M D := fun μ => match a with
  | .int i => .ok (.int (-i)) μ
  | _ => .stuck
theorem un_negD : UnR X (unaryOp .USub) (R1of W negD) := by
  intro pins s σ H x v Q I rx h
  obtain ⟨E, a, m, rfl, g, ha, q⟩ := h
  cases ha with
  | int i => exact un_neg pins s σ m.H _ v Q I rx ⟨i, rfl, out.same (d := .int (-i)) q g (.int _)⟩
  | _ => exact (show False from q).elim
/-! ### truth -/
def truthD (a : D) : M Bool := fun μ => match a with
  | .non => .ok false μ
  | .bl b => .ok b μ
  | .int i => .ok (i != 0) μ
  | .str x => if x.length ≤ sizeLine then .ok ((x.length : Int) != 0) μ else .stuck
  | .dic kvs => .ok (!kvs.isEmpty) μ
  | _ => match asS μ a with
    | some xs => .ok (!xs.isEmpty) μ
    | none => .stuck
theorem DenL.empty {m : Mem} {xs : List D} {vs : List V} (l : DenL W m xs vs) : xs.isEmpty = vs.isEmpty := by cases l <;> rfl
theorem DenK.empty {m : Mem} {xs : List (Key × D)} {vs : List (Key × V)} (l : DenK W m xs vs) : xs.isEmpty = vs.isEmpty := by cases l <;> rfl
theorem truth_den {m : Mem} {a : D} {x : V} {k : Bool} {μ' : Sto} (g : Okm W m) (ha : Den W m a x) (q : truthD a m.μ = .ok k μ') : μ' = m.μ ∧ TruV W.K x m.H k := by
  have gen : (match asS m.μ a with
    | some xs => R.ok (!xs.isEmpty) m.μ
    | none => .stuck) = .ok k μ' → μ' = m.μ ∧ TruV W.K x m.H k := by
    intro q
    cases e : asS m.μ a with
    | none => rw [e] at q; cases q
    | some xs =>
      rw [e] at q
      obtain ⟨p, vs, rfl, h1, l⟩ := asS_den g ha e
      cases q
      refine ⟨rfl, ?_⟩
      rcases h1 with h1 | h1
      · exact .inl ⟨vs, h1, by rw [l.empty]⟩
      · exact .inr (.inl ⟨vs, h1, by rw [l.empty]⟩)
  cases ha with
  | non => cases q; exact ⟨rfl, rfl⟩
  | bl b => cases q; exact ⟨rfl, rfl⟩
  | int i => cases q; exact ⟨rfl, rfl⟩
  | str z =>
    have q' : (if z.length ≤ sizeLine then R.ok ((z.length : Int) != 0) m.μ else .stuck) = .ok k μ' := q
    split at q'
    · rename_i hz; cases q'; exact ⟨rfl, hz, rfl⟩
    · cases q'
  | @dic kvs a kv' h1 h2 l => cases q; exact ⟨rfl, .inr (.inr ⟨kv', h1, by rw [l.empty]⟩)⟩
  | tup h l => exact gen q
  | lst h n l => exact gen q
  | frz h l => exact gen q
  | cell h => exact gen q
  | ty n => exact gen q
  | adr n => exact gen q
  | obj h n l => exact gen q
/-! ### comparisons -/
mutual
def toPy : D → Option PyData
  | .non => some .none
  | .bl b => some (.bool b)
  | .int i => some (.int i)
  | .str x => some (.str x)
  | .tup xs => (toPyL xs).map .tuple
  | .lst xs => (toPyL xs).map .list
  | .frz xs => (toPyL xs).map .list
  | _ => none
def toPyL : List D → Option (List PyData)
  | [] => some []
  | d :: ds => match toPy d, toPyL ds with
    | some p, some ps => some (p :: ps)
    | _, _ => none
end
mutual
theorem toPy_dp {m : Mem} : ∀ {d : D} {v : V} {p : PyData}, Den W m d v → toPy d = some p → Dp W.K m.H v p
  | _, _, _, .non, e => by simp [toPy] at e; subst e; exact .non
  | _, _, _, .bl b, e => by simp [toPy] at e; subst e; exact .bl b
  | _, _, _, .int b, e => by simp [toPy] at e; subst e; exact .int b
  | _, _, _, .str b, e => by simp [toPy] at e; subst e; exact .str b
  | _, _, _, .ty b, e => by simp [toPy] at e
  | _, _, _, .adr b, e => by simp [toPy] at e
  | _, _, _, .cell _, e => by simp [toPy] at e
  | _, _, _, .dic _ _ _, e => by simp [toPy] at e
  | _, _, _, .obj _ _ _, e => by simp [toPy] at e
  | .tup xs, _, _, .tup h l, e => by
    cases q : toPyL xs with
    | none => simp [toPy, q] at e
    | some ps => simp [toPy, q] at e; subst e; exact .tup h.sq (toPyL_dp l q)
  | .lst xs, _, _, .lst h n l, e => by
    cases q : toPyL xs with
    | none => simp [toPy, q] at e
    | some ps => simp [toPy, q] at e; subst e; exact .lst (.inl (.inl h)) (toPyL_dp l q)
  | .frz xs, _, _, .frz h l, e => by
    cases q : toPyL xs with
    | none => simp [toPy, q] at e
    | some ps => simp [toPy, q] at e; subst e; exact .lst h.sq (toPyL_dp l q)
theorem toPyL_dp {m : Mem} : ∀ {ds : List D} {vs : List V} {ps : List PyData}, DenL W m ds vs → toPyL ds = some ps → DpAll W.K m.H vs ps
  | _, _, _, .nil, e => by simp [toPyL] at e; subst e; exact .nil
  | d :: ds, _, _, .cons h t, e => by
    cases q : toPy d with
    | none => simp [toPyL, q] at e
    | some p =>
      cases q2 : toPyL ds with
      | none => simp [toPyL, q, q2] at e
      | some ps => simp [toPyL, q, q2] at e; subst e; exact .cons (toPy_dp h q) (toPyL_dp t q2)
end
/-- a top thing that may be a cell -/
def toPyT (μ : Sto) (d : D) : Option PyData := match asL μ d with
  | some xs => (toPyL xs).map .list
  | none => toPy d
theorem toPyT_dp {m : Mem} {d : D} {v : V} {p : PyData} (g : Okm W m) (h : Den W m d v) (e : toPyT m.μ d = some p) : Dp W.K m.H v p := by
  unfold toPyT at e
  cases q : asL m.μ d with
  | none => rw [q] at e; exact toPy_dp h e
  | some xs =>
    rw [q] at e
    obtain ⟨a, vs, rfl, h1, l⟩ := asL_den g h q
    cases q2 : toPyL xs with
    | none => simp [q2] at e
    | some ps => simp [q2] at e; subst e; exact .lst (.inl (.inl h1)) (toPyL_dp l q2)
def eqB (μ : Sto) (a b : D) : Option Bool := match a, b with
  | .non, .non => some true
  | .int i, .int j => some (decide (i = j))
  | .bl i, .bl j => some (decide (i = j))
  | .str i, .str j => some (decide (i = j))
  | _, _ => match toPyT μ a, toPyT μ b with
    | some p, some q => if SeqAt.shaped p = true ∧ SeqAt.shaped q = true then some (PyData.eqv p q) else none
    | _, _ => none
def eqD (neg : Bool) (a b : D) : M D := fun μ => match eqB μ a b with
  | some k => .ok (.bl (if neg then !k else k)) μ
  | none => .stuck
theorem eqB_op {pins : List (Addr × Obj)} {s : Shared} {σ : St} {m : Mem} {a b : D} {x y : V} {v u : Value} {Q : VK} {k : Bool} (hK : X.K = W.K) (hu : X.A.units + 64 < cLine) (I : Inv X pins σ m.H s) (g : Okm W m) (ha : Den W m a x) (hb : Den W m b y)
    (rx : RelV x v) (ry : RelV y u) (e : eqB m.μ a b = some k) (neg : Bool) (q : Q (.bl (if neg then !k else k)) m.H) : wpAny (model X.prog X.w) X.A (compareOp (if neg then .NotEq else .Eq) v u) (EP X pins σ Q) X.xe s := by
  have scalar : scal x y = true → k = decide (x = y) → wpAny (model X.prog X.w) X.A (compareOp (if neg then .NotEq else .Eq) v u) (EP X pins σ Q) X.xe s := by
    intro h1 h2
    subst h2
    cases neg with
    | false => exact op_eq pins s σ m.H _ _ v u Q I rx ry ⟨h1, q⟩
    | true => exact op_ne pins s σ m.H _ _ v u Q I rx ry ⟨h1, q⟩
  have gen : (match toPyT m.μ a, toPyT m.μ b with
    | some p, some q => if SeqAt.shaped p = true ∧ SeqAt.shaped q = true then some (PyData.eqv p q) else none
    | _, _ => none) = some k → wpAny (model X.prog X.w) X.A (compareOp (if neg then .NotEq else .Eq) v u) (EP X pins σ Q) X.xe s := by
    intro e
    cases e1 : toPyT m.μ a with
    | none => rw [e1] at e; cases e
    | some p1 =>
      cases e2 : toPyT m.μ b with
      | none => rw [e1, e2] at e; cases e
      | some p2 =>
        rw [e1, e2] at e
        have e' : (if SeqAt.shaped p1 = true ∧ SeqAt.shaped p2 = true then some (PyData.eqv p1 p2) else none) = some k := e
        split at e'
        · rename_i hz
          cases e'
          have d1 := toPyT_dp g ha e1
          have d2 := toPyT_dp g hb e2
          rw [← hK] at d1 d2
          cases neg with
          | false => exact op_eqD hu pins s σ m.H _ _ v u Q I rx ry ⟨p1, p2, d1, d2, hz.1, hz.2, q⟩
          | true => exact op_neD hu pins s σ m.H _ _ v u Q I rx ry ⟨p1, p2, d1, d2, hz.1, hz.2, q⟩
        · cases e'
  cases ha with
  | non => cases hb with
    | non => cases e; exact scalar rfl rfl
    | _ => exact gen e
  | bl i => cases hb with
    | bl j => cases e; exact scalar rfl (by simp)
    | _ => exact gen e
  | int i => cases hb with
    | int j => cases e; exact scalar rfl (by simp)
    | _ => exact gen e
  | str i => cases hb with
    | str j => cases e; exact scalar rfl (by simp)
    | _ => exact gen e
  | _ => exact gen (by cases hb <;> exact e)
def ltD (a b : D) : M D := fun μ => match a, b with
  | .int i, .int j => .ok (.bl (decide (i < j))) μ
  | .str i, .str j => .ok (.bl (decide (i.cps.toList < j.cps.toList))) μ
  | _, _ => .stuck
def leD (a b : D) : M D := fun μ => match a, b with
  | .int i, .int j => .ok (.bl (decide (i ≤ j))) μ
  | .str i, .str j => .ok (.bl (!decide (j.cps.toList < i.cps.toList))) μ
  | _, _ => .stuck
def gtD (a b : D) : M D := fun μ => match a, b with
  | .int i, .int j => .ok (.bl (decide (j < i))) μ
  | _, _ => .stuck
def geD (a b : D) : M D := fun μ => match a, b with
  | .int i, .int j => .ok (.bl (decide (j ≤ i))) μ
  | _, _ => .stuck
def inSign (neg : Bool) (c : Str) (z : Str) : Option Bool := match c.cps.toList with
  | [n] => some (if neg then !decide (n ∈ z.cps.toList) else decide (n ∈ z.cps.toList))
  | _ => none
def flatD : D → Bool
  | .non => true | .bl _ => true | .int _ => true | .str _ => true | _ => false
def flatOf : D → V
  | .non => .non | .bl b => .bl b | .int i => .int i | .str x => .str x | _ => .non
def inD (neg : Bool) (a b : D) : M D := fun μ => match a, b with
  | .str c, .str z => match inSign neg c z with
    | some k => .ok (.bl k) μ
    | none => .stuck
  | _, _ => match asS μ b with
    | some xs => if flatD a = true ∧ xs.all flatD = true then .ok (.bl (if neg then !inV (flatOf a) (xs.map flatOf) else inV (flatOf a) (xs.map flatOf))) μ else .stuck
    | none => .stuck
end
end Pu

set_option Elab.async false
set_option linter.all false
set_option maxRecDepth 100000
/-! Pu4: comparisons, built-in functions, items, slices, methods. -/
namespace Pu
open PySem L2
section
variable {W : Wd} {X : Cx}
theorem op_eqN (hK : X.K = W.K) (hu : X.A.units + 64 < cLine) : OpR X (compareOp .Eq) (R2of W (eqD false)) := by
  intro pins s σ H x y v u Q I rx ry h
  obtain ⟨E, a, b, m, rfl, g, ha, hb, q⟩ := h
  cases e : eqB m.μ a b with
  | none => unfold eqD at q; rw [e] at q; exact (show False from q).elim
  | some k => unfold eqD at q; rw [e] at q; exact eqB_op hK hu I g ha hb rx ry e false (out.same q g (.bl _))
theorem op_neN (hK : X.K = W.K) (hu : X.A.units + 64 < cLine) : OpR X (compareOp .NotEq) (R2of W (eqD true)) := by
  intro pins s σ H x y v u Q I rx ry h
  obtain ⟨E, a, b, m, rfl, g, ha, hb, q⟩ := h
  cases e : eqB m.μ a b with
  | none => unfold eqD at q; rw [e] at q; exact (show False from q).elim
  | some k => unfold eqD at q; rw [e] at q; exact eqB_op hK hu I g ha hb rx ry e true (out.same q g (.bl _))
theorem op_ltD : OpR X (compareOp .Lt) (R2of W ltD) := by
  intro pins s σ H x y v u Q I rx ry h
  obtain ⟨E, a, b, m, rfl, g, ha, hb, q⟩ := h
  cases ha with
  | int i =>
    cases hb with
    | int j => exact op_lt pins s σ m.H _ _ v u Q I rx ry ⟨i, j, rfl, rfl, out.same (d := .bl (decide (i < j))) q g (.bl _)⟩
    | _ => exact (show False from q).elim
  | str i =>
    cases hb with
    | str j => exact op_lt_str pins s σ m.H _ _ v u Q I rx ry ⟨i, j, rfl, rfl, out.same (d := .bl (decide (i.cps.toList < j.cps.toList))) q g (.bl _)⟩
    | _ => exact (show False from q).elim
  | _ => exact (show False from q).elim
theorem op_leD : OpR X (compareOp .LtE) (R2of W leD) := by
  intro pins s σ H x y v u Q I rx ry h
  obtain ⟨E, a, b, m, rfl, g, ha, hb, q⟩ := h
  cases ha with
  | int i =>
    cases hb with
    | int j => exact op_le pins s σ m.H _ _ v u Q I rx ry ⟨i, j, rfl, rfl, out.same (d := .bl (decide (i ≤ j))) q g (.bl _)⟩
    | _ => exact (show False from q).elim
  | str i =>
    cases hb with
    | str j => exact op_le_str pins s σ m.H _ _ v u Q I rx ry ⟨i, j, rfl, rfl, out.same (d := .bl (!decide (j.cps.toList < i.cps.toList))) q g (.bl _)⟩
    | _ => exact (show False from q).elim
  | _ => exact (show False from q).elim
theorem op_gtD : OpR X (compareOp .Gt) (R2of W gtD) := by
  intro pins s σ H x y v u Q I rx ry h
  obtain ⟨E, a, b, m, rfl, g, ha, hb, q⟩ := h
  cases ha with
  | int i =>
    cases hb with
    | int j => exact op_gt pins s σ m.H _ _ v u Q I rx ry ⟨i, j, rfl, rfl, out.same (d := .bl (decide (j < i))) q g (.bl _)⟩
    | _ => exact (show False from q).elim
  | _ => exact (show False from q).elim
theorem op_geD : OpR X (compareOp .GtE) (R2of W geD) := by
  intro pins s σ H x y v u Q I rx ry h
  obtain ⟨E, a, b, m, rfl, g, ha, hb, q⟩ := h
  cases ha with
  | int i =>
    cases hb with
    | int j => exact op_ge pins s σ m.H _ _ v u Q I rx ry ⟨i, j, rfl, rfl, out.same (d := .bl (decide (j ≤ i))) q g (.bl _)⟩
    | _ => exact (show False from q).elim
  | _ => exact (show False from q).elim
theorem flat_den {m : Mem} {d : D} {v : V} (h : Den W m d v) (f : flatD d = true) : v = flatOf d ∧ flatV v = true := by
  cases h with
  | non => exact ⟨rfl, rfl⟩
  | bl b => exact ⟨rfl, rfl⟩
  | int b => exact ⟨rfl, rfl⟩
  | str b => exact ⟨rfl, rfl⟩
  | _ => cases f
theorem flat_dens {m : Mem} : ∀ {ds : List D} {vs : List V}, DenL W m ds vs → ds.all flatD = true → vs = ds.map flatOf ∧ vs.all flatV = true
  | _, _, .nil, _ => ⟨rfl, rfl⟩
  | d :: ds, v :: vs, .cons h t, f => by
    rw [List.all_cons, Bool.and_eq_true] at f
    obtain ⟨h1, h2⟩ := flat_den h f.1
    obtain ⟨h3, h4⟩ := flat_dens t f.2
    exact ⟨by rw [List.map_cons, h1, h3], by rw [List.all_cons, h2, h4]; rfl⟩
theorem op_inN (hK : X.K = W.K) (neg : Bool) : OpR X (compareOp (if neg then .NotIn else .In)) (R2of W (inD neg)) := by
  intro pins s σ H x y v u Q I rx ry h
  obtain ⟨E, a, b, m, rfl, g, ha, hb, q⟩ := h
  have gen : out W m E Q (match asS m.μ b with
    | some xs => if flatD a = true ∧ xs.all flatD = true then .ok (.bl (if neg then !inV (flatOf a) (xs.map flatOf) else inV (flatOf a) (xs.map flatOf))) m.μ else .stuck
    | none => .stuck) → wpAny (model X.prog X.w) X.A (compareOp (if neg then .NotIn else .In) v u) (EP X pins σ Q) X.xe s := by
    intro q
    cases e : asS m.μ b with
    | none => rw [e] at q; exact (show False from q).elim
    | some xs =>
      rw [e] at q
      have q' : out W m E Q (if flatD a = true ∧ xs.all flatD = true then .ok (.bl (if neg then !inV (flatOf a) (xs.map flatOf) else inV (flatOf a) (xs.map flatOf))) m.μ else .stuck) := q
      split at q'
      · rename_i hz
        obtain ⟨p, vs, rfl, h1, l⟩ := asS_den g hb e
        obtain ⟨e1, f1⟩ := flat_den ha hz.1
        obtain ⟨e2, f2⟩ := flat_dens l hz.2
        rw [← e1, ← e2] at q'
        have q2 := out.same q' g (.bl _)
        cases neg with
        | false => exact op_in_seq pins s σ m.H _ _ v u Q I rx ry ⟨p, vs, rfl, by rw [hK]; exact h1, f1, f2, q2⟩
        | true => exact op_notIn_seq pins s σ m.H _ _ v u Q I rx ry ⟨p, vs, rfl, by rw [hK]; exact h1, f1, f2, q2⟩
      · exact (show False from q').elim
  cases ha with
  | str c =>
    cases hb with
    | str z =>
      have q' : out W m E Q (match inSign neg c z with
        | some k => .ok (.bl k) m.μ
        | none => .stuck) := q
      obtain ⟨⟨cl⟩⟩ := c
      match cl, q', rx with
      | [], q', _ => exact (show False from q').elim
      | [n], q', rx =>
        have q2 := out.same (d := .bl (if neg then !decide (n ∈ z.cps.toList) else decide (n ∈ z.cps.toList))) q' g (.bl _)
        cases neg with
        | false => exact op_in_sign pins s σ m.H _ _ v u Q I rx ry ⟨n, z, rfl, rfl, q2⟩
        | true => exact op_notIn_sign pins s σ m.H _ _ v u Q I rx ry ⟨n, z, rfl, rfl, q2⟩
      | _ :: _ :: _, q', _ => exact (show False from q').elim
    | _ => exact gen q
  | _ => exact gen (by cases hb <;> exact q)
def isND (neg : Bool) (a b : D) : M D := fun μ => match a, b with
  | .non, .non => .ok (.bl (!neg)) μ
  | .bl _, .non | .int _, .non | .str _, .non | .tup _, .non | .lst _, .non | .frz _, .non | .dic _, .non | .cell _, .non | .obj _ _, .non => .ok (.bl neg) μ
  | _, _ => .stuck
theorem op_isND (neg : Bool) : OpR X (compareOp (if neg then .IsNot else .Is)) (R2of W (isND neg)) := by
  intro pins s σ H x y v u Q I rx ry h
  obtain ⟨E, a, b, m, rfl, g, ha, hb, q⟩ := h
  have fin : ∀ k : Bool, k = decide (x = .non) → y = .non → out W m E Q (.ok (.bl (if neg then !k else k)) m.μ) → wpAny (model X.prog X.w) X.A (compareOp (if neg then .IsNot else .Is) v u) (EP X pins σ Q) X.xe s := by
    intro k h1 h2 q
    have q2 := out.same q g (.bl _)
    subst h1
    cases neg with
    | false => exact op_isN pins s σ m.H _ _ v u Q I rx ry ⟨h2, q2⟩
    | true => exact op_notN pins s σ m.H _ _ v u Q I rx ry ⟨h2, q2⟩
  cases hb with
  | non =>
    cases ha with
    | non => exact fin true (by simp) rfl (by cases neg <;> exact q)
    | bl _ => exact fin false (by simp) rfl (by cases neg <;> exact q)
    | int _ => exact fin false (by simp) rfl (by cases neg <;> exact q)
    | str _ => exact fin false (by simp) rfl (by cases neg <;> exact q)
    | tup _ _ => exact fin false (by simp) rfl (by cases neg <;> exact q)
    | lst _ _ _ => exact fin false (by simp) rfl (by cases neg <;> exact q)
    | frz _ _ => exact fin false (by simp) rfl (by cases neg <;> exact q)
    | dic _ _ _ => exact fin false (by simp) rfl (by cases neg <;> exact q)
    | cell _ => exact fin false (by simp) rfl (by cases neg <;> exact q)
    | obj _ _ _ => exact fin false (by simp) rfl (by cases neg <;> exact q)
    | _ => exact (show False from q).elim
  | _ => exact (show False from by cases ha <;> exact q).elim
def cmpD : CmpOp → D → D → M D
  | .Eq => eqD false
  | .NotEq => eqD true
  | .Lt => ltD
  | .LtE => leD
  | .Gt => gtD
  | .GtE => geD
  | .In => inD false
  | .NotIn => inD true
  | .Is => isND false
  | .IsNot => isND true
theorem op_cmpD (hK : X.K = W.K) (hu : X.A.units + 64 < cLine) : ∀ op, OpR X (compareOp op) (R2of W (cmpD op))
  | .Eq => op_eqN hK hu
  | .NotEq => op_neN hK hu
  | .Lt => op_ltD
  | .LtE => op_leD
  | .Gt => op_gtD
  | .GtE => op_geD
  | .In => op_inN hK false
  | .NotIn => op_inN hK true
  | .Is => op_isND false
  | .IsNot => op_isND true

/-! ### built-in functions -/
def lenD (xs : List D) : M D := fun μ => match xs with
  | [.str y] => if y.length ≤ sizeLine then .ok (.int y.length) μ else .stuck
  | [.dic kvs] => .ok (.int kvs.length) μ
  | [d] => match asS μ d with
    | some ys => .ok (.int ys.length) μ
    | none => .stuck
  | _ => .stuck
theorem DenK.length {m : Mem} : ∀ {ds : List (Key × D)} {vs : List (Key × V)}, DenK W m ds vs → ds.length = vs.length
  | _, _, .nil => rfl
  | _, _, .cons _ t => by rw [List.length_cons, List.length_cons, DenK.length t]
theorem dl1 {m : Mem} {d : D} {xs : List V} (h : DenL W m [d] xs) : ∃ x, xs = [x] ∧ Den W m d x := by
  cases h with
  | cons a b => cases b; exact ⟨_, rfl, a⟩
theorem dl2 {m : Mem} {d e : D} {xs : List V} (h : DenL W m [d, e] xs) : ∃ x y, xs = [x, y] ∧ Den W m d x ∧ Den W m e y := by
  cases h with
  | cons a b => obtain ⟨y, rfl, h2⟩ := dl1 b; exact ⟨_, y, rfl, a, h2⟩
theorem call_lenDn (hK : X.K = W.K) : CallR X (.builtin "len") (RCof W lenD) := by
  intro pins s σ H xs us Q I r h
  obtain ⟨E, ds, m, rfl, g, l, q⟩ := h
  match ds, l, q with
  | [], l, q => exact (show False from q).elim
  | _ :: _ :: _, l, q => exact (show False from by unfold lenD at q; split at q <;> first | (rename_i e; cases e) | exact q).elim
  | [d], l, q =>
    obtain ⟨x, rfl, hd⟩ := dl1 l
    have gen : out W m E Q (match asS m.μ d with
      | some ys => .ok (.int ys.length) m.μ
      | none => .stuck) → wpAny (model X.prog X.w) X.A (call (.builtin "len") us) (EP X pins σ Q) X.xe s := by
      intro q
      cases e : asS m.μ d with
      | none => rw [e] at q; exact (show False from q).elim
      | some ys =>
        rw [e] at q
        obtain ⟨p, vs, rfl, h1, l1⟩ := asS_den g hd e
        have q2 := out.same (d := .int ys.length) q g (.int _)
        rw [l1.length] at q2
        exact call_len_seq pins s σ m.H _ us Q I r ⟨p, vs, rfl, by rw [hK]; exact h1, q2⟩
    cases hd with
    | str y =>
      have q' : out W m E Q (if y.length ≤ sizeLine then .ok (.int y.length) m.μ else .stuck) := q
      split at q'
      · rename_i hz
        exact call_len pins s σ m.H _ us Q I r ⟨.str y, y.length, rfl, ⟨hz, rfl⟩, q'.same g (.int _)⟩
      · exact (show False from q').elim
    | @dic kvs a kv' h1 h2 h3 =>
      have q2 := out.same (d := .int kvs.length) q g (.int _)
      rw [h3.length] at q2
      exact call_lenD pins s σ m.H _ us Q I r ⟨a, kv', rfl, h1, q2⟩
    | non => exact gen q
    | bl _ => exact gen q
    | int _ => exact gen q
    | ty _ => exact gen q
    | adr _ => exact gen q
    | cell _ => exact gen q
    | tup _ _ => exact gen q
    | lst _ _ _ => exact gen q
    | frz _ _ => exact gen q
    | obj _ _ _ => exact gen q
end
end Pu

set_option Elab.async false
set_option linter.all false
set_option maxRecDepth 100000
/-! Pu5: built-in functions and types called by name, items, slices, text methods. -/
namespace Pu
open PySem L2
section
variable {W : Wd} {X : Cx}
def absD (xs : List D) : M D := fun μ => match xs with
  | [.int i] => .ok (.int (if i < 0 then -i else i)) μ
  | _ => .stuck
def max2D (xs : List D) : M D := fun μ => match xs with
  | [.int i, .int j] => .ok (.int (if j > i then j else i)) μ
  | _ => .stuck
def min2D (xs : List D) : M D := fun μ => match xs with
  | [.int i, .int j] => .ok (.int (if j < i then j else i)) μ
  | _ => .stuck
def intD (xs : List D) : M D := fun μ => match xs with
  | [.int i] => .ok (.int i) μ
  | [.bl k] => .ok (.int (if k then 1 else 0)) μ
  | _ => .stuck
theorem den_int {m : Mem} {i : Int} {v : V} (h : Den W m (.int i) v) : v = .int i := by cases h; rfl
theorem den_bl {m : Mem} {i : Bool} {v : V} (h : Den W m (.bl i) v) : v = .bl i := by cases h; rfl
theorem den_str {m : Mem} {i : Str} {v : V} (h : Den W m (.str i) v) : v = .str i := by cases h; rfl
theorem den_non {m : Mem} {v : V} (h : Den W m .non v) : v = .non := by cases h; rfl
theorem den_ty {m : Mem} {n : String} {v : V} (h : Den W m (.ty n) v) : v = .ty n := by cases h; rfl
theorem call_absD : CallR X (.builtin "abs") (RCof W absD) := by
  intro pins s σ H xs us Q I r h
  obtain ⟨E, ds, m, rfl, g, l, q⟩ := h
  unfold absD at q
  split at q
  · rename_i i
    obtain ⟨x, rfl, hd⟩ := dl1 l
    cases den_int hd
    exact call_abs pins s σ m.H _ us Q I r ⟨i, rfl, out.same q g (.int _)⟩
  · exact q.elim
theorem call_max2D (hc : X.calm = true) : CallR X (.builtin "max") (RCof W max2D) := by
  intro pins s σ H xs us Q I r h
  obtain ⟨E, ds, m, rfl, g, l, q⟩ := h
  unfold max2D at q
  split at q
  · rename_i i j
    obtain ⟨x, y, rfl, hd, he⟩ := dl2 l
    cases den_int hd
    cases den_int he
    exact call_max2 hc pins s σ m.H _ us Q I r ⟨i, j, rfl, out.same q g (.int _)⟩
  · exact q.elim
theorem call_min2D (hc : X.calm = true) : CallR X (.builtin "min") (RCof W min2D) := by
  intro pins s σ H xs us Q I r h
  obtain ⟨E, ds, m, rfl, g, l, q⟩ := h
  unfold min2D at q
  split at q
  · rename_i i j
    obtain ⟨x, y, rfl, hd, he⟩ := dl2 l
    cases den_int hd
    cases den_int he
    exact call_min2 hc pins s σ m.H _ us Q I r ⟨i, j, rfl, out.same q g (.int _)⟩
  · exact q.elim
theorem call_intD : CallR X (.type "int") (RCof W intD) := by
  intro pins s σ H xs us Q I r h
  obtain ⟨E, ds, m, rfl, g, l, q⟩ := h
  unfold intD at q
  split at q
  · rename_i i
    obtain ⟨x, rfl, hd⟩ := dl1 l
    cases den_int hd
    exact call_int1 pins s σ m.H _ us Q I r (.inl ⟨i, rfl, out.same q g (.int _)⟩)
  · rename_i k
    obtain ⟨x, rfl, hd⟩ := dl1 l
    cases den_bl hd
    exact call_int1 pins s σ m.H _ us Q I r (.inr ⟨k, rfl, out.same q g (.int _)⟩)
  · exact q.elim
/-- a list of truth values -/
def blsOf : List D → Option (List Bool)
  | [] => some []
  | .bl b :: r => (blsOf r).map (b :: ·)
  | _ :: _ => none
theorem blsOf_map : ∀ {ds : List D} {bs : List Bool}, blsOf ds = some bs → ds = bs.map D.bl
  | [], bs, e => by simp [blsOf] at e; subst e; rfl
  | d :: ds, bs, e => by
    cases d with
    | bl b =>
      cases q : blsOf ds with
      | none => simp [blsOf, q] at e
      | some r =>
        simp [blsOf, q] at e
        subst e
        rw [blsOf_map q]
        rfl
    | _ => simp [blsOf] at e
theorem blsOf_of : ∀ bs : List Bool, blsOf (bs.map D.bl) = some bs
  | [] => rfl
  | b :: r => by simp [blsOf, blsOf_of r]
def allD (xs : List D) : M D := fun μ => match xs with
  | [d] => match (asQ μ d).bind blsOf with
    | some bs => .ok (.bl (bs.all id)) μ
    | none => .stuck
  | _ => .stuck
def anyD (xs : List D) : M D := fun μ => match xs with
  | [d] => match (asQ μ d).bind blsOf with
    | some bs => .ok (.bl (bs.any id)) μ
    | none => .stuck
  | _ => .stuck
theorem bls_at {m : Mem} {d : D} {x : V} {bs : List Bool} (g : Okm W m) (hd : Den W m d x) (e : (asQ m.μ d).bind blsOf = some bs) : ∃ a, x = .ref a ∧ SqL W.K m.H a (bs.map V.bl) := by
  cases q : asQ m.μ d with
  | none => rw [q] at e; cases e
  | some ds =>
    rw [q] at e
    obtain ⟨a, vs, rfl, h1, l⟩ := asQ_den g hd q
    have e2 := blsOf_map (show blsOf ds = some bs from e)
    subst e2
    rw [DenL.of_bls l] at h1
    exact ⟨a, rfl, h1⟩
theorem call_allD (hK : X.K = W.K) (hc : X.calm = true) : CallR X (.builtin "all") (RCof W allD) := by
  intro pins s σ H xs us Q I r h
  obtain ⟨E, ds, m, rfl, g, l, q⟩ := h
  unfold allD at q
  split at q
  · rename_i d
    obtain ⟨x, rfl, hd⟩ := dl1 l
    split at q
    · rename_i bs e
      obtain ⟨a, rfl, h1⟩ := bls_at g hd e
      exact cr_all hc pins s σ m.H _ us Q I r ⟨a, bs, rfl, by rw [hK]; exact h1, out.same q g (.bl _)⟩
    · exact q.elim
  · exact q.elim
theorem call_anyD (hK : X.K = W.K) (hc : X.calm = true) : CallR X (.builtin "any") (RCof W anyD) := by
  intro pins s σ H xs us Q I r h
  obtain ⟨E, ds, m, rfl, g, l, q⟩ := h
  unfold anyD at q
  split at q
  · rename_i d
    obtain ⟨x, rfl, hd⟩ := dl1 l
    split at q
    · rename_i bs e
      obtain ⟨a, rfl, h1⟩ := bls_at g hd e
      exact cr_any hc pins s σ m.H _ us Q I r ⟨a, bs, rfl, by rw [hK]; exact h1, out.same q g (.bl _)⟩
    · exact q.elim
  · exact q.elim

/-! ### isinstance of built-in classes -/
def tyD (μ : Sto) : D → Option String
  | .non => some "NoneType"
  | .bl _ => some "bool"
  | .int _ => some "int"
  | .str _ => some "str"
  | .tup _ => some "tuple"
  | .lst _ => some "list"
  | .frz _ => some "list"
  | .dic _ => some "dict"
  | .cell i => match μ[i]? with
    | some (.lst _) => some "list"
    | some (.dic _) => some "dict"
    | _ => none
  | _ => none
def isiB (t c : String) : Bool := t == c || (t == "bool" && c == "int")
def knownC : List String := ["int", "bool", "str", "tuple", "list", "dict"]
def isiD (xs : List D) : M D := fun μ => match xs with
  | [d, .ty c] => match tyD μ d with
    | some t => if c ∈ knownC then .ok (.bl (isiB t c)) μ else .stuck
    | none => .stuck
  | _ => .stuck
theorem kit_known (K : PySem.W.Frag) {c : String} (hc : c ∈ knownC) {t : String} (ht : t ∈ ["NoneType", "bool", "int", "str", "tuple", "list", "dict"]) : PySem.W.kitOne K (.type t) (.type c) = some (isiB t c) := by
  simp only [knownC, List.mem_cons, List.not_mem_nil, or_false] at hc ht
  rcases ht with rfl | rfl | rfl | rfl | rfl | rfl | rfl <;> rcases hc with rfl | rfl | rfl | rfl | rfl | rfl <;> rfl
theorem ty_den {m : Mem} {d : D} {x : V} {t : String} (g : Okm W m) (h : Den W m d x) (e : tyD m.μ d = some t) : TyX W.K m.H x (.type t) ∧ t ∈ ["NoneType", "bool", "int", "str", "tuple", "list", "dict"] := by
  cases h with
  | non => cases e; exact ⟨.base .non, by decide⟩
  | bl b => cases e; exact ⟨.base (.bl b), by decide⟩
  | int b => cases e; exact ⟨.base (.int b), by decide⟩
  | str b => cases e; exact ⟨.base (.str b), by decide⟩
  | @tup ds a vs h1 l =>
    cases e
    refine ⟨?_, by decide⟩
    rcases h1 with ⟨h1 | ⟨o, h1⟩, _⟩ | h1
    · exact .base (.tup h1)
    · exact .fTuple h1
    · rcases h1 (fun _ => none) with (h2 | ⟨o, h2⟩) | ⟨o, its, n, h2, h3, _⟩
      · cases h2
      · cases h2
      · exact .kTuple h2 h3
  | lst h1 n l => cases e; exact ⟨.base (.lst h1), by decide⟩
  | @frz ds a vs h1 l =>
    cases e
    refine ⟨?_, by decide⟩
    rcases h1 with ⟨h1 | ⟨o, h1⟩, _⟩ | h1
    · exact .base (.lst h1)
    · exact .base (.frz h1)
    · rcases h1 (fun _ => none) with (h2 | ⟨o, h2⟩) | ⟨o, its, n, h2, h3, _⟩
      · cases h2
      · cases h2
      · exact .kList h2 h3
  | dic h1 n l => cases e; exact ⟨.base (.dK h1), by decide⟩
  | @cell i a h1 =>
    simp only [tyD] at e
    cases q : m.μ[i]? with
    | none => rw [q] at e; cases e
    | some o =>
      rw [q] at e
      cases o with
      | lst xs =>
        cases e
        obtain ⟨vs, h2, _⟩ := g.ok i _ a q h1
        exact ⟨.base (.lst h2), by decide⟩
      | dic xs =>
        cases e
        obtain ⟨vs, h2, _⟩ := g.ok i _ a q h1
        exact ⟨.base (.dK h2), by decide⟩
      | _ => cases e
  | _ => cases e
theorem call_isiD (hK : X.K = W.K) : CallR X (.builtin "isinstance") (RCof W isiD) := by
  intro pins s σ H xs us Q I r h
  obtain ⟨E, ds, m, rfl, g, l, q⟩ := h
  unfold isiD at q
  split at q
  · rename_i d c
    obtain ⟨x, y, rfl, hd, he⟩ := dl2 l
    cases den_ty he
    split at q
    · rename_i t e
      split at q
      · rename_i hc
        obtain ⟨h1, h2⟩ := ty_den g hd e
        exact call_isi pins s σ m.H _ us Q I r ⟨x, .ty c, .type t, .type c, isiB t c, rfl, .ty c, by rw [hK]; exact h1, kit_known _ hc h2, out.same q g (.bl _)⟩
      · exact q.elim
    · exact q.elim
  · exact q.elim

/-! ### list(..), tuple(..), sum, sorted of ints -/
def listD (xs : List D) : M D := fun μ => match xs with
  | [d] => match asS μ d with
    | some ys => .ok (.lst ys) μ
    | none => .stuck
  | _ => .stuck
def tupleD (xs : List D) : M D := fun μ => match xs with
  | [d] => match asS μ d with
    | some ys => .ok (.tup ys) μ
    | none => .stuck
  | _ => .stuck
theorem call_listDn (hK : X.K = W.K) : CallR X (.type "list") (RCof W listD) := by
  intro pins s σ H xs us Q I r h
  obtain ⟨E, ds, m, rfl, g, l, q⟩ := h
  unfold listD at q
  split at q
  · rename_i d
    obtain ⟨x, rfl, hd⟩ := dl1 l
    split at q
    · rename_i ys e
      obtain ⟨a, vs, rfl, h1, l1⟩ := asS_den g hd e
      exact call_list_of pins s σ m.H _ us Q I r ⟨a, vs, rfl, by rw [hK]; exact h1, fun p hp => q.lst g l1 hp⟩
    · exact q.elim
  · exact q.elim
theorem tup_same {m : Mem} {d : D} {a : Addr} {ys : List D} {vs : List V} {E : Ex → Mem → Prop} {Q : VK} (g : Okm W m) (hd : Den W m d (.ref a)) (e : asS m.μ d = some ys) (h1 : SqT W.K m.H a vs) (nl : ∀ ws, ¬ SqL W.K m.H a ws) (q : out W m E Q (.ok (.tup ys) m.μ)) : Q (.ref a) m.H := by
  cases d with
  | tup zs => simp [asS] at e; subst e; exact out.same q g hd
  | _ =>
    obtain ⟨a', vs', e1, h2, _⟩ := asQ_den g hd (by simpa only [asS] using e)
    cases e1
    exact (nl _ h2).elim
end
end Pu

set_option Elab.async false
set_option linter.all false
set_option maxRecDepth 100000
/-! Pu6: tuple(..), items, slices, repr, join. -/
namespace Pu
open PySem L2
section
variable {W : Wd} {X : Cx}
theorem call_tupleDn (hK : X.K = W.K) : CallR X (.type "tuple") (RCof W tupleD) := by
  intro pins s σ H xs us Q I r h
  obtain ⟨E, ds, m, rfl, g, l, q⟩ := h
  unfold tupleD at q
  split at q
  · rename_i d
    obtain ⟨x, rfl, hd⟩ := dl1 l
    split at q
    · rename_i ys e
      cases d with
      | tup zs =>
        simp [asS] at e; subst e
        cases hd with
        | tup h1 l1 => exact call_tuple_of pins s σ m.H _ us Q I r ⟨_, _, rfl, .inr ⟨by rw [hK]; exact h1.sq, out.same q g (.tup h1 l1)⟩⟩
      | _ =>
        obtain ⟨a, vs, rfl, h1, l1⟩ := asQ_den g hd (by simpa only [asS] using e)
        exact call_tuple_of pins s σ m.H _ us Q I r ⟨a, vs, rfl, .inl ⟨by rw [hK]; exact h1, fun p hp => q.tup g l1 hp⟩⟩
    · exact q.elim
  · exact q.elim
/-! ### items -/
theorem DenL.atI {m : Mem} {ds : List D} {vs : List V} {k : Int} {d : D} (l : DenL W m ds vs) (e : L2.atI ds k = some d) : ∃ v, L2.atI vs k = some v ∧ Den W m d v := by
  unfold L2.atI at e ⊢
  rw [← l.length]
  cases q : ixN ds.length k with
  | none => rw [q] at e; cases e
  | some j =>
    rw [q] at e
    obtain ⟨v, h1, h2⟩ := l.get (i := j) (d := d) e
    exact ⟨v, h1, h2⟩
def ixD (a i : D) : M D := fun μ => match a, i with
  | .str z, .int k => if z.length ≤ sizeLine then match L2.atI z.cps.toList k with
      | some c => .ok (.str ⟨#[c]⟩) μ
      | none => .stuck
    else .stuck
  | _, .int k => match (asS μ a).bind fun xs => L2.atI xs k with
    | some d => .ok d μ
    | none => .stuck
  | _, _ => .stuck
theorem ix_D (hK : X.K = W.K) : IxR X (R2of W ixD) := by
  intro value slice pins s σ H x y v u Q I rx ry h hs
  obtain ⟨E, a, b, m, rfl, g, ha, hb, q⟩ := h
  have gen : ∀ k, y = .int k → out W m E Q (match (asS m.μ a).bind fun xs => L2.atI xs k with
    | some d => .ok d m.μ
    | none => .stuck) → wpAny (model X.prog X.w) X.A (PyProof.Rows.subscriptTail value slice v u) (EP X pins σ Q) X.xe s := by
    intro k ey q
    cases e : asS m.μ a with
    | none => rw [e] at q; exact (show False from q).elim
    | some xs =>
      rw [e] at q
      have q' : out W m E Q (match L2.atI xs k with
        | some d => .ok d m.μ
        | none => .stuck) := q
      split at q'
      · rename_i d e2
        obtain ⟨p, vs, rfl, h1, l⟩ := asS_den g ha e
        obtain ⟨w, e3, hw⟩ := l.atI e2
        have q2 := out.same q' g hw
        refine ix_seq value slice pins s σ m.H _ _ v u Q I rx ry ?_ hs
        rcases h1 with h1 | h1
        · exact .inl ⟨p, vs, k, w, rfl, ey, by rw [hK]; exact h1, e3, q2⟩
        · exact .inr (.inl ⟨p, vs, k, w, rfl, ey, by rw [hK]; exact h1, e3, q2⟩)
      · exact (show False from q').elim
  cases hb with
  | int k =>
    cases ha with
    | str z =>
      have q' : out W m E Q (if z.length ≤ sizeLine then match L2.atI z.cps.toList k with
        | some c => .ok (.str ⟨#[c]⟩) m.μ
        | none => .stuck else .stuck) := q
      split at q'
      · rename_i hz
        split at q'
        · rename_i c e
          exact ix_seq value slice pins s σ m.H _ _ v u Q I rx ry (.inr (.inr ⟨z, k, c, rfl, rfl, hz, e, q'.same g (.str _)⟩)) hs
        · exact (show False from q').elim
      · exact (show False from q').elim
    | _ => exact gen k rfl q
  | _ => exact (show False from by cases ha <;> exact q).elim
/-! ### slices -/
def cutL (xs : List D) (lo hi : Option Int) : List D := (xs.drop (HT.sIx xs.length 0 lo)).take (HT.sIx xs.length xs.length hi - HT.sIx xs.length 0 lo)
theorem DenL.cut {m : Mem} {ds : List D} {vs : List V} (l : DenL W m ds vs) (lo hi : Option Int) : DenL W m (cutL ds lo hi) (cutV vs lo hi) := by
  unfold cutL cutV
  rw [← l.length]
  exact (l.drop _).take _
def slD (a : D) (lo hi : Option Int) : M D := fun μ => match a with
  | .str z => if z.length ≤ sizeLine then .ok (.str (cutS z lo hi)) μ else .stuck
  | .tup xs => .ok (.tup (cutL xs lo hi)) μ
  | _ => match asQ μ a with
    | some xs => .ok (.lst (cutL xs lo hi)) μ
    | none => .stuck
theorem sl_D (hK : X.K = W.K) : SlR X (RSof W slD) := by
  intro pins s σ H x v vl vu lo hi sl Q I rx hs pl pu h
  obtain ⟨E, a, m, rfl, g, ha, q⟩ := h
  have gen : out W m E Q (match asQ m.μ a with
    | some xs => .ok (.lst (cutL xs lo hi)) m.μ
    | none => .stuck) → ∃ T id, typeLookup (.type T) "__getitem__" = pure (some (.builtin id)) ∧ s.TypeIs v T ∧ wpAny (model X.prog X.w) X.A (getItem v (.ref sl)) (EP X pins σ Q) X.xe s := by
    intro q
    cases e : asQ m.μ a with
    | none => rw [e] at q; exact (show False from q).elim
    | some xs =>
      rw [e] at q
      obtain ⟨p, vs, rfl, h1, l⟩ := asQ_den g ha e
      exact sl_list pins s σ m.H _ v vl vu lo hi sl Q I rx hs pl pu ⟨p, vs, rfl, by rw [hK]; exact h1, fun c hc => out.lst q g (l.cut lo hi) hc⟩
  cases ha with
  | str z =>
    have q' : out W m E Q (if z.length ≤ sizeLine then .ok (.str (cutS z lo hi)) m.μ else .stuck) := q
    split at q'
    · rename_i hz
      exact sl_str pins s σ m.H _ v vl vu lo hi sl Q I rx hs pl pu ⟨z, rfl, hz, q'.same g (.str _)⟩
    · exact (show False from q').elim
  | @tup xs p vs h1 l =>
    refine sl_tupA pins s σ m.H _ v vl vu lo hi sl Q I rx hs pl pu ⟨p, vs, rfl, by rw [hK]; exact h1.sq, fun e => ?_, fun _ c hc => out.tup (ds := cutL xs lo hi) q g (l.cut lo hi) hc⟩
    refine out.same (d := .tup (cutL xs lo hi)) q g ?_
    have e2 : cutL xs lo hi = xs := by
      unfold cutL
      rw [l.length, e.1, e.2]
      simp only [List.drop_zero, Nat.sub_zero]
      exact List.take_of_length_le (by rw [l.length]; exact Nat.le_refl _)
    rw [e2]
    exact .tup h1 l
  | non => exact gen q
  | bl _ => exact gen q
  | int _ => exact gen q
  | ty _ => exact gen q
  | adr _ => exact gen q
  | cell _ => exact gen q
  | lst _ _ _ => exact gen q
  | frz _ _ => exact gen q
  | dic _ _ _ => exact gen q
  | obj _ _ _ => exact gen q
/-! ### repr -/
def reprD (xs : List D) : M D := fun μ => match xs with
  | [d] => match toPyT μ d with
    | some p => if p.showable = true ∧ p.hasDict = false ∧ p.depth ≤ 60 ∧ p.shown.length ≤ sizeLine then .ok (.str p.shown) μ else .stuck
    | none => .stuck
  | _ => .stuck
theorem call_reprD (hK : X.K = W.K) (hu : X.A.units + 64 < cLine) (gd : X.A.guards = some []) : CallR X (.builtin "repr") (RCof W reprD) := by
  intro pins s σ H xs us Q I r h
  obtain ⟨E, ds, m, rfl, g, l, q⟩ := h
  unfold reprD at q
  split at q
  · rename_i d
    obtain ⟨x, rfl, hd⟩ := dl1 l
    split at q
    · rename_i p e
      split at q
      · rename_i hz
        obtain ⟨h1, h2, h3, h4⟩ := hz
        have q2 := out.same q g (.str _)
        have dp := toPyT_dp g hd e
        rw [← hK] at dp
        obtain ⟨u, rfl, ru⟩ := vals1 r
        obtain ⟨as, rd⟩ := Dp.reads I p x u dp ru
        have obj : ∀ b, u = .ref b → wpAny (model X.prog X.w) X.A (call (.builtin "repr") [u]) (EP X pins σ Q) X.xe s := by
          rintro b rfl
          exact repr_of_reads' rd h1 (PyData.noDict_hsm h2) gd (by omega) (fun _ _ z => z) (fun h' t tk hk => ⟨.str _, m.H, I.kept hk, ⟨_, rfl⟩, q2⟩) h4
        cases rd with
        | none => exact PySem.P.repr_of_none ⟨.str _, m.H, I.tok _, ⟨_, rfl⟩, q2⟩
        | bool b => exact PySem.P.repr_of_bool ⟨.str _, m.H, I.tok _, ⟨_, rfl⟩, by cases b <;> exact q2⟩
        | int i t => exact PySem.P.repr_of_int (of_decide_eq_true h1) ⟨.str _, m.H, I.tok _, ⟨_, rfl⟩, q2⟩
        | str z t => exact PySem.P.repr_of_str ⟨.str _, m.H, I.tok _, ⟨_, rfl⟩, q2⟩ h4
        | list _ _ _ _ => exact obj _ rfl
        | tuple _ _ _ _ => exact obj _ rfl
        | dict _ _ _ _ _ => exact obj _ rfl
      · exact q.elim
    · exact q.elim
  · exact q.elim
end
end Pu

set_option Elab.async false
set_option linter.all false
set_option maxRecDepth 100000
/-! Pu7: the den of expressions and statements. -/
namespace Pu
open PySem L2

structure Dn where
  e : Ctx → Expr → Sl → M D
  t : Ctx → Expr → Sl → M Bool
  s : Ctx → List Stmt → Sl → M Fl

/-! ### names -/
def Ctx.ix (G : Ctx) (x : Str) : Option Nat := if G.N[G.N.idxOf x]? = some x then some (G.N.idxOf x) else none
theorem Ctx.ix_at {G : Ctx} {x : Str} {i : Nat} (h : G.ix x = some i) : G.N[i]? = some x := by
  unfold Ctx.ix at h
  split at h
  · rename_i e; cases h; exact e
  · cases h
def visB (sc : Scope) (x : Str) : Bool := match sc.names.lookup x with
  | some .local => true
  | some .cell => true
  | some .free => true
  | _ => false
theorem visB_vis {sc : Scope} {x : Str} (h : visB sc x = true) : Vis sc x := by
  unfold visB at h
  split at h
  · rename_i e; exact .inl e
  · rename_i e; exact .inr (.inl e)
  · rename_i e; exact .inr (.inr e)
  · cases h
def okName (x : Str) : Bool := !(x == ("__debug__" : Str)) && !(x == ("__classdict__" : Str)) && !(x == ("__name__" : Str))
theorem okName_1 {x : Str} (h : okName x = true) : (x == ("__debug__" : Str)) = false := by
  unfold okName at h
  simp only [Bool.and_eq_true, Bool.not_eq_true'] at h
  exact h.1.1
theorem okName_2 {x : Str} (h : okName x = true) : (x == ("__classdict__" : Str)) = false := by
  unfold okName at h
  simp only [Bool.and_eq_true, Bool.not_eq_true'] at h
  exact h.1.2
theorem okName_3 {x : Str} (h : okName x = true) : x ≠ "__name__" := by
  unfold okName at h
  simp only [Bool.and_eq_true, Bool.not_eq_true'] at h
  exact fun e => by have := h.2; rw [e] at this; exact absurd this (by decide +kernel)
def glB (sc : Scope) (x : Str) : Bool := sc.names.lookup x == some .globalImplicit
def slot (i : Nat) (ρ : Sl) : M D := fun μ => match ρ[i]? with
  | some (some d) => .ok d μ
  | _ => .stuck
/-- a cell that changes no more becomes plain -/
def frzD (d : D) : M D := fun μ => match d with
  | .cell i => match μ[i]? with
    | some (.lst ds) => .ok (.lst ds) (μ.set i .dead)
    | some (.dic ks) => .ok (.dic ks) (μ.set i .dead)
    | _ => .stuck
  | d => .ok d μ
def tyOf (x : Str) : Option String :=
  if x = "int" then some "int" else if x = "bool" then some "bool" else if x = "str" then some "str" else if x = "tuple" then some "tuple" else if x = "list" then some "list" else if x = "dict" then some "dict" else none
theorem tyOf_boot {x : Str} {n : String} (h : tyOf x = some n) : bootBuiltins x = some (.type n) := by
  unfold tyOf at h
  repeat' split at h
  all_goals first
    | (rename_i e; subst e; cases h; decide +kernel)
    | (cases h)
    | skip
  all_goals (subst_vars; decide +kernel)
def nameD (G : Ctx) (x : Str) (pos : Pos) (ρ : Sl) : M D :=
  if okName x = true then
    if visB G.sc x = true then
      match G.ix x with
      | some i => if G.hint pos = 2 then (do let d ← slot i ρ; frzD d) else slot i ρ
      | none => stuck
    else if glB G.sc x = true then
      match G.glob x with
      | some d => yes d
      | none => match tyOf x with
        | some n => if G.isB x = true then yes (.ty n) else stuck
        | none => stuck
    else stuck
  else stuck
def constD : Const → M D
  | .none => yes .non
  | .bool b => yes (.bl b)
  | .int i => yes (.int i)
  | .str s => yes (.str s)
  | _ => stuck

/-! ### shapes -/
def noStar : List Expr → Bool
  | [] => true
  | .Starred _ _ :: _ => false
  | _ :: r => noStar r
theorem star_cons {e : Expr} {es : List Expr} {env : Env} (h : noStar (e :: es) = true) : starEach (e :: es) env = (false, eval e env) :: starEach es env ∧ noStar es = true := by
  cases e <;> first | exact ⟨rfl, h⟩ | cases h
theorem star_any {pos : Pos} {env : Env} : ∀ {es : List Expr}, noStar es = true → (backTo pos (starEach es env)).any (·.1) = false
  | [], _ => rfl
  | e :: es, h => by
    obtain ⟨h1, h2⟩ := star_cons (env := env) h
    rw [h1]
    have ih := star_any (pos := pos) (env := env) h2
    unfold backTo at ih ⊢
    first
      | (rw [List.map_cons, List.any_cons]; rw [ih]; rfl)
      | (simp only [List.any_cons, Bool.false_or] at ih ⊢; exact ih)
      | (simp at ih ⊢; exact ih)

/-! ### a new list; the pieces of a step -/
def newL (n : Nat) (ds : List D) : M D := fun μ => if ds.length ≤ sizeLine then (if n = 1 then .ok (.cell μ.length) (μ ++ [.lst ds]) else .ok (.lst ds) μ) else .stuck
def aD (r : Dn) (G : Ctx) : List Expr → Sl → M (List D)
  | [], _ => yes []
  | e :: es, ρ => do let d ← r.e G e ρ; let ds ← aD r G es ρ; yes (d :: ds)
def partD (r : Dn) (G : Ctx) : Option Expr → Sl → M (Option Int)
  | none, _ => yes none
  | some e, ρ => do
    let d ← r.e G e ρ
    fun μ => match d with
      | .int i => .ok (some i) μ
      | _ => .stuck
inductive Prim where
  | b (id : String) (p : List D → M D)
  | t (T : String) (p : List D → M D)
def primOf (x : Str) : Option Prim :=
  if x = "len" then some (.b "len" lenD) else if x = "abs" then some (.b "abs" absD) else if x = "max" then some (.b "max" max2D) else if x = "min" then some (.b "min" min2D) else
  if x = "int" then some (.t "int" intD) else if x = "all" then some (.b "all" allD) else if x = "any" then some (.b "any" anyD) else if x = "isinstance" then some (.b "isinstance" isiD) else
  if x = "list" then some (.t "list" listD) else if x = "tuple" then some (.t "tuple" tupleD) else if x = "repr" then some (.b "repr" reprD) else none
def noX {α : Type} (x : M α) : M α := fun μ => match x μ with
  | .exc _ _ => .stuck
  | r => r
def callD (r : Dn) (G : Ctx) (f : Str) (es : List Expr) (ρ : Sl) : M D :=
  if okName f = true ∧ noStar es = true ∧ glB G.sc f = true ∧ G.hot = false then
    match G.fn f with
    | some (n, F) => do
      let ds ← aD r G es ρ
      if ds.length = n then F ds else stuck
    | none => match primOf f with
      | some (.b _ p) => if G.isB f = true ∧ es ≠ [] then (do let ds ← aD r G es ρ; p ds) else stuck
      | some (.t _ p) => if G.isB f = true ∧ es ≠ [] then (do let ds ← aD r G es ρ; p ds) else stuck
      | none => stuck
  else stuck
/-- ''.join(xs) -/
def strsOf : List D → Option (List Str)
  | [] => some []
  | .str b :: r => (strsOf r).map (b :: ·)
  | _ :: _ => none
theorem strsOf_map : ∀ {ds : List D} {bs : List Str}, strsOf ds = some bs → ds = bs.map D.str
  | [], bs, e => by simp [strsOf] at e; subst e; rfl
  | d :: ds, bs, e => by
    cases d with
    | str b =>
      cases q : strsOf ds with
      | none => simp [strsOf, q] at e
      | some r =>
        simp [strsOf, q] at e
        subst e
        rw [strsOf_map q]
        rfl
    | _ => simp [strsOf] at e
theorem strsOf_of : ∀ bs : List Str, strsOf (bs.map D.str) = some bs
  | [] => rfl
  | b :: r => by simp [strsOf, strsOf_of r]
def isStr (a : D) : M Str := fun μ => match a with
  | .str z => .ok z μ
  | _ => .stuck
def joinD (z : Str) (x : D) : M D := fun μ => match (asS μ x).bind strsOf with
  | some ys => if (ys.map (·.length)).sum + ys.length * z.length ≤ 16777216 then .ok (.str (Txt.join z ys)) μ else .stuck
  | none => .stuck
/-- the base of an attribute that is no super() -/
def plainO : Expr → Bool
  | .Call (.Name _ _) [] [] _ => false
  | _ => true
theorem plainO_base {o : Expr} (h : plainO o = true) (m : Str) (env : Env) : attributeBase o m env (eval o env) = eval o env := by
  unfold attributeBase
  split
  · cases h
  · rfl
def methD (r : Dn) (G : Ctx) (o : Expr) (m : Str) (es : List Expr) (ok : Bool) (ρ : Sl) : M D :=
  if plainO o = true ∧ noStar es = true ∧ ok = true ∧ G.hot = false then
    match es with
    | [e] => if m = "join" then (do let x ← r.e G o ρ; let z ← isStr x; let y ← r.e G e ρ; joinD z y) else stuck
    | _ => stuck
  else stuck

/-! ### what is walked -/
def rangeL (lo : Int) (n : Nat) : List D := (List.range n).map fun (i : Nat) => .int (lo + i)
def signsL (z : Str) : List D := z.cps.toList.map fun c => .str ⟨#[c]⟩
def itemsD (d : D) : M (List D) := fun μ => match d with
  | .str z => .ok (signsL z) μ
  | .tup ds => .ok ds μ
  | .lst ds => .ok ds μ
  | .frz ds => .ok ds μ
  | _ => .stuck
inductive IShape where
  | rng1 (a : Expr) | rng2 (a b : Expr) | zip (a b : Expr) | other
def ishape : Expr → Expr → IShape
  | _, .Call (.Name x _) [a] [] _ => if x = "range" then .rng1 a else .other
  | .Tuple _ _ _, .Call (.Name x _) [a, b] [] _ => if x = "range" then .rng2 a b else if x = "zip" then .zip a b else .other
  | _, .Call (.Name x _) [a, b] [] _ => if x = "range" then .rng2 a b else .other
  | _, _ => .other
def zipD (x y : D) : M (List D) := fun μ => match x, y with
  | .str a, .str b => .ok (List.zipWith (fun p q => .tup [p, q]) (signsL a) (signsL b)) μ
  | .tup a, .tup b => .ok (List.zipWith (fun p q => .tup [p, q]) a b) μ
  | .lst a, .lst b => .ok (List.zipWith (fun p q => .tup [p, q]) a b) μ
  | _, _ => .stuck
def iD (r : Dn) (G : Ctx) (tg iter : Expr) (ρ : Sl) : M (List D) :=
  match ishape tg iter with
  | .rng1 a => if glB G.sc "range" = true ∧ G.isB "range" = true ∧ noStar [a] = true then (do
      let d ← r.e G a ρ
      fun μ => match d with
        | .int j => if -(2 ^ 62) ≤ j ∧ j < 2 ^ 62 then .ok (rangeL 0 j.toNat) μ else .stuck
        | _ => .stuck) else stuck
  | .rng2 a b => if glB G.sc "range" = true ∧ G.isB "range" = true ∧ noStar [a, b] = true then (do
      let d ← r.e G a ρ
      let e ← r.e G b ρ
      fun μ => match d, e with
        | .int i, .int j => if -(2 ^ 62) ≤ i ∧ i < 2 ^ 62 ∧ -(2 ^ 62) ≤ j ∧ j < 2 ^ 62 then .ok (rangeL i (j - i).toNat) μ else .stuck
        | _, _ => .stuck) else stuck
  | .zip a b => if glB G.sc "zip" = true ∧ G.isB "zip" = true ∧ noStar [a, b] = true then (do
      let d ← r.e G a ρ
      let e ← r.e G b ρ
      zipD d e) else stuck
  | .other => do
    let d ← r.e G iter ρ
    itemsD d

/-! ### targets: names and tuples of names -/
def gN (G : Ctx) (x : Str) (d : D) (ρ : Sl) : Option Sl := match G.ix x with
  | some i => if G.sc.names.lookup x = some .local ∨ (G.sc.names.lookup x = some .cell ∧ G.own x = true) then some (ρ.set i (some d)) else none
  | none => none
def gNs (G : Ctx) : List Expr → List D → Sl → Option Sl
  | [], [], ρ => some ρ
  | .Name x _ :: es, d :: ds, ρ => (gN G x d ρ).bind fun ρ' => gNs G es ds ρ'
  | _, _, _ => none
def gD (G : Ctx) : Expr → D → Sl → Option Sl
  | .Name x _, d, ρ => gN G x d ρ
  | .Tuple es _ _, .tup ds, ρ => gNs G es ds ρ
  | _, _, _ => none
def nslot (G : Ctx) : Expr → Nat
  | .Name x _ => G.N.idxOf x
  | _ => 0
def gslots (G : Ctx) : Expr → List Nat
  | .Name x _ => [G.N.idxOf x]
  | .Tuple es _ _ => es.map (nslot G)
  | _ => []

/-! ### comprehensions -/
def ownOf (N : List Str) (sc : Scope) : List (Str × Nat) := sc.names.filterMap fun (x, k) => if (k == .local || k == .cell) = true ∧ N[N.idxOf x]? = some x then some (x, N.idxOf x) else none
def testsD (r : Dn) (G : Ctx) : List Expr → Sl → M Bool
  | [], _ => yes true
  | [c], ρ => r.t G c ρ
  | _, _ => stuck
def compL (f : D → M (Option D)) : List D → List D → M (List D)
  | [], acc => yes acc
  | d :: ds, acc => do
    let y ← f d
    match y with
    | some z => if acc.length < sizeLine then compL f ds (acc ++ [z]) else stuck
    | none => compL f ds acc
def turnD (r : Dn) (G : Ctx) (elt tg : Expr) (ifs : List Expr) (ρ : Sl) (d : D) : M (Option D) := match gD G tg d ρ with
  | some ρ' => do
    let b ← testsD r G ifs ρ'
    if b then (do let y ← r.e G elt ρ'; yes (some y)) else yes none
  | none => stuck
def fixL (n : Nat) (ds : List D) : M D := fun μ => if n = 1 then .ok (.cell μ.length) (μ ++ [.lst ds]) else .ok (.lst ds) μ
def notSet : Expr → Bool
  | .Set _ _ _ => false
  | _ => true
/-- the context of a comprehension's block -/
def blkG (G : Ctx) (sc : Scope) : Ctx := { G with sc := relS sc G.sc, own := fun x => sc.names.lookup x == some .cell }
def compD (r : Dn) (G : Ctx) (elt tg iter : Expr) (ifs : List Expr) (sc : Scope) (pos : Pos) (ρ : Sl) : M D :=
  if G.hot = false ∧ blkC G.N G.sc sc (ownOf G.N sc) = true ∧ (∀ i ∈ gslots G tg, i ∈ (ownOf G.N sc).map (·.2)) ∧ notSet iter = true then (do
    let ds ← iD r G tg iter ρ
    let ys ← noX (compL (turnD r (blkG G sc) elt tg ifs (wipeL ρ ((ownOf G.N sc).map (·.2)))) ds [])
    fixL (G.hint pos) ys) else stuck

/-! ### a display of a dict, keys and values written -/
def constV : Const → Option (D × V)
  | .none => some (.non, .non)
  | .bool b => some (.bl b, .bl b)
  | .int i => some (.int i, .int i)
  | .str x => some (.str x, .str x)
  | _ => none
def constK : Const → Option Key
  | .int i => some (.inl i)
  | .str x => some (.inr x)
  | _ => none
def dispC : List (Option Expr) → List Expr → Option (List (Key × D × V))
  | [], [] => some []
  | some (.Constant c _ _) :: ks, .Constant d _ _ :: vs => match constK c, constV d, dispC ks vs with
    | some k, some v, some r => some ((k, v.1, v.2) :: r)
    | _, _, _ => none
  | _, _ => none
def putD (kvs : List (Key × D)) (k : Key) (v : D) : List (Key × D) :=
  if (kvs.any fun kv => decide (kv.1 = k)) = true then kvs.map (fun kv => if kv.1 = k then (kv.1, v) else kv) else kvs ++ [(k, v)]
def mergeD (kvs more : List (Key × D)) : List (Key × D) := more.foldl (fun acc kv => putD acc kv.1 kv.2) kvs
def dispD (ks : List (Option Expr)) (vs : List Expr) : M D := fun μ => match dispC ks vs with
  | some l => if l.length ≤ 15 then .ok (.dic (mergeD [] (l.map fun z => (z.1, z.2.1)))) μ else .stuck
  | none => .stuck
/-! ### one step of an expression -/
def isSlice : Expr → Bool
  | .Slice _ _ _ _ => true
  | _ => false
def notD (d : D) : M D := do
  let b ← truthD d
  yes (.bl (!b))
def chainD (op op' : CmpOp) (x y : D) (c : M D) : M D := do
  let z ← cmpD op x y
  match z with
  | .bl true => do let w ← c; cmpD op' y w
  | .bl false => yes (.bl false)
  | _ => stuck
def cmpE (r : Dn) (G : Ctx) (a : Expr) (ops : List CmpOp) (cs : List Expr) (ρ : Sl) : M D := match ops, cs with
  | [op], [b] => if notSet b = true then (do let x ← r.e G a ρ; let y ← r.e G b ρ; cmpD op x y) else stuck
  | [op, op'], [b, c] => if notSet c = true then (do let x ← r.e G a ρ; let y ← r.e G b ρ; chainD op op' x y (r.e G c ρ)) else stuck
  | _, _ => stuck
def boolE (r : Dn) (G : Ctx) (op : BoolOp) (vs : List Expr) (pos : Pos) (ρ : Sl) : M D := match vs with
  | [] => stuck
  | [a] => r.e G a ρ
  | a :: b :: rest => do
    let x ← r.e G a ρ
    let k ← truthD x
    match op, k with
    | .And, true => r.e G (.BoolOp .And (b :: rest) pos) ρ
    | .And, false => yes x
    | .Or, true => yes x
    | .Or, false => r.e G (.BoolOp .Or (b :: rest) pos) ρ
def tupL (ds : List D) : M D := fun μ => if ds.length ≤ sizeLine then .ok (.tup ds) μ else .stuck
def tupE (r : Dn) (G : Ctx) (es : List Expr) (ρ : Sl) : M D := if noStar es = true then (do let ds ← aD r G es ρ; tupL ds) else stuck
def lstE (r : Dn) (G : Ctx) (es : List Expr) (pos : Pos) (ρ : Sl) : M D := if noStar es = true then (do let ds ← aD r G es ρ; newL (G.hint pos) ds) else stuck
def subE (r : Dn) (G : Ctx) (a b : Expr) (ρ : Sl) : M D := match b with
  | .Slice lo hi none _ => do let x ← r.e G a ρ; let l ← partD r G lo ρ; let h ← partD r G hi ρ; slD x l h
  | .Slice _ _ (some _) _ => stuck
  | b => do let x ← r.e G a ρ; let y ← r.e G b ρ; ixD x y
def lcE (r : Dn) (G : Ctx) (elt : Expr) (gs : List Comprehension) (sc : Scope) (pos : Pos) (ρ : Sl) : M D := match gs with
  | [c] => if c.is_async = 0 then compD r G elt c.target c.iter c.ifs sc pos ρ else stuck
  | _ => stuck
def cllE (r : Dn) (G : Ctx) (f : Expr) (es : List Expr) (kws : List Keyword) (pos : Pos) (ρ : Sl) : M D := match kws with
  | [] => match f with
    | .Name x _ => callD r G x es ρ
    | .Attribute o m ap => methD r G o m es (ap.endLine == pos.line) ρ
    | _ => stuck
  | _ :: _ => stuck
def unE (r : Dn) (G : Ctx) (op : UnaryOp) (a : Expr) (ρ : Sl) : M D := match op with
  | .USub => do let x ← r.e G a ρ; negD x
  | .Not => do let x ← r.e G a ρ; notD x
  | _ => stuck
def ifE (r : Dn) (G : Ctx) (c a b : Expr) (ρ : Sl) : M D := do
  let k ← r.t G c ρ
  match k with
  | true => r.e G a ρ
  | false => r.e G b ρ
def stepE (r : Dn) (G : Ctx) (e : Expr) (ρ : Sl) : M D := match e with
  | .Constant c _ _ => constD c
  | .Name x pos => nameD G x pos ρ
  | .BinOp a op b _ => do let x ← r.e G a ρ; let y ← r.e G b ρ; binD op x y
  | .UnaryOp op a _ => unE r G op a ρ
  | .BoolOp op vs pos => boolE r G op vs pos ρ
  | .Compare a ops cs _ => cmpE r G a ops cs ρ
  | .IfExp c a b _ => ifE r G c a b ρ
  | .Tuple es _ _ => tupE r G es ρ
  | .List es pos => lstE r G es pos ρ
  | .Subscript a b _ => subE r G a b ρ
  | .Call f es kws pos => cllE r G f es kws pos ρ
  | .ListComp elt gs sc pos => lcE r G elt gs sc pos ρ
  | .Dict ks vs _ => dispD ks vs
  | _ => stuck
/-! ### one step of a test -/
def tplain : Expr → Bool
  | .UnaryOp .Not _ _ => false
  | .BoolOp _ _ _ => false
  | .IfExp _ _ _ _ => false
  | .Compare _ _ _ _ => false
  | _ => true
def asB (d : D) : M Bool := fun μ => match d with
  | .bl b => .ok b μ
  | _ => .stuck
def notT (r : Dn) (G : Ctx) (op : UnaryOp) (a : Expr) (pos : Pos) (ρ : Sl) : M Bool := match op with
  | .Not => do let b ← r.t G a ρ; yes (!b)
  | op => do let x ← r.e G (.UnaryOp op a pos) ρ; truthD x
def boolT (r : Dn) (G : Ctx) (op : BoolOp) (vs : List Expr) (pos : Pos) (ρ : Sl) : M Bool := match vs with
  | [] => stuck
  | [a] => r.t G a ρ
  | a :: b :: rest => do
    let k ← r.t G a ρ
    match op, k with
    | .And, true => r.t G (.BoolOp .And (b :: rest) pos) ρ
    | .And, false => yes false
    | .Or, true => yes true
    | .Or, false => r.t G (.BoolOp .Or (b :: rest) pos) ρ
def cmpT (r : Dn) (G : Ctx) (a : Expr) (ops : List CmpOp) (cs : List Expr) (ρ : Sl) : M Bool := do
  let z ← cmpE r G a ops cs ρ
  asB z
def stepT (r : Dn) (G : Ctx) (e : Expr) (ρ : Sl) : M Bool := match e with
  | .UnaryOp op a pos => notT r G op a pos ρ
  | .BoolOp op vs pos => boolT r G op vs pos ρ
  | .Compare a ops cs _ => cmpT r G a ops cs ρ
  | .IfExp _ _ _ _ => stuck
  | e => do let x ← r.e G e ρ; truthD x
end Pu

set_option Elab.async false
set_option linter.all false
set_option maxRecDepth 100000
/-! Pu8: the steps of expressions and tests are kept by the model. -/
namespace Pu
open PySem L2

structure EnOk (W : Wd) (r : Dn) : Prop where
  e : ∀ {X : Cx} {Z : WX} {G : Ctx}, EOk W X Z G → ∀ ex : Expr, PE X ex (TEof W Z (r.e G ex))
  t : ∀ {X : Cx} {Z : WX} {G : Ctx}, EOk W X Z G → ∀ ex : Expr, PT X ex (TTof W Z (r.t G ex))

section
variable {W : Wd} {Z : WX} {X : Cx} {G : Ctx} {σ : St} {H : Hp} {Q : VK}
theorem te_none {f : Sl → M D} (e : ∀ ρ, f ρ = stuck) : ∀ {σ H Q}, TEof W Z f σ H Q → False := fun ⟨ρ, m, _, _, _, w⟩ => by rw [e] at w; exact w
theorem te_op {fa fb : Sl → M D} {p : D → D → M D} (h : TEof W Z (fun ρ => do let x ← fa ρ; let y ← fb ρ; p x y) σ H Q) : tOp (R2of W p) (TEof W Z fa) (TEof W Z fb) σ H Q := by
  obtain ⟨ρ, m, e, g, r, w⟩ := h
  refine ⟨ρ, m, e, g, r, (wpR_bind w).mono (fun _ _ _ _ z => z) fun x m1 s1 g1 w1 v hv => ?_⟩
  refine ⟨ρ, m1, rfl, g1, r.mono s1, (wpR_bind w1).mono (fun _ _ _ _ z => z) fun y m2 s2 g2 w2 u hu => ?_⟩
  exact ⟨_, x, y, m2, rfl, g2, hv.mono s2, hu, w2⟩
theorem te_un {fa : Sl → M D} {p : D → M D} (h : TEof W Z (fun ρ => do let x ← fa ρ; p x) σ H Q) : tUn (R1of W p) (TEof W Z fa) σ H Q := by
  obtain ⟨ρ, m, e, g, r, w⟩ := h
  refine ⟨ρ, m, e, g, r, (wpR_bind w).mono (fun _ _ _ _ z => z) fun x m1 s1 g1 w1 v hv => ?_⟩
  exact ⟨_, x, m1, rfl, g1, hv, w1⟩
/-- behind a first value -/
theorem te_bind {fa : Sl → M D} {f : D → Sl → M D} (h : TEof W Z (fun ρ => do let x ← fa ρ; f x ρ) σ H Q) :
    TEof W Z fa σ H fun v H1 => ∃ ρ m d, m.H = H1 ∧ Okm W m ∧ EnvOk W m ρ σ ∧ Den W m d v ∧ wpR W m (EWish W Z σ) (fun d m' => ∀ v, Den W m' d v → Q v m'.H) (f d ρ m.μ) := by
  obtain ⟨ρ, m, e, g, r, w⟩ := h
  exact ⟨ρ, m, e, g, r, (wpR_bind w).mono (fun _ _ _ _ z => z) fun x m1 s1 g1 w1 v hv => ⟨ρ, m1, x, rfl, g1, r.mono s1, hv, w1⟩⟩
/-- truth, then one of two ways -/
theorem te_truth {m : Mem} {d : D} {v : V} {K : PySem.W.Frag} (hK : K = W.K) {f : Bool → M D} (g : Okm W m) (hv : Den W m d v) (w : wpR W m (EWish W Z σ) (fun d m' => ∀ v, Den W m' d v → Q v m'.H) ((do let k ← truthD d; f k) m.μ)) :
    ∃ k, TruV K v m.H k ∧ wpR W m (EWish W Z σ) (fun d m' => ∀ v, Den W m' d v → Q v m'.H) (f k m.μ) := by
  have w' : wpR W m (EWish W Z σ) (fun d m' => ∀ v, Den W m' d v → Q v m'.H) (M.bind (truthD d) f m.μ) := w
  unfold M.bind at w'
  cases e : truthD d m.μ with
  | ok k μ' =>
    rw [e] at w'
    obtain ⟨rfl, h2⟩ := truth_den g hv e
    exact ⟨k, by rw [hK]; exact h2, w'⟩
  | exc x μ' =>
    exfalso
    unfold truthD at e
    repeat' split at e
    all_goals cases e
  | stuck => rw [e] at w'; exact w'.elim

/-! ### names, constants -/
theorem pe_const (ok : EOk W X Z G) (c : Const) (k : Nat) (pos : Pos) : PE X (.Constant c k pos) (TEof W Z (fun _ => constD c)) := by
  cases c with
  | none => exact PE.weak pe_non fun σ H Q ⟨ρ, m, e, g, r, w⟩ => e ▸ out.same (d := .non) (E := EWish W Z σ) w g .non
  | bool b => exact PE.weak pe_bl fun σ H Q ⟨ρ, m, e, g, r, w⟩ => e ▸ out.same (d := .bl b) (E := EWish W Z σ) w g (.bl b)
  | int b => exact PE.weak pe_int fun σ H Q ⟨ρ, m, e, g, r, w⟩ => e ▸ out.same (d := .int b) (E := EWish W Z σ) w g (.int b)
  | str b => exact PE.weak pe_str fun σ H Q ⟨ρ, m, e, g, r, w⟩ => e ▸ out.same (d := .str b) (E := EWish W Z σ) w g (.str b)
  | _ => exact PE.weak PE.any fun σ H Q h => (te_none (f := fun _ => stuck) (fun _ => rfl) h).elim
theorem slot_get {m : Mem} {ρ : Sl} {i : Nat} {E : Ex → Mem → Prop} {P : D → Mem → Prop} (g : Okm W m) (r : EnvOk W m ρ σ) (w : wpR W m E P (slot i ρ m.μ)) : ∃ d v, σ[i]? = some (some v) ∧ Den W m d v ∧ ρ[i]? = some (some d) ∧ P d m := by
  have w' : wpR W m E P (match ρ[i]? with
    | some (some d) => .ok d m.μ
    | _ => .stuck) := w
  clear w
  split at w'
  · rename_i d e
    have w := w'
    obtain ⟨v, h1, h2⟩ := r.get i d e
    exact ⟨d, v, h1, h2, e, w m (Step.refl m) g rfl⟩
  · exact w'.elim
theorem frz_out {m : Mem} {d : D} {v : V} {E : Ex → Mem → Prop} (g : Okm W m) (hv : Den W m d v) (w : out W m E Q (frzD d m.μ)) : Q v m.H := by
  cases d with
  | cell i =>
    cases hv with
    | @cell _ a h1 =>
      have w' : out W m E Q (match m.μ[i]? with
        | some (.lst ds) => .ok (.lst ds) (m.μ.set i .dead)
        | some (.dic ks) => .ok (.dic ks) (m.μ.set i .dead)
        | _ => .stuck) := w
      split at w'
      · rename_i ds e
        obtain ⟨vs, h2, h3⟩ := g.ok i _ a e h1
        exact w' (m.die i) step_die (good_die g) rfl _ (.lst h2 (die_live g h1) (h3.mono step_die))
      · rename_i ds e
        obtain ⟨vs, h2, h3⟩ := g.ok i _ a e h1
        exact w' (m.die i) step_die (good_die g) rfl _ (.dic h2 (die_live g h1) (h3.mono step_die))
      · exact w'.elim
  | _ => exact out.same (W := W) (E := E) w g hv
theorem pe_name (ok : EOk W X Z G) (x : Str) (pos : Pos) : PE X (.Name x pos) (TEof W Z (nameD G x pos)) := by
  by_cases h1 : okName x = true
  · by_cases h2 : visB G.sc x = true
    · cases h3 : G.ix x with
      | none =>
        refine PE.weak PE.any fun σ H Q h => te_none (f := nameD G x pos) (fun ρ => ?_) h
        unfold nameD
        rw [if_pos h1, if_pos h2, h3]
      | some i =>
        refine PE.weak (pe_var (i := i) (by rw [ok.N]; exact Ctx.ix_at h3) (by rw [ok.sc]; exact visB_vis h2) (okName_1 h1) (okName_2 h1)) ?_
        rintro σ H Q ⟨ρ, m, e, g, r, w⟩
        subst e
        unfold nameD at w
        rw [if_pos h1, if_pos h2, h3] at w
        simp only at w
        split at w
        · obtain ⟨d, v, e1, e2, e3, w2⟩ := slot_get g r (wpR_bind w)
          exact ⟨v, e1, frz_out (E := EWish W Z σ) g e2 w2⟩
        · obtain ⟨d, v, e1, e2, e3, w2⟩ := slot_get g r w
          exact ⟨v, e1, w2 v e2⟩
    · by_cases h4 : glB G.sc x = true
      · have hg : Gl X x := by
          show X.env.kindOf x = some .globalImplicit
          have e := beq_iff_eq.mp h4
          rw [← ok.sc] at e
          exact e
        cases h5 : G.glob x with
        | some d =>
          obtain ⟨u, v, e1, e2, e3⟩ := ok.g.glob x d h5
          refine PE.weak (pe_glob hg e1 e2 (okName_1 h1)) ?_
          rintro σ H Q ⟨ρ, m, e, g, r, w⟩
          subst e
          unfold nameD at w
          rw [if_pos h1, if_neg h2, if_pos h4, h5] at w
          exact out.same (E := EWish W Z σ) (d := d) w g (e3 m)
        | none =>
          cases h6 : tyOf x with
          | none =>
            refine PE.weak PE.any fun σ H Q h => te_none (f := nameD G x pos) (fun ρ => ?_) h
            unfold nameD
            rw [if_pos h1, if_neg h2, if_pos h4, h5, h6]
          | some n =>
            by_cases h7 : G.isB x = true
            · refine PE.weak (pe_bltn (v := .ty n) hg (ok.g.bl x h7) (tyOf_boot h6) rfl (okName_3 h1) (okName_1 h1)) ?_
              rintro σ H Q ⟨ρ, m, e, g, r, w⟩
              subst e
              unfold nameD at w
              rw [if_pos h1, if_neg h2, if_pos h4, h5, h6] at w
              simp only at w
              rw [if_pos h7] at w
              exact out.same (E := EWish W Z σ) (d := .ty n) w g (.ty n)
            · refine PE.weak PE.any fun σ H Q h => te_none (f := nameD G x pos) (fun ρ => ?_) h
              unfold nameD
              rw [if_pos h1, if_neg h2, if_pos h4, h5, h6]
              simp only
              rw [if_neg h7]
      · refine PE.weak PE.any fun σ H Q h => te_none (f := nameD G x pos) (fun ρ => ?_) h
        unfold nameD
        rw [if_pos h1, if_neg h2, if_neg h4]
  · refine PE.weak PE.any fun σ H Q h => te_none (f := nameD G x pos) (fun ρ => ?_) h
    unfold nameD
    rw [if_neg h1]

/-! ### arguments -/
variable {r : Dn}
theorem pa_D (R : EnOk W r) (ok : EOk W X Z G) : ∀ {es : List Expr}, noStar es = true → PA X es (TAof W Z (aD r G es))
  | [], _ => PA.weak pa_nil fun σ H Q ⟨ρ, m, e, g, rr, w⟩ => e ▸ w m (Step.refl m) g rfl [] .nil
  | e :: es, h => by
    obtain ⟨h1, h2⟩ := star_cons (env := X.env) h
    refine PA.weak (pa_cons (R.e ok e) (pa_D R ok h2) h1) ?_
    rintro σ H Q ⟨ρ, m, ee, g, rr, w⟩
    refine ⟨ρ, m, ee, g, rr, (wpR_bind w).mono (fun _ _ _ _ z => z) fun x m1 s1 g1 w1 v hv => ?_⟩
    refine ⟨ρ, m1, rfl, g1, rr.mono s1, (wpR_bind w1).mono (fun _ _ _ _ z => z) fun xs m2 s2 g2 w2 vs hvs => ?_⟩
    exact w2 m2 (Step.refl m2) g2 rfl _ (.cons (hv.mono s2) hvs)
theorem ta_bind {fa : Sl → M (List D)} {f : List D → Sl → M D} (h : TEof W Z (fun ρ => do let x ← fa ρ; f x ρ) σ H Q) :
    TAof W Z fa σ H fun vs H1 => ∃ ρ m ds, m.H = H1 ∧ Okm W m ∧ EnvOk W m ρ σ ∧ DenL W m ds vs ∧ wpR W m (EWish W Z σ) (fun d m' => ∀ v, Den W m' d v → Q v m'.H) (f ds ρ m.μ) := by
  obtain ⟨ρ, m, e, g, r, w⟩ := h
  exact ⟨ρ, m, e, g, r, (wpR_bind w).mono (fun _ _ _ _ z => z) fun x m1 s1 g1 w1 v hv => ⟨ρ, m1, x, rfl, g1, r.mono s1, hv, w1⟩⟩
theorem DenL.lenEq {m : Mem} {ds : List D} {vs : List V} (l : DenL W m ds vs) : vs.length = ds.length := l.length.symm
theorem pe_tupD (R : EnOk W r) (ok : EOk W X Z G) {es : List Expr} {k : Nat} {pos : Pos} (h : noStar es = true) :
    PE X (.Tuple es k pos) (TEof W Z fun ρ => do let ds ← aD r G es ρ; tupL ds) := by
  refine PE.weak (pe_tup (pa_D R ok h)) fun σ H Q h => ?_
  obtain ⟨ρ, m, e, g, rr, w⟩ := ta_bind h
  refine ⟨ρ, m, e, g, rr, w.mono (fun _ _ _ _ z => z) fun xs m1 s1 g1 w1 vs hvs => ?_⟩
  obtain ⟨ρ2, m2, ds, e2, g2, r2, l2, w2⟩ := w1 vs hvs
  unfold tupL at w2
  split at w2
  · rename_i hz
    refine ⟨by rw [l2.lenEq]; exact hz, fun p hp => ?_⟩
    rw [← e2] at hp ⊢
    exact out.tup (E := EWish W Z σ) w2 g2 l2 hp
  · exact w2.elim
theorem newL_out {m : Mem} {ds : List D} {vs : List V} {n : Nat} {E : Ex → Mem → Prop} (g : Okm W m) (l : DenL W m ds vs) (w : out W m E Q (newL n ds m.μ)) : vs.length ≤ sizeLine ∧ ∀ p, m.H p = none → Q (.ref p) (upd m.H p (.lst vs)) := by
  unfold newL at w
  split at w
  · rename_i hz
    refine ⟨by rw [l.lenEq]; exact hz, fun p hp => ?_⟩
    split at w
    · exact out.cel w g l hp
    · exact out.lst w g l hp
  · exact w.elim
theorem pe_lstD (R : EnOk W r) (ok : EOk W X Z G) {es : List Expr} {n : Nat} {pos : Pos} (h : noStar es = true) :
    PE X (.List es pos) (TEof W Z fun ρ => do let ds ← aD r G es ρ; newL n ds) := by
  refine PE.weak (pe_lst (pa_D R ok h)) fun σ H Q h => ?_
  obtain ⟨ρ, m, e, g, rr, w⟩ := ta_bind h
  refine ⟨ρ, m, e, g, rr, w.mono (fun _ _ _ _ z => z) fun xs m1 s1 g1 w1 vs hvs => ?_⟩
  obtain ⟨ρ2, m2, ds, e2, g2, r2, l2, w2⟩ := w1 vs hvs
  obtain ⟨h1, h2⟩ := newL_out (E := EWish W Z σ) g2 l2 w2
  exact ⟨h1, fun p hp => by rw [← e2] at hp ⊢; exact h2 p hp⟩
/-! ### calls -/
theorem prim_b {x : Str} {id : String} {p : List D → M D} (h : primOf x = some (.b id p)) (hK : X.K = W.K) (hc : X.calm = true) (hu : X.A.units + 64 < cLine) (gd : X.A.guards = some []) : bootBuiltins x = some (.builtin id) ∧ CallR X (.builtin id) (RCof W p) := by
  unfold primOf at h
  by_cases e : x = "len"
  · rw [if_pos e] at h; cases h; subst e; exact ⟨by decide +kernel, call_lenDn hK⟩
  rw [if_neg e] at h; clear e
  by_cases e : x = "abs"
  · rw [if_pos e] at h; cases h; subst e; exact ⟨by decide +kernel, call_absD⟩
  rw [if_neg e] at h; clear e
  by_cases e : x = "max"
  · rw [if_pos e] at h; cases h; subst e; exact ⟨by decide +kernel, call_max2D hc⟩
  rw [if_neg e] at h; clear e
  by_cases e : x = "min"
  · rw [if_pos e] at h; cases h; subst e; exact ⟨by decide +kernel, call_min2D hc⟩
  rw [if_neg e] at h; clear e
  by_cases e : x = "int"
  · rw [if_pos e] at h; cases h
  rw [if_neg e] at h; clear e
  by_cases e : x = "all"
  · rw [if_pos e] at h; cases h; subst e; exact ⟨by decide +kernel, call_allD hK hc⟩
  rw [if_neg e] at h; clear e
  by_cases e : x = "any"
  · rw [if_pos e] at h; cases h; subst e; exact ⟨by decide +kernel, call_anyD hK hc⟩
  rw [if_neg e] at h; clear e
  by_cases e : x = "isinstance"
  · rw [if_pos e] at h; cases h; subst e; exact ⟨by decide +kernel, call_isiD hK⟩
  rw [if_neg e] at h; clear e
  by_cases e : x = "list"
  · rw [if_pos e] at h; cases h
  rw [if_neg e] at h; clear e
  by_cases e : x = "tuple"
  · rw [if_pos e] at h; cases h
  rw [if_neg e] at h; clear e
  by_cases e : x = "repr"
  · rw [if_pos e] at h; cases h; subst e; exact ⟨by decide +kernel, call_reprD hK hu gd⟩
  rw [if_neg e] at h; cases h
theorem prim_t {x : Str} {T : String} {p : List D → M D} (h : primOf x = some (.t T p)) (hK : X.K = W.K) : bootBuiltins x = some (.type T) ∧ CallR X (.type T) (RCof W p) := by
  unfold primOf at h
  by_cases e : x = "len"
  · rw [if_pos e] at h; cases h
  rw [if_neg e] at h; clear e
  by_cases e : x = "abs"
  · rw [if_pos e] at h; cases h
  rw [if_neg e] at h; clear e
  by_cases e : x = "max"
  · rw [if_pos e] at h; cases h
  rw [if_neg e] at h; clear e
  by_cases e : x = "min"
  · rw [if_pos e] at h; cases h
  rw [if_neg e] at h; clear e
  by_cases e : x = "int"
  · rw [if_pos e] at h; cases h; subst e; exact ⟨by decide +kernel, call_intD⟩
  rw [if_neg e] at h; clear e
  by_cases e : x = "all"
  · rw [if_pos e] at h; cases h
  rw [if_neg e] at h; clear e
  by_cases e : x = "any"
  · rw [if_pos e] at h; cases h
  rw [if_neg e] at h; clear e
  by_cases e : x = "isinstance"
  · rw [if_pos e] at h; cases h
  rw [if_neg e] at h; clear e
  by_cases e : x = "list"
  · rw [if_pos e] at h; cases h; subst e; exact ⟨by decide +kernel, call_listDn hK⟩
  rw [if_neg e] at h; clear e
  by_cases e : x = "tuple"
  · rw [if_pos e] at h; cases h; subst e; exact ⟨by decide +kernel, call_tupleDn hK⟩
  rw [if_neg e] at h; clear e
  by_cases e : x = "repr"
  · rw [if_pos e] at h; cases h
  rw [if_neg e] at h; cases h
theorem gl_of (ok : EOk W X Z G) {x : Str} (h : glB G.sc x = true) : Gl X x := by
  show X.env.kindOf x = some .globalImplicit
  have e := beq_iff_eq.mp h
  rw [← ok.sc] at e
  exact e
theorem pe_callD (R : EnOk W r) (ok : EOk W X Z G) (f : Str) (p : Pos) (es : List Expr) (pos : Pos) : PE X (.Call (.Name f p) es [] pos) (TEof W Z (callD r G f es)) := by
  by_cases h0 : okName f = true ∧ noStar es = true ∧ glB G.sc f = true ∧ G.hot = false
  · obtain ⟨h1, h2, h3, h4⟩ := id h0
    have hg := gl_of ok h3
    have pa := pa_D R ok h2
    cases q : G.fn f with
    | some nF =>
      obtain ⟨n, F⟩ := nF
      obtain ⟨a, fd, ps, FG, m1, m2, m3⟩ := ok.g.fn f n F q
      rw [← ok.K] at FG m2 m3
      have fin : ∀ {σ H Q}, TEof W Z (callD r G f es) σ H Q → TAof W Z (aD r G es) σ H fun vs H1 => spOf W n F vs H1 Q (WE Z σ) := by
        intro σ H Q h
        have h' : TEof W Z (fun ρ => do let ds ← aD r G es ρ; if ds.length = n then F ds else stuck) σ H Q := by
          obtain ⟨ρ, m, e, g, rr, w⟩ := h
          refine ⟨ρ, m, e, g, rr, ?_⟩
          unfold callD at w
          rw [if_pos h0, q] at w
          exact w
        obtain ⟨ρ, m, e, g, rr, w⟩ := ta_bind h'
        refine ⟨ρ, m, e, g, rr, w.mono (fun _ _ _ _ z => z) fun xs m1 s1 g1 w1 vs hvs => ?_⟩
        obtain ⟨ρ2, m2, ds, e2, g2, r2, l2, w2⟩ := w1 vs hvs
        split at w2
        · rename_i hn
          exact ⟨by rw [l2.lenEq]; exact hn, ds, m2, e2, g2, l2, w2⟩
        · exact w2.elim
      cases es with
      | nil =>
        refine PE.weak (pe_callG0 FG (ok.room h4) ok.gd hg m1 m2 m3 ok.tk (okName_1 h1)) fun σ H Q h => ?_
        obtain ⟨ρ, m, e, g, rr, w⟩ := fin h
        subst e
        exact w m (Step.refl m) g rfl [] .nil
      | cons e0 es =>
        obtain ⟨z1, z2⟩ := star_cons (env := X.env) h2
        exact PE.weak (pe_callG FG (ok.room h4) ok.gd hg m1 m2 m3 ok.tk pa (okName_1 h1) z1 (star_any z2)) fun σ H Q h => fin h
    | none =>
      have none_of : (∀ ρ, callD r G f es ρ = stuck) → PE X (.Call (.Name f p) es [] pos) (TEof W Z (callD r G f es)) := fun z => PE.weak PE.any fun σ H Q h => te_none z h
      have fin : ∀ {pp : List D → M D}, (∀ ρ, callD r G f es ρ = (do let ds ← aD r G es ρ; pp ds)) → ∀ {σ H Q}, TEof W Z (callD r G f es) σ H Q → tCB (RCof W pp) (TAof W Z (aD r G es)) σ H Q := by
        intro pp z σ H Q h
        have h' : TEof W Z (fun ρ => do let ds ← aD r G es ρ; pp ds) σ H Q := by
          obtain ⟨ρ, m, e, g, rr, w⟩ := h
          exact ⟨ρ, m, e, g, rr, by rw [z] at w; exact w⟩
        obtain ⟨ρ, m, e, g, rr, w⟩ := ta_bind h'
        refine ⟨ρ, m, e, g, rr, w.mono (fun _ _ _ _ z => z) fun xs m1 s1 g1 w1 vs hvs => ?_⟩
        obtain ⟨ρ2, m2, ds, e2, g2, r2, l2, w2⟩ := w1 vs hvs
        exact ⟨_, ds, m2, e2, g2, l2, w2⟩
      cases q2 : primOf f with
      | none =>
        refine none_of fun ρ => ?_
        unfold callD
        rw [if_pos h0, q, q2]
      | some P =>
        cases P with
        | b id pp =>
          by_cases h5 : G.isB f = true ∧ es ≠ []
          · obtain ⟨b1, b2⟩ := prim_b q2 ok.K (ok.calm h4) ok.un ok.gd
            have z : ∀ ρ, callD r G f es ρ = (do let ds ← aD r G es ρ; pp ds) := fun ρ => by
              unfold callD
              rw [if_pos h0, q, q2]
              simp only
              rw [if_pos h5]
            cases es with
            | nil => exact absurd rfl h5.2
            | cons e0 es =>
              obtain ⟨z1, z2⟩ := star_cons (env := X.env) h2
              exact PE.weak (pe_callB b2 hg (ok.g.bl f h5.1) b1 pa (okName_3 h1) (okName_1 h1) z1 (star_any z2)) fun σ H Q h => fin z h
          · refine none_of fun ρ => ?_
            unfold callD
            rw [if_pos h0, q, q2]
            simp only
            rw [if_neg h5]
        | t T pp =>
          by_cases h5 : G.isB f = true ∧ es ≠ []
          · obtain ⟨b1, b2⟩ := prim_t q2 ok.K
            have z : ∀ ρ, callD r G f es ρ = (do let ds ← aD r G es ρ; pp ds) := fun ρ => by
              unfold callD
              rw [if_pos h0, q, q2]
              simp only
              rw [if_pos h5]
            cases es with
            | nil => exact absurd rfl h5.2
            | cons e0 es =>
              obtain ⟨z1, z2⟩ := star_cons (env := X.env) h2
              exact PE.weak (pe_callTy b2 hg (ok.g.bl f h5.1) b1 pa (okName_3 h1) (okName_1 h1) z1 (star_any z2)) fun σ H Q h => fin z h
          · refine none_of fun ρ => ?_
            unfold callD
            rw [if_pos h0, q, q2]
            simp only
            rw [if_neg h5]
  · refine PE.weak PE.any fun σ H Q h => te_none (f := callD r G f es) (fun ρ => ?_) h
    unfold callD
    rw [if_neg h0]
end
end Pu

set_option Elab.async false
set_option linter.all false
set_option maxRecDepth 100000
/-! Pu9: what is walked, targets, comprehensions, methods. -/
namespace Pu
open PySem L2

/-- an iterator that gives plain things -/
structure Itm (W : Wd) (J : It) (m0 : Mem) (ds : List D) : Prop where
  go : ∀ (i : Nat) (m : Mem), Up m0 m → Okm W m → i < ds.length → J.go i m.H
  stop : ∀ m : Mem, Up m0 m → Okm W m → J.stop ds.length m.H
  yld : ∀ (i : Nat) (m : Mem) (x : V) (H' : Hp), Up m0 m → Okm W m → i < ds.length → J.yld i m.H x H' → ∃ m' d, m'.H = H' ∧ Step m m' ∧ Okm W m' ∧ m'.μ = m.μ ∧ m'.as = m.as ∧ ds[i]? = some d ∧ Den W m' d x
def TIof (W : Wd) (Z : WX) (f : Sl → M (List D)) : TI := fun σ H R => ∃ ρ m, m.H = H ∧ Okm W m ∧ EnvOk W m ρ σ ∧ wpR W m (EWish W Z σ) (fun ds m' => ∀ J, Itm W J m' ds → R J m'.H) (f ρ m.μ)
theorem PI.weak {X : Cx} {tg e : Expr} {t t' : TI} (h : PI X tg e t) (w : ∀ σ H R, t' σ H R → t σ H R) : PI X tg e t' := ⟨fun pins s σ H R I q => h.run pins s σ H R I (w σ H R q)⟩
theorem PI.or {X : Cx} {tg e : Expr} {t t' : TI} (h : PI X tg e t) (h' : PI X tg e t') : PI X tg e (fun σ H R => t σ H R ∨ t' σ H R) := ⟨fun pins s σ H R I q => by
  rcases q with q | q
  · exact h.run pins s σ H R I q
  · exact h'.run pins s σ H R I q⟩
theorem PI.any {X : Cx} {tg e : Expr} : PI X tg e (fun _ _ _ => False) := ⟨fun _ _ _ _ _ _ q => q.elim⟩
theorem Up.refl (m : Mem) : Up m m := (Step.refl m).up
theorem Up.trans {m n k : Mem} (a : Up m n) (b : Up n k) : Up m k := ⟨fun i x h => b.as i x (a.as i x h), fun x o h l => b.keep x o (a.keep x o h l).1 (a.keep x o h l).2⟩

section
variable {W : Wd} {Z : WX} {X : Cx} {G : Ctx} {σ : St} {H : Hp} {Q : VK} {r : Dn}
theorem itm_range {m : Mem} {lo : Int} {n : Nat} : Itm W (Itr lo n) m (rangeL lo n) := by
  have hl : (rangeL lo n).length = n := by simp [rangeL]
  refine ⟨fun i m _ _ h => by rw [hl] at h; exact h, fun m _ _ => by rw [hl]; exact Nat.le_refl _, fun i m x H' _ g h y => ?_⟩
  obtain ⟨rfl, rfl⟩ := y
  rw [hl] at h
  exact ⟨m, .int (lo + i), rfl, Step.refl m, g, rfl, rfl, by simp [rangeL, h], .int _⟩
theorem itm_str {m : Mem} {z : Str} : Itm W (Its z) m (signsL z) := by
  have hl : (signsL z).length = z.cps.size := by simp [signsL]
  refine ⟨fun i m _ _ h => by rw [hl] at h; exact h, fun m _ _ => by rw [hl]; exact Nat.le_refl _, fun i m x H' _ g h y => ?_⟩
  obtain ⟨rfl, c, h1, rfl⟩ := y
  refine ⟨m, .str ⟨#[c]⟩, rfl, Step.refl m, g, rfl, rfl, ?_, .str _⟩
  simp only [signsL, List.getElem?_map, Array.getElem?_toList, h1, Option.map_some]
theorem itm_list {m : Mem} {a : Addr} {ds : List D} {vs : List V} (h : PurL W m a vs) (l : DenL W m ds vs) : Itm W (Itl W.K a) m ds := by
  have sq : ∀ n, Up m n → SqL W.K n.H a vs := fun n u => (h.up u).sq
  refine ⟨fun i n u _ hi => ?_, fun n u _ => ⟨vs, sq n u, by rw [l.length]; exact Nat.le_refl _⟩, fun i n x H' u g hi y => ?_⟩
  · rw [l.length] at hi
    exact ⟨vs, vs[i], sq n u, by simp [hi]⟩
  · obtain ⟨rfl, y⟩ := y
    obtain ⟨d, h1, h2⟩ := (l.up u).getV (y vs (sq n u))
    exact ⟨n, d, rfl, Step.refl n, g, rfl, rfl, h1, h2⟩
theorem itm_tup {m : Mem} {a : Addr} {ds : List D} {vs : List V} (h : PurT W m a vs) (l : DenL W m ds vs) : Itm W (Itt W.K a) m ds := by
  have sq : ∀ n, Up m n → SqT W.K n.H a vs := fun n u => (h.up u).sq
  refine ⟨fun i n u _ hi => ?_, fun n u _ => ⟨vs, sq n u, by rw [l.length]; exact Nat.le_refl _⟩, fun i n x H' u g hi y => ?_⟩
  · rw [l.length] at hi
    exact ⟨vs, vs[i], sq n u, by simp [hi]⟩
  · obtain ⟨rfl, y⟩ := y
    obtain ⟨d, h1, h2⟩ := (l.up u).getV (y vs (sq n u))
    exact ⟨n, d, rfl, Step.refl n, g, rfl, rfl, h1, h2⟩
theorem pi_other (R : EnOk W r) (ok : EOk W X Z G) (tg e : Expr) : PI X tg e (TIof W Z fun ρ => do let d ← r.e G e ρ; itemsD d) := by
  have pe := R.e ok e
  refine PI.weak (PI.or (pi_list (tg := tg) pe) (PI.or (pi_tup (tg := tg) pe) (pi_str (tg := tg) pe))) fun σ H Rr h => ?_
  obtain ⟨ρ, m, e1, g, rr, w⟩ := h
  have w' := wpR_bind w
  rw [ok.K]
  have lift : ∀ {P : V → Hp → Prop}, wpR W m (EWish W Z σ) (fun d m' => ∀ v, Den W m' d v → P v m'.H) (r.e G e ρ m.μ) → TEof W Z (r.e G e) σ H P := fun z => ⟨ρ, m, e1, g, rr, z⟩
  cases q : r.e G e ρ m.μ with
  | stuck => rw [q] at w'; exact w'.elim
  | exc x μ' =>
    rw [q] at w'
    exact .inl (lift (by rw [q]; exact w'))
  | ok d μ' =>
    rw [q] at w'
    cases d with
    | str z =>
      refine .inr (.inr (lift ?_))
      rw [q]
      intro m1 s1 g1 e2 v hv
      cases den_str hv
      exact ⟨z, rfl, w' m1 s1 g1 e2 m1 (Step.refl m1) g1 rfl _ itm_str⟩
    | tup ds =>
      refine .inr (.inl (lift ?_))
      rw [q]
      intro m1 s1 g1 e2 v hv
      cases hv with
      | tup h1 l1 => exact ⟨_, rfl, ⟨_, h1.sq⟩, w' m1 s1 g1 e2 m1 (Step.refl m1) g1 rfl _ (itm_tup h1 l1)⟩
    | lst ds =>
      refine .inl (lift ?_)
      rw [q]
      intro m1 s1 g1 e2 v hv
      cases hv with
      | lst h1 n1 l1 => exact ⟨_, rfl, ⟨_, .inl (.inl h1)⟩, w' m1 s1 g1 e2 m1 (Step.refl m1) g1 rfl _ (itm_list (.inl ⟨.inl h1, n1⟩) l1)⟩
    | frz ds =>
      refine .inl (lift ?_)
      rw [q]
      intro m1 s1 g1 e2 v hv
      cases hv with
      | frz h1 l1 => exact ⟨_, rfl, ⟨_, h1.sq⟩, w' m1 s1 g1 e2 m1 (Step.refl m1) g1 rfl _ (itm_list h1 l1)⟩
    | cell i => exact .inl (lift (by rw [q]; exact fun m1 s1 g1 e2 => (w' m1 s1 g1 e2 : False).elim))
    | non => exact .inl (lift (by rw [q]; exact fun m1 s1 g1 e2 => (w' m1 s1 g1 e2 : False).elim))
    | bl _ => exact .inl (lift (by rw [q]; exact fun m1 s1 g1 e2 => (w' m1 s1 g1 e2 : False).elim))
    | int _ => exact .inl (lift (by rw [q]; exact fun m1 s1 g1 e2 => (w' m1 s1 g1 e2 : False).elim))
    | dic _ => exact .inl (lift (by rw [q]; exact fun m1 s1 g1 e2 => (w' m1 s1 g1 e2 : False).elim))
    | obj _ _ => exact .inl (lift (by rw [q]; exact fun m1 s1 g1 e2 => (w' m1 s1 g1 e2 : False).elim))
    | ty _ => exact .inl (lift (by rw [q]; exact fun m1 s1 g1 e2 => (w' m1 s1 g1 e2 : False).elim))
    | adr _ => exact .inl (lift (by rw [q]; exact fun m1 s1 g1 e2 => (w' m1 s1 g1 e2 : False).elim))
theorem ti_none {f : Sl → M (List D)} (e : ∀ ρ, f ρ = stuck) : ∀ {σ H R}, TIof W Z f σ H R → False := fun ⟨ρ, m, _, _, _, w⟩ => by rw [e] at w; exact w
/-- range(a) -/
theorem pi_rng1 (R : EnOk W r) (ok : EOk W X Z G) (tg a : Expr) (p pos : Pos) (h1 : glB G.sc "range" = true) (h2 : G.isB "range" = true) (h3 : noStar [a] = true) : PI X tg (.Call (.Name "range" p) [a] [] pos)
    (TIof W Z fun ρ => do let d ← r.e G a ρ; fun μ => match d with
        | .int j => if -(2 ^ 62) ≤ j ∧ j < 2 ^ 62 then .ok (rangeL 0 j.toNat) μ else .stuck
        | _ => .stuck) := by
  obtain ⟨z1, z2⟩ := star_cons (env := X.env) h3
  refine PI.weak (pi_range1 (tg := tg) (gl_of ok h1) (ok.g.bl _ h2) (pa_cons (R.e ok a) pa_nil z1) z1) fun σ H Rr h => ?_
  obtain ⟨ρ, m, e1, g, rr, w⟩ := h
  refine ⟨ρ, m, e1, g, rr, (wpR_bind w).mono (fun _ _ _ _ z => z) fun d m1 s1 g1 w1 v hv => ?_⟩
  cases d with
  | int j =>
    cases den_int hv
    have w2 : wpR W m1 (EWish W Z σ) (fun ds m' => ∀ J, Itm W J m' ds → Rr J m'.H) (if -(2 ^ 62) ≤ j ∧ j < 2 ^ 62 then .ok (rangeL 0 j.toNat) m1.μ else .stuck) := w1
    split at w2
    · rename_i hz
      exact ⟨j, rfl, hz.1, hz.2, w2 m1 (Step.refl m1) g1 rfl _ itm_range⟩
    · exact w2.elim
  | _ => exact (show False from w1).elim
theorem pi_rng2 (R : EnOk W r) (ok : EOk W X Z G) (tg a b : Expr) (p pos : Pos) (h1 : glB G.sc "range" = true) (h2 : G.isB "range" = true) (h3 : noStar [a, b] = true) : PI X tg (.Call (.Name "range" p) [a, b] [] pos)
    (TIof W Z fun ρ => do let d ← r.e G a ρ; let e ← r.e G b ρ; fun μ => match d, e with
        | .int i, .int j => if -(2 ^ 62) ≤ i ∧ i < 2 ^ 62 ∧ -(2 ^ 62) ≤ j ∧ j < 2 ^ 62 then .ok (rangeL i (j - i).toNat) μ else .stuck
        | _, _ => .stuck) := by
  obtain ⟨z1, z2⟩ := star_cons (env := X.env) h3
  obtain ⟨z3, z4⟩ := star_cons (env := X.env) z2
  refine PI.weak (pi_range2 (tg := tg) (gl_of ok h1) (ok.g.bl _ h2) (pa_cons (R.e ok a) (pa_cons (R.e ok b) pa_nil z3) z1) (by rw [z1, z3]; rfl) z3) fun σ H Rr h => ?_
  obtain ⟨ρ, m, e1, g, rr, w⟩ := h
  refine ⟨ρ, m, e1, g, rr, (wpR_bind w).mono (fun _ _ _ _ z => z) fun d m1 s1 g1 w1 v hv => ?_⟩
  refine ⟨ρ, m1, rfl, g1, rr.mono s1, (wpR_bind w1).mono (fun _ _ _ _ z => z) fun e m2 s2 g2 w2 u hu => ?_⟩
  cases d with
  | int i =>
    cases e with
    | int j =>
      cases den_int hv
      cases den_int hu
      have w3 : wpR W m2 (EWish W Z σ) (fun ds m' => ∀ J, Itm W J m' ds → Rr J m'.H) (if -(2 ^ 62) ≤ i ∧ i < 2 ^ 62 ∧ -(2 ^ 62) ≤ j ∧ j < 2 ^ 62 then .ok (rangeL i (j - i).toNat) m2.μ else .stuck) := w2
      split at w3
      · rename_i hz
        exact ⟨i, j, rfl, hz, w3 m2 (Step.refl m2) g2 rfl _ itm_range⟩
      · exact w3.elim
    | _ => exact (show False from w2).elim
  | _ => exact (show False from w2).elim

/-! ### targets -/
def Agree (js : List Nat) (σ σ' : St) : Prop := σ'.length = σ.length ∧ ∀ i : Nat, i ∉ js → σ'[i]? = σ[i]?
theorem Agree.refl (js : List Nat) (σ : St) : Agree js σ σ := ⟨rfl, fun _ _ => rfl⟩
theorem Agree.set {js : List Nat} {σ σ' : St} (h : Agree js σ σ') {i : Nat} (hi : i ∈ js) (v : Option V) : Agree js σ (σ'.set i v) :=
  ⟨by rw [List.length_set]; exact h.1, fun j hj => by
    have ne : i ≠ j := fun e => hj (by rw [← e]; exact hi)
    rw [List.getElem?_set_ne ne]; exact h.2 j hj⟩
theorem wipe_get {σ : St} : ∀ {vs : List Nat} {i : Nat}, (L2.wipe σ vs)[i]? = if i ∈ vs then (if i < σ.length then some none else none) else σ[i]?
  | [], i => by simp [L2.wipe]
  | v :: vs, i => by
    unfold L2.wipe
    by_cases h : v = i
    · subst h
      rw [if_pos List.mem_cons_self]
      by_cases hl : v < σ.length
      · rw [if_pos hl, List.getElem?_set_self (by rw [wipe_length]; exact hl)]
      · rw [if_neg hl]
        exact List.getElem?_eq_none (by rw [List.length_set, wipe_length]; omega)
    · rw [List.getElem?_set_ne h, wipe_get]
      have e : (i ∈ v :: vs) ↔ i ∈ vs := by simp [Ne.symm h]
      simp only [e]
theorem Agree.wipe {js vs : List Nat} {σ σ' : St} (h : Agree js σ σ') (hs : ∀ i ∈ js, i ∈ vs) : L2.wipe σ' vs = L2.wipe σ vs := by
  apply List.ext_getElem?
  intro i
  rw [wipe_get, wipe_get, h.1]
  split
  · rfl
  · rename_i hi
    exact h.2 i fun z => hi (hs i z)
theorem wipe_idem {σ : St} {vs : List Nat} : L2.wipe (L2.wipe σ vs) vs = L2.wipe σ vs := by
  apply List.ext_getElem?
  intro i
  rw [wipe_get, wipe_get, wipe_length]
  split <;> rfl
/-- a target that stores names alone -/
def TGp (W : Wd) (js : List Nat) (f : D → Sl → Option Sl) : TG := fun v σ H Q => ∃ ρ m d ρ', m.H = H ∧ Okm W m ∧ EnvOk W m ρ σ ∧ Den W m d v ∧ f d ρ = some ρ' ∧ ∀ σ', EnvOk W m ρ' σ' → Agree js σ σ' → Q σ' H
theorem PG.weak {X : Cx} {e : Expr} {t t' : TG} (h : PG X e t) (w : ∀ v σ H Q, t' v σ H Q → t v σ H Q) : PG X e t' := ⟨fun pins s σ H v u Q I rv q => h.run pins s σ H v u Q I rv (w v σ H Q q)⟩
theorem PG.any {X : Cx} {e : Expr} : PG X e (fun _ _ _ _ => False) := ⟨fun _ _ _ _ _ _ _ _ _ q => q.elim⟩
theorem PGs.weak {X : Cx} {e : List Expr} {t t' : TGs} (h : PGs X e t) (w : ∀ v σ H Q, t' v σ H Q → t v σ H Q) : PGs X e t' := ⟨fun pins s σ H v u Q I rv q => h.run pins s σ H v u Q I rv (w v σ H Q q)⟩
theorem PGs.any {X : Cx} {e : List Expr} : PGs X e (fun _ _ _ _ => False) := ⟨fun _ _ _ _ _ _ _ _ _ q => q.elim⟩
theorem gN_ix {x : Str} {d : D} {ρ ρ' : Sl} (h : gN G x d ρ = some ρ') : ∃ i, G.ix x = some i ∧ G.N.idxOf x = i ∧ (G.sc.names.lookup x = some .local ∨ (G.sc.names.lookup x = some .cell ∧ G.own x = true)) ∧ ρ' = ρ.set i (some d) := by
  unfold gN at h
  cases q : G.ix x with
  | none => rw [q] at h; cases h
  | some i =>
    rw [q] at h
    simp only at h
    split at h
    · rename_i hz
      cases h
      refine ⟨i, rfl, ?_, hz, rfl⟩
      unfold Ctx.ix at q
      split at q
      · exact Option.some.inj q
      · cases q
    · cases h
theorem pg_gN (ok : EOk W X Z G) (x : Str) (pos : Pos) : PG X (.Name x pos) (TGp W [G.N.idxOf x] (gN G x)) := by
  by_cases hz : ∃ i, G.ix x = some i ∧ (G.sc.names.lookup x = some .local ∨ (G.sc.names.lookup x = some .cell ∧ G.own x = true))
  · obtain ⟨i, h1, h2⟩ := hz
    rw [← ok.sc] at h2
    have h2' : Loc X.env.scope x := h2.elim .inl fun z => .inr z.1
    refine PG.weak (pg_name (i := i) ok.nd (by rw [ok.N]; exact Ctx.ix_at h1) h2' ?_) fun v σ H Q h => ?_
    · rcases h2 with z | z
      · exact .inr z
      · exact .inl (by rw [ok.own]; exact z.2)
    · obtain ⟨ρ, m, d, ρ', e, g, rr, hd, hf, q⟩ := h
      obtain ⟨j, e1, e2, _, e4⟩ := gN_ix hf
      rw [h1] at e1; cases e1
      subst e4
      exact q _ (rr.set i hd) ((Agree.refl _ σ).set (by rw [e2]; exact List.mem_singleton.mpr rfl) _)
  · refine PG.weak PG.any fun v σ H Q h => ?_
    obtain ⟨ρ, m, d, ρ', e, g, rr, hd, hf, q⟩ := h
    obtain ⟨j, e1, e2, e3, e4⟩ := gN_ix hf
    exact hz ⟨j, e1, e3⟩
def TGsp (W : Wd) (js : List Nat) (f : List D → Sl → Option Sl) : TGs := fun vs σ H Q => ∃ ρ m ds ρ', m.H = H ∧ Okm W m ∧ EnvOk W m ρ σ ∧ DenL W m ds vs ∧ f ds ρ = some ρ' ∧ ∀ σ', EnvOk W m ρ' σ' → Agree js σ σ' → Q σ' H
theorem pgs_gNs (ok : EOk W X Z G) (js : List Nat) : ∀ es : List Expr, (∀ e ∈ es, nslot G e ∈ js) → PGs X es (TGsp W js (gNs G es))
  | [], _ => PGs.weak pgs_nil fun vs σ H Q h => by
    obtain ⟨ρ, m, ds, ρ', e, g, rr, hd, hf, q⟩ := h
    cases hd with
    | nil =>
      cases (show some ρ = some ρ' from hf)
      exact ⟨rfl, q σ rr (Agree.refl _ σ)⟩
    | cons _ _ => cases (show (none : Option Sl) = some ρ' from hf)
  | .Name x p :: es, hj => by
    have ih := pgs_gNs ok js es fun e he => hj e (List.mem_cons_of_mem _ he)
    have hx : G.N.idxOf x ∈ js := hj _ List.mem_cons_self
    refine PGs.weak (pgs_cons (pg_gN ok x p) ih) fun vs σ H Q h => ?_
    obtain ⟨ρ, m, ds, ρ', e, g, rr, hd, hf, q⟩ := h
    cases hd with
    | nil => cases (show (none : Option Sl) = some ρ' from hf)
    | @cons d v ds vs hd hds =>
      have hf' : (gN G x d ρ).bind (fun ρ' => gNs G es ds ρ') = some ρ' := hf
      cases q1 : gN G x d ρ with
      | none => rw [q1] at hf'; cases hf'
      | some ρ1 =>
        rw [q1] at hf'
        refine ⟨v, vs, rfl, ρ, m, d, ρ1, e, g, rr, hd, q1, fun σ1 r1 a1 => ?_⟩
        refine ⟨ρ1, m, ds, ρ', e, g, r1, hds, hf', fun σ2 r2 a2 => q σ2 r2 ⟨a2.1.trans a1.1, fun i hi => (a2.2 i hi).trans (a1.2 i fun z => hi ?_)⟩⟩
        have : i = G.N.idxOf x := by simpa using z
        rw [this]; exact hx
  | .BoolOp .. :: es, hj | .NamedExpr .. :: es, hj | .BinOp .. :: es, hj | .UnaryOp .. :: es, hj | .Lambda .. :: es, hj | .IfExp .. :: es, hj | .Dict .. :: es, hj | .Set .. :: es, hj | .ListComp .. :: es, hj | .SetComp .. :: es, hj | .DictComp .. :: es, hj | .GeneratorExp .. :: es, hj | .Await .. :: es, hj | .Yield .. :: es, hj | .YieldFrom .. :: es, hj | .Compare .. :: es, hj | .Call .. :: es, hj | .FormattedValue .. :: es, hj | .JoinedStr .. :: es, hj | .Constant .. :: es, hj | .Attribute .. :: es, hj | .Subscript .. :: es, hj | .Starred .. :: es, hj | .List .. :: es, hj | .Tuple .. :: es, hj | .Slice .. :: es, hj =>
    PGs.weak PGs.any fun vs σ H Q h => by
      obtain ⟨ρ, m, ds, ρ', e, g, rr, hd, hf, q⟩ := h
      cases hd <;> cases (show (none : Option Sl) = some ρ' from hf)
theorem gNs_names : ∀ {es : List Expr} {ds : List D} {ρ ρ' : Sl} (env : Env), gNs G es ds ρ = some ρ' → (assignEach es env).length = ds.length ∧ (assignEach es env).findIdx? (·.1) = none
  | [], [], _, _, _, _ => ⟨rfl, rfl⟩
  | [], _ :: _, _, _, _, h => by cases h
  | .Name x p :: es, [], _, _, _, h => by cases h
  | .Name x p :: es, d :: ds, ρ, ρ', env, h => by
    have h' : (gN G x d ρ).bind (fun ρ1 => gNs G es ds ρ1) = some ρ' := h
    cases q : gN G x d ρ with
    | none => rw [q] at h'; cases h'
    | some ρ1 =>
      rw [q] at h'
      obtain ⟨h1, h2⟩ := gNs_names env (show gNs G es ds ρ1 = some ρ' from h')
      refine ⟨congrArg (· + 1) h1, ?_⟩
      show List.findIdx? (·.1) ((false, assign (.Name x p) env) :: assignEach es env) = none
      rw [List.findIdx?_cons, h2]
      rfl
  | .BoolOp .. :: _, _, _, _, _, h | .NamedExpr .. :: _, _, _, _, _, h | .BinOp .. :: _, _, _, _, _, h | .UnaryOp .. :: _, _, _, _, _, h | .Lambda .. :: _, _, _, _, _, h | .IfExp .. :: _, _, _, _, _, h | .Dict .. :: _, _, _, _, _, h | .Set .. :: _, _, _, _, _, h | .ListComp .. :: _, _, _, _, _, h | .SetComp .. :: _, _, _, _, _, h | .DictComp .. :: _, _, _, _, _, h | .GeneratorExp .. :: _, _, _, _, _, h | .Await .. :: _, _, _, _, _, h | .Yield .. :: _, _, _, _, _, h | .YieldFrom .. :: _, _, _, _, _, h | .Compare .. :: _, _, _, _, _, h | .Call .. :: _, _, _, _, _, h | .FormattedValue .. :: _, _, _, _, _, h | .JoinedStr .. :: _, _, _, _, _, h | .Constant .. :: _, _, _, _, _, h | .Attribute .. :: _, _, _, _, _, h | .Subscript .. :: _, _, _, _, _, h | .Starred .. :: _, _, _, _, _, h | .List .. :: _, _, _, _, _, h | .Tuple .. :: _, _, _, _, _, h | .Slice .. :: _, _, _, _, _, h => by
    rename_i ds ρ ρ' env
    cases ds <;> cases (show (none : Option Sl) = some ρ' from h)
theorem pg_gD (ok : EOk W X Z G) (hc : X.calm = true) (tg : Expr) : PG X tg (TGp W (gslots G tg) (gD G tg)) := by
  have none_of : (∀ d ρ, gD G tg d ρ = none) → PG X tg (TGp W (gslots G tg) (gD G tg)) := fun z => PG.weak PG.any fun v σ H Q h => by
    obtain ⟨ρ, m, d, ρ', e, g, rr, hd, hf, q⟩ := h
    rw [z] at hf; cases hf
  cases tg with
  | Name x p => exact pg_gN ok x p
  | Tuple es k p =>
    by_cases hz : ∃ (ds : List D) (ρ ρ' : Sl), gNs G es ds ρ = some ρ'
    · obtain ⟨ds0, ρ0, ρ0', hz⟩ := hz
      obtain ⟨n1, n2⟩ := gNs_names X.env hz
      refine PG.weak (pg_tup (n := (assignEach es X.env).length) hc (pgs_gNs ok (es.map (nslot G)) es fun e he => List.mem_map.mpr ⟨e, he, rfl⟩) rfl n2) fun v σ H Q h => ?_
      obtain ⟨ρ, m, d, ρ', e, g, rr, hd, hf, q⟩ := h
      cases d with
      | tup ds =>
        cases hd with
        | tup h1 l1 =>
          obtain ⟨n3, _⟩ := gNs_names X.env (show gNs G es ds ρ = some ρ' from hf)
          subst e
          exact ⟨_, _, rfl, by rw [ok.K]; exact h1.sq, by rw [n3]; exact l1.lenEq, ρ, m, ds, ρ', rfl, g, rr, l1, hf, q⟩
      | _ => cases (show (none : Option Sl) = some ρ' from hf)
    · refine none_of fun d ρ => ?_
      cases d with
      | tup ds =>
        cases q : gNs G es ds ρ with
        | none => exact q
        | some ρ' => exact absurd ⟨ds, ρ, ρ', q⟩ hz
      | _ => rfl
  | _ => exact none_of fun _ _ => rfl

/-! ### comprehensions -/
theorem blk_ok (ok : EOk W X Z G) {sc : Scope} (s : Shared) (H : Hp) (C : Addr) (cl : List (Str × Addr)) (fp : List Addr) : EOk W (X.blk s H sc (PySem.compEnvC sc cl C X.env) fp) (fun _ _ _ _ => False) (blkG G sc) := by
  refine ⟨ok.K, ok.N, ok.nd, ?_, rfl, takes0, ok.calm, ok.room, ok.un, ok.gd, ⟨ok.g.glob, ok.g.bl, ok.g.fn, ok.g.xc, ok.g.cat⟩⟩
  show (PySem.compEnvC sc cl C X.env).scope = relS sc G.sc
  rw [← ok.sc]
  rfl
theorem pts_D (R : EnOk W r) (ok : EOk W X Z G) : ∀ ifs : List Expr, PTs X ifs (TTof W Z (testsD r G ifs))
  | [] => ⟨fun pins s σ H Q I h => pts_nil.run pins s σ H Q I (let ⟨ρ, m, e, g, rr, w⟩ := h; e ▸ w m (Step.refl m) g rfl)⟩
  | [c] => pts_one (R.t ok c)
  | _ :: _ :: _ => ⟨fun _ _ _ _ _ _ h => (show False from let ⟨_, _, _, _, _, w⟩ := h; w).elim⟩
/-- what one turn promises -/
theorem noX_wp {α : Type} {m : Mem} {E : Ex → Mem → Prop} {P : α → Mem → Prop} {x : R α} {y : R α} (hy : y = (match x with | .exc _ _ => .stuck | r => r)) (w : wpR W m E P y) : wpR W m (fun _ _ => False) P x := by
  subst hy
  cases x with
  | ok a μ => exact w
  | exc e μ => exact w.elim
  | stuck => exact w.elim
/-- the list is made -/
theorem fix_out {m m2 : Mem} {ds : List D} {vs : List V} {n : Nat} {E : Ex → Mem → Prop} {L : Addr} (g : Okm W m) (hL : m.H L = none) (g2 : Okm W m2) (k : Mk m m2 L) (h2 : m2.H L = some (.lst vs)) (l : DenL W m2 ds vs) (w : out W m E Q (fixL n ds m2.μ)) : Q (.ref L) m2.H := by
  unfold fixL at w
  split at w
  · obtain ⟨st, ok⟩ := k.fix g hL g2 h2 l
    have hd : Den W (m2.fix L m.pv ds) (.cell m2.μ.length) (.ref L) := .cell (by
      show (m2.as ++ [L])[m2.μ.length]? = some L
      rw [← g2.len]
      simp)
    exact w (m2.fix L m.pv ds) st ok rfl _ hd
  · obtain ⟨n1, n2⟩ := k.new g hL g2
    refine w (m2.cls m.pv) k.cls (okm_cls g2 k.pv) rfl _ (.lst h2 (fun z => ?_) (l.up (up_cls k.pv)))
    rcases z with ⟨i, o, e, _⟩ | z
    · exact n1 (List.mem_of_getElem? e)
    · exact n2 z
/-- what the rest of a comprehension promises -/
def CRest (W : Wd) (m1 : Mem) (L : Addr) (Q : VK) (n : Nat) (x : R (List D)) : Prop := match x with
  | .ok ys μ' => out W m1 (fun _ _ => True) Q (fixL n ys μ')
  | _ => False
theorem iD_gen (R : EnOk W r) (ok : EOk W X Z G) (tg iter : Expr) : PI X tg iter (TIof W Z (iD r G tg iter)) → PI X tg iter (TIof W Z (iD r G tg iter)) := id
def CompIf (G : Ctx) (tg iter : Expr) (sc : Scope) : Prop := G.hot = false ∧ blkC G.N G.sc sc (ownOf G.N sc) = true ∧ (∀ i ∈ gslots G tg, i ∈ (ownOf G.N sc).map (·.2)) ∧ notSet iter = true
theorem comp_read {elt tg iter : Expr} {ifs : List Expr} {sc : Scope} {pos : Pos} (h0 : CompIf G tg iter sc) (h : TEof W Z (compD r G elt tg iter ifs sc pos) σ H Q) :
    tLc (TIof W Z (iD r G tg iter)) (TGp W (gslots (blkG G sc) tg) (gD (blkG G sc) tg)) (TTof W (fun _ _ _ _ => False) (testsD r (blkG G sc) ifs)) (TEof W (fun _ _ _ _ => False) (r.e (blkG G sc) elt)) ((ownOf G.N sc).map (·.2)) σ H Q := by
  have h3 := h0.2.2.1
  obtain ⟨ρ, m, e, g, rr, w⟩ := h
  unfold compD at w
  rw [if_pos (show _ ∧ _ ∧ _ ∧ _ from h0)] at w
  refine ⟨ρ, m, e, g, rr, (wpR_bind w).mono (fun _ _ _ _ z => z) fun ds m1 s1 g1 w1 J itm L hL => ?_⟩
  have r1 := rr.mono s1
  generalize hvs : (ownOf G.N sc).map (·.2) = vs at *
  generalize hf : turnD r (blkG G sc) elt tg ifs (wipeL ρ vs) = f at w1
  -- the whole run from m1 on
  have whole : CRest W m1 L Q (G.hint pos) (compL f ds [] m1.μ) := by
    have w2 := wpR_bind w1
    cases q : compL f ds [] m1.μ with
    | ok ys μ' =>
      have w3 : wpR W m1 (EWish W Z σ) (fun d m' => ∀ v, Den W m' d v → Q v m'.H) (fixL (G.hint pos) ys μ') := by
        have w4 : wpR W m1 (EWish W Z σ) (fun d m' => ∀ v, Den W m' d v → Q v m'.H) (M.bind (noX (compL f ds [])) (fun ys => fixL (G.hint pos) ys) m1.μ) := w1
        unfold M.bind noX at w4
        rw [q] at w4
        exact w4
      exact w3.mono (fun _ _ _ _ _ => trivial) fun _ _ _ _ z => z
    | exc x μ' =>
      have w4 : wpR W m1 (EWish W Z σ) (fun d m' => ∀ v, Den W m' d v → Q v m'.H) (M.bind (noX (compL f ds [])) (fun ys => fixL (G.hint pos) ys) m1.μ) := w1
      unfold M.bind noX at w4
      rw [q] at w4
      exact w4
    | stuck =>
      have w4 : wpR W m1 (EWish W Z σ) (fun d m' => ∀ v, Den W m' d v → Q v m'.H) (M.bind (noX (compL f ds [])) (fun ys => fixL (G.hint pos) ys) m1.μ) := w1
      unfold M.bind noX at w4
      rw [q] at w4
      exact w4
  let Iv : Nat → Hp → Prop := fun i H' => ∃ mm acc vacc, mm.H = H' ∧ Okm W mm ∧ Mk m1 mm L ∧ mm.H L = some (.lst vacc) ∧ DenL W mm acc vacc ∧ CRest W m1 L Q (G.hint pos) (compL f (ds.drop i) acc mm.μ)
  refine ⟨fun i k H' => k = ds.length - i ∧ i ≤ ds.length ∧ Iv i H', ⟨ds.length, by simp, Nat.zero_le _, m1.opn L [], [], [], rfl, okm_opn g1 hL, Mk.opn g1 hL, upd_same, .nil, whole⟩, ?_⟩
  rintro i k H' ⟨rfl, hi, mm, acc, vacc, rfl, gm, km, hm, lm, cm⟩
  by_cases hlt : i < ds.length
  · refine .inr ⟨itm.go i mm km.up gm hlt, Iv (i + 1), fun H2 z => ⟨ds.length - (i + 1), by omega, rfl, hlt, z⟩, fun x H2 y => ?_⟩
    obtain ⟨m2, d, rfl, s2, g2, e2, _, e3, hd⟩ := itm.yld i mm x H2 km.up gm hlt y
    have hdrop : ds.drop i = d :: ds.drop (i + 1) := by
      obtain ⟨hi', he⟩ := List.getElem?_eq_some_iff.mp e3
      rw [← he]
      exact List.drop_eq_getElem_cons hi'
    rw [hdrop] at cm
    have cm' : CRest W m1 L Q (G.hint pos) (M.bind (f d) (fun y => match y with
      | some z => if acc.length < sizeLine then compL f (ds.drop (i + 1)) (acc ++ [z]) else stuck
      | none => compL f (ds.drop (i + 1)) acc) m2.μ) := by rw [e2]; exact cm
    have r2 : EnvOk W m2 (wipeL ρ vs) (L2.wipe σ vs) := by
      have r3 := r1.wipes vs
      refine ⟨r3.len, fun j d' z => ?_⟩
      obtain ⟨v', z1, z2⟩ := r3.get j d' z
      exact ⟨v', z1, (z2.up km.up).mono s2⟩
    have k2 := km.step s2
    have hL2 : m2.H L = some (.lst vacc) := (s2.pvk L km.mem).trans hm
    have lm2 := lm.mono s2
    cases q1 : gD (blkG G sc) tg d (wipeL ρ vs) with
    | none =>
      have fd : f d = stuck := by
        rw [← hf]
        unfold turnD
        rw [q1]
      rw [fd] at cm'
      exact (show False from cm').elim
    | some ρ1 =>
      have fd : f d = M.bind (testsD r (blkG G sc) ifs ρ1) (fun b => if b then M.bind (r.e (blkG G sc) elt ρ1) (fun y => yes (some y)) else yes none) := by
        rw [← hf]
        unfold turnD
        rw [q1]
        rfl
      rw [fd] at cm'
      have cm2 := cm'
      refine ⟨wipeL ρ vs, m2, d, ρ1, rfl, g2, r2, hd, q1, fun σ2 r3 ag => ⟨(ag.wipe (vs := vs) h3).trans wipe_idem, ?_⟩⟩
      -- the tests
      refine ⟨ρ1, m2, rfl, g2, r3, ?_⟩
      unfold M.bind at cm2
      cases q2 : testsD r (blkG G sc) ifs ρ1 m2.μ with
      | stuck => rw [q2] at cm2; exact (show False from cm2).elim
      | exc x' μ' => rw [q2] at cm2; exact (show False from cm2).elim
      | ok b μ3 =>
        rw [q2] at cm2
        intro m3 s3 g3 e4
        have k3 := k2.step s3
        have hL3 : m3.H L = some (.lst vacc) := (s3.pvk L k2.mem).trans hL2
        have lm3 := lm2.mono s3
        cases b with
        | false =>
          show (if false = true then _ else _)
          rw [if_neg Bool.false_ne_true]
          refine ⟨m3, acc, vacc, rfl, g3, k3, hL3, lm3, ?_⟩
          rw [e4]
          exact cm2
        | true =>
          show (if true = true then _ else _)
          rw [if_pos rfl]
          simp only [↓reduceIte] at cm2
          refine ⟨ρ1, m3, rfl, g3, r3.mono s3, ?_⟩
          rw [e4]
          cases q3 : r.e (blkG G sc) elt ρ1 μ3 with
          | stuck => rw [q3] at cm2; exact (show False from cm2).elim
          | exc x' μ' => rw [q3] at cm2; exact (show False from cm2).elim
          | ok yv μ4 =>
            rw [q3] at cm2
            intro m4 s4 g4 e5 v hv
            have k4 := k3.step s4
            have hL4 : m4.H L = some (.lst vacc) := (s4.pvk L k3.mem).trans hL3
            have lm4 := lm3.mono s4
            have cm3 : CRest W m1 L Q (G.hint pos) ((if acc.length < sizeLine then compL f (ds.drop (i + 1)) (acc ++ [yv]) else stuck) μ4) := cm2
            by_cases hz : acc.length < sizeLine
            · rw [if_pos hz] at cm3
              refine ⟨vacc, hL4, by rw [lm4.lenEq]; exact hz, m4.gro L (vacc ++ [v]), acc ++ [yv], vacc ++ [v], rfl, okm_gro g4 k4.mem, k4.gro g1 hL, upd_same, ?_, ?_⟩
              · exact (lm4.append (.cons hv .nil)).up (up_gro k4.mem)
              · show CRest W m1 L Q (G.hint pos) (compL f (ds.drop (i + 1)) (acc ++ [yv]) m4.μ)
                rw [e5]
                exact cm3
            · rw [if_neg hz] at cm3
              exact (show False from cm3).elim
  · have ei : i = ds.length := by omega
    subst ei
    refine .inl ⟨itm.stop mm km.up gm, ?_⟩
    rw [List.drop_length] at cm
    exact fix_out (E := fun _ _ => True) g1 hL gm km hm lm cm
theorem pe_compD (R : EnOk W r) (hI : ∀ {X : Cx} {Z : WX} {G : Ctx}, EOk W X Z G → ∀ tg iter, PI X tg iter (TIof W Z (iD r G tg iter))) (ok : EOk W X Z G) (elt tg iter : Expr) (ifs : List Expr) (sc : Scope) (pos : Pos) :
    PE X (.ListComp elt [⟨tg, iter, ifs, 0⟩] sc pos) (TEof W Z (compD r G elt tg iter ifs sc pos)) := by
  by_cases h0 : CompIf G tg iter sc
  · obtain ⟨h1, h2, h3, h4⟩ := id h0
    have bo : BlkOk X.N X.env.scope sc (ownOf G.N sc) := by rw [ok.N, ok.sc]; exact blkOk_by h2
    have hs : ∀ x, foldedSetIterable iter X.env x = pure x := by
      intro x
      unfold foldedSetIterable
      cases iter <;> first | rfl | cases h4
    exact PE.weak (pe_lc (own := ownOf G.N sc) (ok.calm h1) ok.nd (hI ok tg iter) bo
      (fun s H C cl fp => pg_gD (blk_ok ok s H C cl fp) (ok.calm h1) tg) (fun s H C cl fp => pts_D R (blk_ok ok s H C cl fp) ifs) (fun s H C cl fp => R.e (blk_ok ok s H C cl fp) elt) hs) fun σ H Q h => comp_read h0 h
  · refine PE.weak PE.any fun σ H Q h => te_none (f := compD r G elt tg iter ifs sc pos) (fun ρ => ?_) h
    unfold compD
    exact if_neg h0
/-- y = [..], stored within the comprehension's frame -/
theorem ps_compD (R : EnOk W r) (hI : ∀ {X : Cx} {Z : WX} {G : Ctx}, EOk W X Z G → ∀ tg iter, PI X tg iter (TIof W Z (iD r G tg iter))) (ok : EOk W X Z G) {i : Nat} {y : Str} {py spos : Pos} {elt tg iter : Expr} {ifs : List Expr} {sc : Scope} {pos : Pos} (hy : X.N[i]? = some y) (hyl : X.env.scope.names.lookup y = some .local)
    (hsw : swapsWith (.ListComp elt [⟨tg, iter, ifs, 0⟩] sc pos) (some (.Name y py)) spos.line X.env = pure true) :
    PS X (.Assign [.Name y py] (.ListComp elt [⟨tg, iter, ifs, 0⟩] sc pos) spos) (tAsg (TEof W Z (compD r G elt tg iter ifs sc pos)) (gName i)) := by
  by_cases h0 : CompIf G tg iter sc
  · obtain ⟨h1, h2, h3, h4⟩ := id h0
    have bo : BlkOk X.N X.env.scope sc (ownOf G.N sc) := by rw [ok.N, ok.sc]; exact blkOk_by h2
    have hs : ∀ x, foldedSetIterable iter X.env x = pure x := by
      intro x
      unfold foldedSetIterable
      cases iter <;> first | rfl | cases h4
    exact PS.weak (ps_setLc (own := ownOf G.N sc) (ok.calm h1) ok.nd hy hyl hsw (hI ok tg iter) bo
      (fun s H C cl fp => pg_gD (blk_ok ok s H C cl fp) (ok.calm h1) tg) (fun s H C cl fp => pts_D R (blk_ok ok s H C cl fp) ifs) (fun s H C cl fp => R.e (blk_ok ok s H C cl fp) elt) hs) fun D σ H h => comp_read h0 h
  · refine PS.weak PS.any fun D σ H h => te_none (f := compD r G elt tg iter ifs sc pos) (fun ρ => ?_) h
    unfold compD
    exact if_neg h0
end
end Pu

set_option Elab.async false
set_option linter.all false
set_option maxRecDepth 100000
/-! Pu10: zip of two texts; all that is walked. -/
namespace Pu
open PySem L2

/-- two texts, sign by sign, in new pairs -/
def ItzS (x y : Str) : It :=
  ⟨fun i _ => i < min x.cps.size y.cps.size,
    fun i H v H' => ∃ T c d, v = .ref T ∧ H T = none ∧ H' = upd H T (.tup [.str ⟨#[c]⟩, .str ⟨#[d]⟩]) ∧ x.cps[i]? = some c ∧ y.cps[i]? = some d,
    fun i _ => i = min x.cps.size y.cps.size⟩
theorem turn_zipS {P : Program} {w : World} {K : PySem.W.Frag} {elts : List Expr} {kk : Nat} {tpos : Pos} {x y : Str} {t1 t2 : Tok} {N : Nat} :
    Turn P w K (.Tuple elts kk tpos) (ItzS x y) ((N + 4) :: (N + 2) :: (N + 3) :: ([N] ++ [N + 1])) (N + 4)
      (fun i h => IsZip h (N + 4) (N + 2) (N + 3) .none ∧ IsTupOf2 h (N + 2) (.ref N) (.ref (N + 1)) ∧ (∃ a1 a2, IsTupOf2 h (N + 3) a1 a2) ∧ h.IsStrIter N (strIterType x) x t1 i ∧ h.IsStrIter (N + 1) (strIterType y) y t2 i) := by
  have S : ZipSep2 (N + 4) (N + 2) (N + 3) N (N + 1) [N] [N + 1] := zip_sep2 (fp1 := []) (fp2 := []) (fun _ z => nomatch z) (fun _ z => nomatch z)
  have walk : ∀ {A : Around}, A.handled = none → _ := fun {A} (hh : A.handled = none) => WalksT.zipD2 (prog := P) (w := w) (A := A) S (Draws.text (A := A.in1) hh N x t1) (Draws.text (A := A.in1) hh (N + 1) y t2)
  refine ⟨List.mem_cons_self, fun i h st c hc => ?_, fun i h h' st k => ?_, ?_, ?_, fun A i s Q E st q => wpAny_pyIter_zip st.1 q⟩
  · obtain ⟨hz, hTI, ⟨a1, a2, hTO⟩, ⟨o1, e1, _, d1⟩, ⟨o2, e2, _, d2⟩⟩ := st
    have e' : c = N + 4 ∨ c = N + 2 ∨ c = N + 3 ∨ c = N ∨ c = N + 1 := by simpa using hc
    rcases e' with q | q | q | q | q
    · rw [q]; exact ⟨_, hz, fun v q => nomatch q⟩
    · rw [q]; exact ⟨_, hTI, fun v q => nomatch q⟩
    · rw [q]; exact ⟨_, hTO, fun v q => nomatch q⟩
    · rw [q]; exact ⟨o1, e1, fun v q => by rw [d1] at q; cases q⟩
    · rw [q]; exact ⟨o2, e2, fun v q => by rw [d2] at q; cases q⟩
  · obtain ⟨hz, hTI, ⟨a1, a2, hTO⟩, ⟨o1, e1, r1⟩, ⟨o2, e2, r2⟩⟩ := st
    exact ⟨k _ (by simp) _ hz, k _ (by simp) _ hTI, ⟨a1, a2, k _ (by simp) _ hTO⟩, ⟨o1, k _ (by simp) _ e1, r1⟩, ⟨o2, k _ (by simp) _ e2, r2⟩⟩
  · intro X hP hw hK hc i pins s σ H E I hf st hg
    subst hP hw hK
    have hh : X.A.handled = none := I.ok.hd hc
    have Wk := walk hh
    refine Wk.item i s _ E hg st fun T vals h1 tk hPt hT htup hmid hk => ⟨.ref T, rfl, ?_⟩
    have hap := Wk.apart i T h1 hmid
    refine Wk.go elts kk tpos i T { s with heap := h1, toks := tk } _ E hmid fun h2 st2 hk2 => ?_
    obtain ⟨u1, u2, ⟨c, k1, hc1, rfl⟩, ⟨d, k2, hd1, rfl⟩, rfl⟩ := hPt
    obtain ⟨o, ho, ocls, n, od⟩ := htup
    have ho2 : h2.get? T = some o := hk2 T o hap ho
    have new : ObjOk X.prog X.w (upd H T (.tup [.str ⟨#[c]⟩, .str ⟨#[d]⟩])) h2 T (.tup [.str ⟨#[c]⟩, .str ⟨#[d]⟩]) :=
      ⟨by show 2 ≤ sizeLine; decide, [.str ⟨#[c]⟩ k1, .str ⟨#[d]⟩ k2], .cons ⟨_, rfl⟩ (.cons ⟨_, rfl⟩ .nil), ⟨o, ho2, ocls, n, od⟩⟩
    have sub : ∀ b, b ∈ [N + 4, N + 3, N, N + 1] → b ∈ (N + 4) :: (N + 2) :: (N + 3) :: ([N] ++ [N + 1]) := Wk.sub
    have I1 := I.turnedNew (t' := tk) (ch := (N + 4) :: (N + 2) :: (N + 3) :: ([N] ++ [N + 1])) (fun b ob hb q => hk2 b ob (fun z => hb (sub b z)) (hk b ob (fun z => hb (sub b z)) q)) hf hT new
    refine ⟨.ref T, _, I1, rfl, ⟨T, c, d, rfl, I.hok.fresh hT, rfl, hc1, hd1⟩, st2, fun b hb => ?_⟩
    have hlt : b < s.heap.objs.size := by
      obtain ⟨hz, hTI, ⟨a1, a2, hTO⟩, ⟨o1, e1, _⟩, ⟨o2, e2, _⟩⟩ := st
      have e' : b = N + 4 ∨ b = N + 2 ∨ b = N + 3 ∨ b = N ∨ b = N + 1 := by simpa using hb
      rcases e' with q | q | q | q | q
      · rw [q]; exact Heap.lt_size hz
      · rw [q]; exact Heap.lt_size hTI
      · rw [q]; exact Heap.lt_size hTO
      · rw [q]; exact Heap.lt_size e1
      · rw [q]; exact Heap.lt_size e2
    rw [upd_ne (Nat.ne_of_lt (Nat.lt_of_lt_of_le hlt hT))]
    exact (hf b hb).1
  · intro X hP hw hK hc i pins s σ H E I hf st hg
    subst hP hw hK
    have hh : X.A.handled = none := I.ok.hd hc
    have Wk := walk hh
    have hg' : i = min x.cps.size y.cps.size := hg
    subst hg'
    exact Wk.done s _ E st fun h1 tk hk => ⟨rfl, I.turnedL (t' := tk) (ch := (N + 4) :: (N + 2) :: (N + 3) :: ([N] ++ [N + 1])) (fun b ob hb q => hk b ob (fun z => hb (Wk.sub b z)) q) hf⟩
def iZipS (ta : TA) : TI := fun σ H R => ta σ H fun vs H1 => ∃ x y : Str, vs = [.str x, .str y] ∧ R (ItzS x y) H1
theorem pi_zipS {X : Cx} {e e2 : Expr} {ta : TA} {p pos tpos : Pos} {elts : List Expr} {kk : Nat} (hg : Gl X "zip") (hm : X.mg "zip" = none) (ha : PA X [e, e2] ta)
    (hs : starEach [e, e2] X.env = (false, eval e X.env) :: starEach [e2] X.env) (hpl : (backTo pos (starEach [e2] X.env)).any (·.1) = false) :
    PI X (.Tuple elts kk tpos) (.Call (.Name "zip" p) [e, e2] [] pos) (iZipS ta) := by
  refine ⟨fun pins s σ H R I h => ?_⟩
  refine PyProof.Rows.Call_ (ld_blt I hg hm PyProof.Rows.boot_zip (PyProof.Rows.callWith_type1 (thn (ha.run pos pins s σ H _ I h) fun us s1 ⟨vs, H1, I1, r1, q1⟩ => ?_) hs hpl))
  obtain ⟨x, y, rfl, q⟩ := q1
  obtain ⟨u1, u2, rfl, ⟨t1, rfl⟩, ⟨t2, rfl⟩⟩ := vals2 r1
  refine zip_begins2 (begins_text x t1) (begins_text y t2) trivial trivial fun h1 hz hTI hTO e1 e2 hsz hk => wpAny_pyIter_zip hz ?_
  have I2 : Inv X pins σ H1 { s1 with heap := h1 } := I1.kept (t' := s1.toks) hk
  refine ⟨s1.heap.objs.size + 4, _, _, _, H1, rfl, I2, turn_zipS (N := s1.heap.objs.size) (t1 := t1) (t2 := t2), ⟨hz, hTI, ⟨_, _, hTO⟩, ⟨_, e1, rfl, rfl⟩, ⟨_, e2, rfl, rfl⟩⟩, fun b hb => ?_, q⟩
  have hle : s1.heap.objs.size ≤ b := by
    have e' : b = s1.heap.objs.size + 4 ∨ b = s1.heap.objs.size + 2 ∨ b = s1.heap.objs.size + 3 ∨ b = s1.heap.objs.size ∨ b = s1.heap.objs.size + 1 := by simpa using hb
    rcases e' with z | z | z | z | z
    · rw [z]; exact Nat.le_add_right _ _
    · rw [z]; exact Nat.le_add_right _ _
    · rw [z]; exact Nat.le_add_right _ _
    · rw [z]; exact Nat.le_refl _
    · rw [z]; exact Nat.le_add_right _ _
  exact I1.fpOk hle (I1.hok.fresh hle)
section
variable {W : Wd} {Z : WX} {X : Cx} {G : Ctx} {r : Dn}
theorem zip_get {xs ys : List D} {i : Nat} {x y : D} (h1 : xs[i]? = some x) (h2 : ys[i]? = some y) : (List.zipWith (fun p q => D.tup [p, q]) xs ys)[i]? = some (.tup [x, y]) := by
  rw [List.getElem?_zipWith, h1, h2]
theorem itm_zipS {m : Mem} {x y : Str} : Itm W (ItzS x y) m (List.zipWith (fun p q => .tup [p, q]) (signsL x) (signsL y)) := by
  have hl : (List.zipWith (fun p q => D.tup [p, q]) (signsL x) (signsL y)).length = min x.cps.size y.cps.size := by simp [signsL]
  refine ⟨fun i n _ _ h => by rw [hl] at h; exact h, fun n _ _ => hl, fun i n v H' _ g h z => ?_⟩
  obtain ⟨T, c, d, rfl, hT, rfl, e1, e2⟩ := z
  refine ⟨n.put T (.tup [.str ⟨#[c]⟩, .str ⟨#[d]⟩]), .tup [.str ⟨#[c]⟩, .str ⟨#[d]⟩], rfl, step_put g hT, good_put g hT, rfl, rfl, zip_get ?_ ?_, den_tup g hT (.cons (.str _) (.cons (.str _) .nil))⟩
  · simp only [signsL, List.getElem?_map, Array.getElem?_toList, e1, Option.map_some]
  · simp only [signsL, List.getElem?_map, Array.getElem?_toList, e2, Option.map_some]
theorem itm_zipL {m : Mem} {a b : Addr} {xs ys : List D} {vs ws : List V} (h1 : PurL W m a vs) (l1 : DenL W m xs vs) (h2 : PurL W m b ws) (l2 : DenL W m ys ws) : Itm W (Itz W.K a b) m (List.zipWith (fun p q => .tup [p, q]) xs ys) := by
  have s1 : ∀ n, Up m n → SqL W.K n.H a vs := fun n u => (h1.up u).sq
  have s2 : ∀ n, Up m n → SqL W.K n.H b ws := fun n u => (h2.up u).sq
  have hl : (List.zipWith (fun p q => D.tup [p, q]) xs ys).length = min vs.length ws.length := by simp [l1.length, l2.length]
  refine ⟨fun i n u _ h => ?_, fun n u _ => ⟨vs, ws, s1 n u, s2 n u, by rw [hl]; omega⟩, fun i n v H' u g h z => ?_⟩
  · rw [hl] at h
    have z1 : i < vs.length := by omega
    have z2 : i < ws.length := by omega
    exact ⟨vs, ws, vs[i], ws[i], s1 n u, s2 n u, by simp [z1], by simp [z2]⟩
  · obtain ⟨T, x, y, rfl, hT, rfl, e1, e2⟩ := z
    obtain ⟨dx, f1, f2⟩ := (l1.up u).getV (e1 vs (s1 n u))
    obtain ⟨dy, f3, f4⟩ := (l2.up u).getV (e2 ws (s2 n u))
    exact ⟨n.put T (.tup [x, y]), .tup [dx, dy], rfl, step_put g hT, good_put g hT, rfl, rfl, zip_get f1 f3, den_tup g hT (.cons f2 (.cons f4 .nil))⟩
theorem itm_zipT {m : Mem} {a b : Addr} {xs ys : List D} {vs ws : List V} (h1 : PurT W m a vs) (l1 : DenL W m xs vs) (h2 : PurT W m b ws) (l2 : DenL W m ys ws) : Itm W (RZ.ItzT W.K a b) m (List.zipWith (fun p q => .tup [p, q]) xs ys) := by
  have s1 : ∀ n, Up m n → SqT W.K n.H a vs := fun n u => (h1.up u).sq
  have s2 : ∀ n, Up m n → SqT W.K n.H b ws := fun n u => (h2.up u).sq
  have hl : (List.zipWith (fun p q => D.tup [p, q]) xs ys).length = min vs.length ws.length := by simp [l1.length, l2.length]
  refine ⟨fun i n u _ h => ?_, fun n u _ => ⟨vs, ws, s1 n u, s2 n u, by rw [hl]; omega⟩, fun i n v H' u g h z => ?_⟩
  · rw [hl] at h
    have z1 : i < vs.length := by omega
    have z2 : i < ws.length := by omega
    exact ⟨vs, ws, vs[i], ws[i], s1 n u, s2 n u, by simp [z1], by simp [z2]⟩
  · obtain ⟨T, x, y, rfl, hT, rfl, e1, e2⟩ := z
    obtain ⟨dx, f1, f2⟩ := (l1.up u).getV (e1 vs (s1 n u))
    obtain ⟨dy, f3, f4⟩ := (l2.up u).getV (e2 ws (s2 n u))
    exact ⟨n.put T (.tup [x, y]), .tup [dx, dy], rfl, step_put g hT, good_put g hT, rfl, rfl, zip_get f1 f3, den_tup g hT (.cons f2 (.cons f4 .nil))⟩
theorem pi_zipD (R : EnOk W r) (ok : EOk W X Z G) (elts : List Expr) (kk : Nat) (tpos : Pos) (a b : Expr) (p pos : Pos) (h1 : glB G.sc "zip" = true) (h2 : G.isB "zip" = true) (h3 : noStar [a, b] = true) :
    PI X (.Tuple elts kk tpos) (.Call (.Name "zip" p) [a, b] [] pos) (TIof W Z fun ρ => do let d ← r.e G a ρ; let e ← r.e G b ρ; zipD d e) := by
  obtain ⟨z1, z2⟩ := star_cons (env := X.env) h3
  obtain ⟨z3, z4⟩ := star_cons (env := X.env) z2
  have pa : PA X [a, b] (tCons (TEof W Z (r.e G a)) (tCons (TEof W Z (r.e G b)) tNil)) := pa_cons (R.e ok a) (pa_cons (R.e ok b) pa_nil z3) z1
  refine PI.weak (PI.or (pi_zipS (gl_of ok h1) (ok.g.bl _ h2) pa z1 (star_any z2)) (RZ.pi_zipA (gl_of ok h1) (ok.g.bl _ h2) pa z1 (star_any z2))) fun σ H Rr h => ?_
  obtain ⟨ρ, m, e1, g, rr, w⟩ := h
  rw [ok.K]
  have w1 := wpR_bind w
  -- which of the two: by what the operands are
  have left : ∀ {P : List V → Hp → Prop}, (∀ (d e : D) (m2 : Mem), Okm W m2 → ∀ v u, Den W m2 d v → Den W m2 e u → wpR W m2 (EWish W Z σ) (fun ds m' => ∀ J, Itm W J m' ds → Rr J m'.H) (zipD d e m2.μ) → r.e G a ρ m.μ = .ok d (r.e G a ρ m.μ |> fun z => match z with | .ok _ μ => μ | _ => m.μ) → P [v, u] m2.H) →
      tCons (TEof W Z (r.e G a)) (tCons (TEof W Z (r.e G b)) tNil) σ H P := by
    intro P hP
    refine ⟨ρ, m, e1, g, rr, ?_⟩
    cases q : r.e G a ρ m.μ with
    | stuck => rw [q] at w1; exact w1.elim
    | exc x μ' => rw [q] at w1; exact w1
    | ok d μ1 =>
      rw [q] at w1
      intro m1 s1 g1 e2 v hv
      refine ⟨ρ, m1, rfl, g1, rr.mono s1, (wpR_bind (w1 m1 s1 g1 e2)).mono (fun _ _ _ _ z => z) fun e m2 s2 g2 w2 u hu => ?_⟩
      exact hP d e m2 g2 v u (hv.mono s2) hu w2 (by rw [q])
  cases q : r.e G a ρ m.μ with
  | stuck => rw [q] at w1; exact w1.elim
  | exc x μ' =>
    refine .inl (left fun d e m2 g2 v u hv hu w2 z => ?_)
    rw [q] at z; cases z
  | ok d0 μ1 =>
    have text : (∃ x, d0 = .str x) → iZipS (tCons (TEof W Z (r.e G a)) (tCons (TEof W Z (r.e G b)) tNil)) σ H Rr := fun ⟨x, ex⟩ => (left (P := fun vs H1 => ∃ x y : Str, vs = [V.str x, V.str y] ∧ Rr (ItzS x y) H1) fun d e m2 g2 v u hv hu w2 z => by
      rw [q] at z
      cases z
      subst ex
      cases e with
      | str y =>
        cases den_str hv
        cases den_str hu
        exact ⟨x, y, rfl, w2 m2 (Step.refl m2) g2 rfl _ itm_zipS⟩
      | _ => exact (show False from w2).elim)
    have seq : (∀ x, d0 ≠ .str x) → RZ.iZipA W.K (tCons (TEof W Z (r.e G a)) (tCons (TEof W Z (r.e G b)) tNil)) σ H Rr := fun nx => (left (P := fun vs H1 => ∃ a b xs ys, vs = [V.ref a, V.ref b] ∧ ((SqL W.K H1 a xs ∧ SqL W.K H1 b ys ∧ Rr (Itz W.K a b) H1) ∨ (SqT W.K H1 a xs ∧ SqT W.K H1 b ys ∧ Rr (RZ.ItzT W.K a b) H1))) fun d e m2 g2 v u hv hu w2 z => by
      rw [q] at z
      cases z
      cases d0 with
      | str x => exact absurd rfl (nx x)
      | tup xs =>
        cases e with
        | tup ys =>
          cases hv with
          | tup a1 a2 =>
            cases hu with
            | tup b1 b2 => exact ⟨_, _, _, _, rfl, .inr ⟨a1.sq, b1.sq, w2 m2 (Step.refl m2) g2 rfl _ (itm_zipT a1 a2 b1 b2)⟩⟩
        | _ => exact (show False from w2).elim
      | lst xs =>
        cases e with
        | lst ys =>
          cases hv with
          | lst a1 an a2 =>
            cases hu with
            | lst b1 bn b2 => exact ⟨_, _, _, _, rfl, .inl ⟨.inl (.inl a1), .inl (.inl b1), w2 m2 (Step.refl m2) g2 rfl _ (itm_zipL (.inl ⟨.inl a1, an⟩) a2 (.inl ⟨.inl b1, bn⟩) b2)⟩⟩
        | _ => exact (show False from w2).elim
      | _ => exact (show False from w2).elim)
    cases d0 with
    | str x => exact .inl (text ⟨x, rfl⟩)
    | _ => exact .inr (seq fun x z => nomatch z)
theorem ish_1 {tg iter a : Expr} (h : ishape tg iter = .rng1 a) : ∃ p pos, iter = .Call (.Name "range" p) [a] [] pos := by
  unfold ishape at h
  split at h
  · split at h
    · rename_i e; cases h; subst e; exact ⟨_, _, rfl⟩
    · cases h
  · split at h
    · cases h
    · split at h <;> cases h
  · split at h <;> cases h
  · cases h
theorem ish_2 {tg iter a b : Expr} (h : ishape tg iter = .rng2 a b) : ∃ p pos, iter = .Call (.Name "range" p) [a, b] [] pos := by
  unfold ishape at h
  split at h
  · split at h <;> cases h
  · split at h
    · rename_i e; cases h; subst e; exact ⟨_, _, rfl⟩
    · split at h <;> cases h
  · split at h
    · rename_i e; cases h; subst e; exact ⟨_, _, rfl⟩
    · cases h
  · cases h
theorem ish_z {tg iter a b : Expr} (h : ishape tg iter = .zip a b) : ∃ elts kk tpos p pos, tg = .Tuple elts kk tpos ∧ iter = .Call (.Name "zip" p) [a, b] [] pos := by
  unfold ishape at h
  split at h
  · split at h <;> cases h
  · split at h
    · cases h
    · split at h
      · rename_i e; cases h; subst e; exact ⟨_, _, _, _, _, rfl, rfl⟩
      · cases h
  · split at h <;> cases h
  · cases h
theorem pi_D (R : EnOk W r) (ok : EOk W X Z G) (tg iter : Expr) : PI X tg iter (TIof W Z (iD r G tg iter)) := by
  have none_of : (∀ ρ, iD r G tg iter ρ = stuck) → PI X tg iter (TIof W Z (iD r G tg iter)) := fun z => PI.weak PI.any fun σ H Rr h => ti_none z h
  cases h : ishape tg iter with
  | rng1 a =>
    obtain ⟨p, pos, rfl⟩ := ish_1 h
    by_cases hz : glB G.sc "range" = true ∧ G.isB "range" = true ∧ noStar [a] = true
    · refine PI.weak (pi_rng1 R ok tg a p pos hz.1 hz.2.1 hz.2.2) fun σ H Rr q => ?_
      obtain ⟨ρ, m, e1, g, rr, w⟩ := q
      unfold iD at w
      rw [h] at w
      simp only at w
      rw [if_pos hz] at w
      exact ⟨ρ, m, e1, g, rr, w⟩
    · refine none_of fun ρ => ?_
      unfold iD
      rw [h]
      simp only
      rw [if_neg hz]
  | rng2 a b =>
    obtain ⟨p, pos, rfl⟩ := ish_2 h
    by_cases hz : glB G.sc "range" = true ∧ G.isB "range" = true ∧ noStar [a, b] = true
    · refine PI.weak (pi_rng2 R ok tg a b p pos hz.1 hz.2.1 hz.2.2) fun σ H Rr q => ?_
      obtain ⟨ρ, m, e1, g, rr, w⟩ := q
      unfold iD at w
      rw [h] at w
      simp only at w
      rw [if_pos hz] at w
      exact ⟨ρ, m, e1, g, rr, w⟩
    · refine none_of fun ρ => ?_
      unfold iD
      rw [h]
      simp only
      rw [if_neg hz]
  | zip a b =>
    obtain ⟨elts, kk, tpos, p, pos, rfl, rfl⟩ := ish_z h
    by_cases hz : glB G.sc "zip" = true ∧ G.isB "zip" = true ∧ noStar [a, b] = true
    · refine PI.weak (pi_zipD R ok elts kk tpos a b p pos hz.1 hz.2.1 hz.2.2) fun σ H Rr q => ?_
      obtain ⟨ρ, m, e1, g, rr, w⟩ := q
      unfold iD at w
      rw [h] at w
      simp only at w
      rw [if_pos hz] at w
      exact ⟨ρ, m, e1, g, rr, w⟩
    · refine none_of fun ρ => ?_
      unfold iD
      rw [h]
      simp only
      rw [if_neg hz]
  | other =>
    refine PI.weak (pi_other R ok tg iter) fun σ H Rr q => ?_
    obtain ⟨ρ, m, e1, g, rr, w⟩ := q
    unfold iD at w
    rw [h] at w
    exact ⟨ρ, m, e1, g, rr, w⟩
end
end Pu

set_option Elab.async false
set_option linter.all false
set_option maxRecDepth 100000
/-! Pu11: one step of an expression, one step of a test: kept by the model. -/
namespace Pu
open PySem L2
section
variable {W : Wd} {Z : WX} {X : Cx} {G : Ctx} {σ : St} {H : Hp} {Q : VK} {r : Dn}
/-! ### dict displays -/
theorem DenK.any {m : Mem} (k : Key) : ∀ {ds : List (Key × D)} {vs : List (Key × V)}, DenK W m ds vs → (ds.any fun kv => decide (kv.1 = k)) = (vs.any fun kv => decide (kv.1 = k))
  | _, _, .nil => rfl
  | _, _, .cons _ t => by rw [List.any_cons, List.any_cons, DenK.any k t]
theorem DenK.append {m : Mem} : ∀ {ds es : List (Key × D)} {vs ws : List (Key × V)}, DenK W m ds vs → DenK W m es ws → DenK W m (ds ++ es) (vs ++ ws)
  | _, _, _, _, .nil, s => s
  | _, _, _, _, .cons r t, s => .cons r (DenK.append t s)
theorem DenK.map {m : Mem} {d : D} {v : V} (k : Key) (h : Den W m d v) : ∀ {ds : List (Key × D)} {vs : List (Key × V)}, DenK W m ds vs → DenK W m (ds.map fun kv => if kv.1 = k then (kv.1, d) else kv) (vs.map fun kv => if kv.1 = k then (kv.1, v) else kv)
  | _, _, .nil => .nil
  | _, _, .cons (k := k') r t => by
    rw [List.map_cons, List.map_cons]
    by_cases e : k' = k
    · simp only [e, ↓reduceIte]
      exact .cons h (DenK.map k h t)
    · simp only [e, ↓reduceIte]
      exact .cons r (DenK.map k h t)
theorem DenK.put {m : Mem} {d : D} {v : V} (k : Key) (h : Den W m d v) {ds : List (Key × D)} {vs : List (Key × V)} (l : DenK W m ds vs) : DenK W m (putD ds k d) (putK vs k v) := by
  unfold putD putK
  rw [l.any k]
  split
  · exact l.map k h
  · exact l.append (.cons h .nil)
theorem DenK.merge {m : Mem} : ∀ {es : List (Key × D)} {ws : List (Key × V)} {ds : List (Key × D)} {vs : List (Key × V)}, DenK W m es ws → DenK W m ds vs → DenK W m (mergeD ds es) (mergeK vs ws)
  | _, _, _, _, .nil, l => l
  | _, _, ds, vs, .cons (k := k) (d := d) (v := v) (ds := es) (vs := ws) h t, l => show DenK W m (mergeD (putD ds k d) es) (mergeK (putK vs k v) ws) from DenK.merge t (l.put _ h)
theorem constV_pe {c : Const} {d : D} {v : V} {k : Nat} {pos : Pos} (h : constV c = some (d, v)) : PE X (.Constant c k pos) (tC v) ∧ ∀ m, Den W m d v := by
  cases c with
  | none => cases h; exact ⟨pe_non, fun _ => .non⟩
  | bool b => cases h; exact ⟨pe_bl, fun _ => .bl b⟩
  | int b => cases h; exact ⟨pe_int, fun _ => .int b⟩
  | str b => cases h; exact ⟨pe_str, fun _ => .str b⟩
  | _ => cases h
theorem constK_pe {c : Const} {q : Key} {k : Nat} {pos : Pos} (h : constK c = some q) : PE X (.Constant c k pos) (tC (kV q)) := by
  cases c with
  | int b => cases h; exact pe_int
  | str b => cases h; exact pe_str
  | _ => cases h
theorem dispC_pps {pos : Pos} : ∀ {ks : List (Option Expr)} {vs : List Expr} {l : List (Key × D × V)}, dispC ks vs = some l → PPs X pos ks vs (l.map fun z => (tC (kV z.1), tC z.2.2)) ∧ ks.all (·.isSome) = true ∧ ks.length = vs.length ∧ ks.length = l.length ∧ ∀ m, DenK W m (l.map fun z => (z.1, z.2.1)) (l.map fun z => (z.1, z.2.2))
  | [], [], l, h => by cases h; exact ⟨pps_nil, rfl, rfl, rfl, fun _ => .nil⟩
  | some (.Constant c j p) :: ks, .Constant d i q :: vs, l, h => by
    have h' : (match constK c, constV d, dispC ks vs with
      | some k, some v, some r => some ((k, v.1, v.2) :: r)
      | _, _, _ => none) = some l := h
    split at h'
    · rename_i k v r e1 e2 e3
      cases h'
      obtain ⟨h1, h2, h3, h4, h5⟩ := dispC_pps (pos := pos) e3
      obtain ⟨z1, z2⟩ := constV_pe (W := W) (X := X) (k := i) (pos := q) e2
      exact ⟨pps_cons (constK_pe e1) z1 h1, by rw [List.all_cons, h2]; rfl, congrArg (· + 1) h3, congrArg (· + 1) h4, fun m => .cons (z2 m) (h5 m)⟩
    · cases h'
theorem tPairs_const : ∀ {l : List (Key × D × V)} {P : List (V × V) → Hp → Prop}, P (l.map fun z => (kV z.1, z.2.2)) H → tPairs (l.map fun z => (tC (kV z.1), tC z.2.2)) σ H P
  | [], P, h => h
  | z :: l, P, h => tPairs_const (l := l) (P := fun ps H3 => P ((kV z.1, z.2.2) :: ps) H3) h
theorem pe_dispD (ks : List (Option Expr)) (vs : List Expr) (pos : Pos) : PE X (.Dict ks vs pos) (TEof W Z fun _ => dispD ks vs) := by
  cases q : dispC ks vs with
  | none =>
    refine PE.weak PE.any fun σ H Q h => ?_
    obtain ⟨ρ, m, e, g, rr, w⟩ := h
    unfold dispD at w
    rw [q] at w
    exact w
  | some l =>
    obtain ⟨h1, h2, h3, h4, h5⟩ := dispC_pps (W := W) (X := X) (pos := pos) q
    have open_ : ∀ {σ H Q}, TEof W Z (fun _ => dispD ks vs) σ H Q → ∃ m, m.H = H ∧ Okm W m ∧ l.length ≤ 15 ∧ out W m (EWish W Z σ) Q (.ok (.dic (mergeD [] (l.map fun z => (z.1, z.2.1)))) m.μ) := by
      rintro σ H Q ⟨ρ, m, e, g, rr, w⟩
      unfold dispD at w
      rw [q] at w
      simp only at w
      split at w
      · rename_i hz; exact ⟨m, e, g, hz, w⟩
      · exact w.elim
    by_cases h0 : ks = []
    · subst h0
      have e1 : vs = [] := by cases vs with | nil => rfl | cons _ _ => cases h3
      subst e1
      cases (show some [] = some l from q)
      refine PE.weak pe_dnewK fun σ H Q h => ?_
      obtain ⟨m, e, g, _, w⟩ := open_ h
      subst e
      exact fun p hp => out.dic (ks := []) w g .nil hp
    · by_cases hz : l.length ≤ 15
      · refine PE.weak (pe_disp h1 h2 h3 h0 (by rw [h4]; exact hz)) fun σ H Q h => ?_
        obtain ⟨m, e, g, _, w⟩ := open_ h
        subst e
        intro p hp
        refine tPairs_const ⟨upd_same, l.map fun z => (z.1, z.2.2), ?_, by rw [List.length_map]; exact hz, ?_⟩
        · rw [List.map_map]; rfl
        · rw [upd_upd]
          exact out.dic w g (DenK.merge (h5 m) .nil) hp
      · refine PE.weak PE.any fun σ H Q h => ?_
        obtain ⟨m, e, g, z, w⟩ := open_ h
        exact hz z
/-! ### join -/
theorem te_if {c : Prop} [Decidable c] {f : Sl → M D} (h : TEof W Z (fun ρ => if c then f ρ else stuck) σ H Q) : c ∧ TEof W Z f σ H Q := by
  obtain ⟨ρ, m, e, g, rr, w⟩ := h
  by_cases hc : c
  · refine ⟨hc, ρ, m, e, g, rr, ?_⟩
    simp only [hc, ↓reduceIte] at w
    exact w
  · simp only [hc, ↓reduceIte] at w
    exact (show False from w).elim
theorem isStr_wp {α : Type} {m : Mem} {d : D} {v : V} {E : Ex → Mem → Prop} {P : α → Mem → Prop} {f : Str → M α} (hv : Den W m d v) (w : wpR W m E P ((do let z ← isStr d; f z) m.μ)) : ∃ z, v = .str z ∧ wpR W m E P (f z m.μ) := by
  cases hv with
  | str z => exact ⟨z, rfl, w⟩
  | _ => exact (show False from w).elim
theorem pe_joinD (R : EnOk W r) (ok : EOk W X Z G) {o e : Expr} {ap pos : Pos} (h1 : plainO o = true) (h2 : noStar [e] = true) (h3 : (ap.endLine == pos.line) = true) :
    PE X (.Call (.Attribute o "join" ap) [e] [] pos) (TEof W Z fun ρ => do let x ← r.e G o ρ; let z ← isStr x; let y ← r.e G e ρ; joinD z y) := by
  obtain ⟨z1, z2⟩ := star_cons (env := X.env) h2
  refine PE.weak (pe_join (R.e ok o) (R.e ok e) z1 (plainO_base h1 _ _) h3) fun σ H Q h => ?_
  obtain ⟨ρ, m, ee, g, rr, w⟩ := h
  refine ⟨ρ, m, ee, g, rr, (wpR_bind w).mono (fun _ _ _ _ z => z) fun d m1 s1 g1 w1 v hv => ?_⟩
  obtain ⟨z, rfl, w2⟩ := isStr_wp hv w1
  refine ⟨⟨_, rfl⟩, ρ, m1, rfl, g1, rr.mono s1, (wpR_bind w2).mono (fun _ _ _ _ z => z) fun y m2 s2 g2 w3 u hu => ?_⟩
  unfold joinD at w3
  split at w3
  · rename_i ys e3
    split at w3
    · rename_i hz
      cases q2 : asS m2.μ y with
      | none => rw [q2] at e3; cases e3
      | some ds =>
        rw [q2] at e3
        obtain ⟨p, vs, rfl, h5, l⟩ := asS_den g2 hu q2
        have e4 := strsOf_map (show strsOf ds = some ys from e3)
        subst e4
        rw [DenL.of_strs l, ← ok.K] at h5
        exact ⟨z, p, ys, rfl, rfl, h5, hz, out.same (E := EWish W Z σ) w3 g2 (.str _)⟩
    · exact w3.elim
  · exact w3.elim
theorem pe_methD (R : EnOk W r) (ok : EOk W X Z G) (o : Expr) (m : Str) (es : List Expr) (ap pos : Pos) : PE X (.Call (.Attribute o m ap) es [] pos) (TEof W Z (methD r G o m es (ap.endLine == pos.line))) := by
  have none_of : (∀ ρ, methD r G o m es (ap.endLine == pos.line) ρ = stuck) → PE X (.Call (.Attribute o m ap) es [] pos) (TEof W Z (methD r G o m es (ap.endLine == pos.line))) := fun z => PE.weak PE.any fun σ H Q h => te_none z h
  by_cases h0 : plainO o = true ∧ noStar es = true ∧ (ap.endLine == pos.line) = true ∧ G.hot = false
  · match es, h0 with
    | [], h0 => exact none_of fun ρ => by unfold methD; rw [if_pos h0]
    | _ :: _ :: _, h0 => exact none_of fun ρ => by unfold methD; rw [if_pos h0]
    | [e], h0 =>
      by_cases hj : m = "join"
      · subst hj
        exact PE.weak (pe_joinD R ok h0.1 h0.2.1 h0.2.2.1) fun σ H Q h => (te_if (te_if h).2).2
      · refine none_of fun ρ => ?_
        unfold methD
        rw [if_pos h0]
        simp only
        rw [if_neg hj]
  · refine none_of fun ρ => ?_
    unfold methD
    rw [if_neg h0]

/-! ### slices -/
theorem po_D (R : EnOk W r) (ok : EOk W X Z G) : ∀ o : Option Expr, PO X o (TOof W Z (partD r G o))
  | none => ⟨fun pins s σ H Q I h => po_none.run pins s σ H Q I (let ⟨ρ, m, e, g, rr, w⟩ := h; e ▸ w m (Step.refl m) g rfl)⟩
  | some e => by
    have p := po_some (R.e ok e)
    refine ⟨fun pins s σ H Q I h => p.run pins s σ H Q I ?_⟩
    obtain ⟨ρ, m, ee, g, rr, w⟩ := h
    refine ⟨ρ, m, ee, g, rr, (wpR_bind w).mono (fun _ _ _ _ z => z) fun d m1 s1 g1 w1 v hv => ?_⟩
    cases d with
    | int i => cases den_int hv; exact ⟨i, rfl, w1 m1 (Step.refl m1) g1 rfl⟩
    | _ => exact (show False from w1).elim
theorem pe_slD (R : EnOk W r) (ok : EOk W X Z G) (a : Expr) (lo hi : Option Expr) (p pos : Pos) : PE X (.Subscript a (.Slice lo hi none p) pos) (TEof W Z fun ρ => do let x ← r.e G a ρ; let l ← partD r G lo ρ; let h ← partD r G hi ρ; slD x l h) := by
  refine PE.weak (pe_slice (sl_D ok.K) (R.e ok a) (po_D R ok lo) (po_D R ok hi)) fun σ H Q h => ?_
  obtain ⟨ρ, m, ee, g, rr, w⟩ := h
  refine ⟨ρ, m, ee, g, rr, (wpR_bind w).mono (fun _ _ _ _ z => z) fun d m1 s1 g1 w1 v hv => ?_⟩
  refine ⟨ρ, m1, rfl, g1, rr.mono s1, (wpR_bind w1).mono (fun _ _ _ _ z => z) fun l m2 s2 g2 w2 => ?_⟩
  refine ⟨ρ, m2, rfl, g2, (rr.mono s1).mono s2, (wpR_bind w2).mono (fun _ _ _ _ z => z) fun hh m3 s3 g3 w3 => ?_⟩
  exact ⟨_, d, m3, rfl, g3, (hv.mono s2).mono s3, w3⟩
theorem plain_ix {b : Expr} (h : isSlice b = false) : PlainIx b := by
  intro o i
  unfold subscripted
  cases b <;> first | rfl | cases h

/-! ### one step -/
theorem isTrue_plain' {e : Expr} (h : tplain e = true) (env : Env) : ∀ whole, isTrue e env whole = (do let v ← whole; standAt e.pos; holding [v] (truthy v)) := by
  intro whole
  cases e with
  | UnaryOp op a pos => cases op <;> first | rfl | cases h
  | BoolOp _ _ _ => cases h
  | IfExp _ _ _ _ => cases h
  | Compare _ _ _ _ => cases h
  | _ => rfl
theorem notSet_marks {b : Expr} (h : notSet b = true) (op : CmpOp) : behindInMarks op b = false := by
  cases b <;> first | rfl | cases h
theorem chain_out {f1 f2 f3 : Sl → M D} {op op' : CmpOp} (h : TEof W Z (fun ρ => do let x ← f1 ρ; let y ← f2 ρ; chainD op op' x y (f3 ρ)) σ H Q) :
    tChain (R2of W (cmpD op)) (R2of W (cmpD op')) (TEof W Z f1) (TEof W Z f2) (TEof W Z f3) σ H Q := by
  obtain ⟨ρ, m, e, g, rr, w⟩ := h
  refine ⟨ρ, m, e, g, rr, (wpR_bind w).mono (fun _ _ _ _ z => z) fun x m1 s1 g1 w1 v hv => ?_⟩
  refine ⟨ρ, m1, rfl, g1, rr.mono s1, (wpR_bind w1).mono (fun _ _ _ _ z => z) fun y m2 s2 g2 w2 u hu => ?_⟩
  unfold chainD at w2
  refine ⟨EWish W Z σ, x, y, m2, rfl, g2, hv.mono s2, hu, (wpR_bind w2).mono (fun _ _ _ _ z => z) fun z m3 s3 g3 w3 t ht => ?_⟩
  cases z with
  | bl k =>
    cases den_bl ht
    refine ⟨k, rfl, ?_⟩
    cases k with
    | true =>
      rw [if_pos rfl]
      refine ⟨ρ, m3, rfl, g3, ((rr.mono s1).mono s2).mono s3, (wpR_bind w3).mono (fun _ _ _ _ z => z) fun c m4 s4 g4 w4 t2 ht2 => ?_⟩
      exact ⟨_, y, c, m4, rfl, g4, (hu.mono s3).mono s4, ht2, w4⟩
    | false =>
      rw [if_neg Bool.false_ne_true]
      exact out.same (E := EWish W Z σ) w3 g3 (.bl false)
  | _ => exact (show False from w3).elim
theorem pe_cmpE (R : EnOk W r) (ok : EOk W X Z G) (a : Expr) (ops : List CmpOp) (cs : List Expr) (pos : Pos) : PE X (.Compare a ops cs pos) (TEof W Z (cmpE r G a ops cs)) := by
  have none_of : (∀ ρ, cmpE r G a ops cs ρ = stuck) → PE X (.Compare a ops cs pos) (TEof W Z (cmpE r G a ops cs)) := fun z => PE.weak PE.any fun σ H Q h => te_none z h
  match ops, cs with
  | [op], [b] =>
    by_cases hb : notSet b = true
    · exact PE.weak (pe_cmpR (op_cmpD ok.K ok.un op) (R.e ok a) (R.e ok b) (notSet_marks hb op)) fun σ H Q h => te_op (te_if h).2
    · exact PE.weak PE.any fun σ H Q h => hb (te_if h).1
  | [op, op'], [b, c] =>
    by_cases hb : notSet c = true
    · exact PE.weak (pe_chain (op_cmpD ok.K ok.un op) (op_cmpD ok.K ok.un op') (R.e ok a) (R.e ok b) (R.e ok c) (notSet_marks hb op')) fun σ H Q h => chain_out (te_if h).2
    · exact PE.weak PE.any fun σ H Q h => hb (te_if h).1
  | [], _ => exact none_of fun _ => rfl
  | [_], [] => exact none_of fun _ => rfl
  | [_], _ :: _ :: _ => exact none_of fun _ => rfl
  | [_, _], [] => exact none_of fun _ => rfl
  | [_, _], [_] => exact none_of fun _ => rfl
  | [_, _], _ :: _ :: _ :: _ => exact none_of fun _ => rfl
  | _ :: _ :: _ :: _, _ => exact none_of fun _ => rfl
theorem pe_boolE (R : EnOk W r) (ok : EOk W X Z G) (op : BoolOp) (vs : List Expr) (pos : Pos) : PE X (.BoolOp op vs pos) (TEof W Z (boolE r G op vs pos)) := by
  match op, vs with
  | _, [] => exact PE.weak PE.any fun σ H Q h => te_none (f := fun _ => stuck) (fun _ => rfl) h
  | op, [a] => exact pe_one (R.e ok a)
  | .And, a :: b :: rest =>
    refine PE.weak (pe_andT (R.e ok a) (R.e ok (.BoolOp .And (b :: rest) pos))) fun σ H Q h => ?_
    obtain ⟨ρ, m, e, g, rr, w⟩ := h
    refine ⟨ρ, m, e, g, rr, (wpR_bind w).mono (fun _ _ _ _ z => z) fun x m1 s1 g1 w1 v hv => ?_⟩
    obtain ⟨k, h1, h2⟩ := te_truth ok.K g1 hv w1
    refine ⟨k, h1, ?_⟩
    cases k with
    | true => rw [if_pos rfl]; exact ⟨ρ, m1, rfl, g1, rr.mono s1, h2⟩
    | false => rw [if_neg Bool.false_ne_true]; exact out.same (E := EWish W Z σ) (d := x) h2 g1 hv
  | .Or, a :: b :: rest =>
    refine PE.weak (pe_orT (R.e ok a) (R.e ok (.BoolOp .Or (b :: rest) pos))) fun σ H Q h => ?_
    obtain ⟨ρ, m, e, g, rr, w⟩ := h
    refine ⟨ρ, m, e, g, rr, (wpR_bind w).mono (fun _ _ _ _ z => z) fun x m1 s1 g1 w1 v hv => ?_⟩
    obtain ⟨k, h1, h2⟩ := te_truth ok.K g1 hv w1
    refine ⟨k, h1, ?_⟩
    cases k with
    | true => rw [if_pos rfl]; exact out.same (E := EWish W Z σ) (d := x) h2 g1 hv
    | false => rw [if_neg Bool.false_ne_true]; exact ⟨ρ, m1, rfl, g1, rr.mono s1, h2⟩
theorem pe_unE (R : EnOk W r) (ok : EOk W X Z G) (op : UnaryOp) (a : Expr) (pos : Pos) : PE X (.UnaryOp op a pos) (TEof W Z (unE r G op a)) := by
  cases op with
  | USub => exact PE.weak (pe_un un_negD (R.e ok a)) fun σ H Q h => te_un h
  | Not =>
    refine PE.weak (pe_notT (R.e ok a)) fun σ H Q h => ?_
    obtain ⟨ρ, m, e, g, rr, w⟩ := h
    refine ⟨ρ, m, e, g, rr, (wpR_bind w).mono (fun _ _ _ _ z => z) fun x m1 s1 g1 w1 v hv => ?_⟩
    obtain ⟨k, h1, h2⟩ := te_truth ok.K g1 hv w1
    exact ⟨k, h1, out.same (E := EWish W Z σ) (d := .bl (!k)) h2 g1 (.bl _)⟩
  | _ => exact PE.weak PE.any fun σ H Q h => te_none (f := fun _ => stuck) (fun _ => rfl) h
theorem pe_subE (R : EnOk W r) (ok : EOk W X Z G) (a b : Expr) (pos : Pos) : PE X (.Subscript a b pos) (TEof W Z (subE r G a b)) := by
  have plain : isSlice b = false → (∀ ρ, subE r G a b ρ = (do let x ← r.e G a ρ; let y ← r.e G b ρ; ixD x y)) → PE X (.Subscript a b pos) (TEof W Z (subE r G a b)) := fun hb z =>
    PE.weak (pe_ix (ix_D ok.K) (R.e ok a) (R.e ok b) (plain_ix hb)) fun σ H Q h => te_op (by
      obtain ⟨ρ, m, e, g, rr, w⟩ := h
      exact ⟨ρ, m, e, g, rr, by rw [z] at w; exact w⟩)
  cases b with
  | Slice lo hi st p =>
    cases st with
    | none => exact pe_slD R ok a lo hi p pos
    | some _ => exact PE.weak PE.any fun σ H Q h => te_none (f := fun _ => stuck) (fun _ => rfl) h
  | _ => exact plain rfl fun _ => rfl
theorem pe_lcE (R : EnOk W r) (ok : EOk W X Z G) (elt : Expr) (gs : List Comprehension) (sc : Scope) (pos : Pos) : PE X (.ListComp elt gs sc pos) (TEof W Z (lcE r G elt gs sc pos)) := by
  match gs with
  | [] => exact PE.weak PE.any fun σ H Q h => te_none (f := fun _ => stuck) (fun _ => rfl) h
  | _ :: _ :: _ => exact PE.weak PE.any fun σ H Q h => te_none (f := fun _ => stuck) (fun _ => rfl) h
  | [⟨tg, iter, ifs, k⟩] =>
    by_cases hk : k = 0
    · subst hk
      exact PE.weak (pe_compD R (fun ok tg iter => pi_D R ok tg iter) ok elt tg iter ifs sc pos) fun σ H Q h => h
    · exact PE.weak PE.any fun σ H Q h => hk (te_if h).1
theorem pe_cllE (R : EnOk W r) (ok : EOk W X Z G) (f : Expr) (es : List Expr) (kws : List Keyword) (pos : Pos) : PE X (.Call f es kws pos) (TEof W Z (cllE r G f es kws pos)) := by
  cases kws with
  | nil =>
    cases f with
    | Name x p => exact pe_callD R ok x p es pos
    | Attribute o m p => exact pe_methD R ok o m es p pos
    | _ => exact PE.weak PE.any fun σ H Q h => te_none (f := fun _ => stuck) (fun _ => rfl) h
  | cons _ _ => exact PE.weak PE.any fun σ H Q h => te_none (f := fun _ => stuck) (fun _ => rfl) h
theorem pe_stepE (R : EnOk W r) (ok : EOk W X Z G) (ex : Expr) : PE X ex (TEof W Z (stepE r G ex)) := by
  cases ex with
  | Constant c k pos => exact pe_const ok c k pos
  | Name x pos => exact pe_name ok x pos
  | BinOp a op b pos => exact PE.weak (pe_op (op_binD ok.K op) (R.e ok a) (R.e ok b)) fun σ H Q h => te_op h
  | UnaryOp op a pos => exact pe_unE R ok op a pos
  | BoolOp op vs pos => exact pe_boolE R ok op vs pos
  | Compare a ops cs pos => exact pe_cmpE R ok a ops cs pos
  | IfExp c a b pos =>
    refine PE.weak (pe_ifExp (R.t ok c) (R.e ok a) (R.e ok b)) fun σ H Q h => ?_
    obtain ⟨ρ, m, e, g, rr, w⟩ := h
    refine ⟨ρ, m, e, g, rr, (wpR_bind w).mono (fun _ _ _ _ z => z) fun k m1 s1 g1 w1 => ?_⟩
    cases k with
    | true => rw [if_pos rfl]; exact ⟨ρ, m1, rfl, g1, rr.mono s1, w1⟩
    | false => rw [if_neg Bool.false_ne_true]; exact ⟨ρ, m1, rfl, g1, rr.mono s1, w1⟩
  | Tuple es k pos =>
    by_cases hb : noStar es = true
    · exact PE.weak (pe_tupD R ok hb) fun σ H Q h => (te_if h).2
    · exact PE.weak PE.any fun σ H Q h => hb (te_if h).1
  | List es pos =>
    by_cases hb : noStar es = true
    · exact PE.weak (pe_lstD R ok (n := G.hint pos) hb) fun σ H Q h => (te_if h).2
    · exact PE.weak PE.any fun σ H Q h => hb (te_if h).1
  | Dict ks vs pos => exact pe_dispD ks vs pos
  | Subscript a b pos => exact pe_subE R ok a b pos
  | Call f es kws pos => exact pe_cllE R ok f es kws pos
  | ListComp elt gs sc pos => exact pe_lcE R ok elt gs sc pos
  | _ => exact PE.weak PE.any fun σ H Q h => te_none (f := fun _ => stuck) (fun _ => rfl) h
/-! ### one step of a test -/
theorem tt_none {f : Sl → M Bool} (e : ∀ ρ, f ρ = stuck) : ∀ {σ H P}, TTof W Z f σ H P → False := fun ⟨ρ, m, _, _, _, w⟩ => by rw [e] at w; exact w
theorem pt_plain (R : EnOk W r) (ok : EOk W X Z G) {e : Expr} (h : tplain e = true) : PT X e (TTof W Z fun ρ => do let x ← r.e G e ρ; truthD x) := by
  refine PT.weak (pt_truth (R.e ok e) (isTrue_plain' h X.env)) fun σ H P h => ?_
  obtain ⟨ρ, m, ee, g, rr, w⟩ := h
  refine ⟨ρ, m, ee, g, rr, (wpR_bind w).mono (fun _ _ _ _ z => z) fun x m1 s1 g1 w1 v hv => ?_⟩
  cases q : truthD x m1.μ with
  | stuck => rw [q] at w1; exact w1.elim
  | exc y μ' =>
    exfalso
    unfold truthD at q
    repeat' split at q
    all_goals cases q
  | ok k μ' =>
    rw [q] at w1
    obtain ⟨rfl, h2⟩ := truth_den g1 hv q
    exact ⟨k, by rw [ok.K]; exact h2, w1 m1 (Step.refl m1) g1 rfl⟩
theorem pw_bool {op : BoolOp} {vs : List Expr} {pos : Pos} {t : TT} (h : PT X (.BoolOp op vs pos) t) : PW X (.BoolOp op vs pos) t := ⟨fun _ pins s σ H Q I q => h.run pins s σ H Q I q⟩
theorem pt_stepT (R : EnOk W r) (ok : EOk W X Z G) (ex : Expr) : PT X ex (TTof W Z (stepT r G ex)) := by
  cases ex with
  | UnaryOp op a pos =>
    cases op with
    | Not =>
      refine PT.weak (pt_not (R.t ok a)) fun σ H P h => ?_
      obtain ⟨ρ, m, e, g, rr, w⟩ := h
      exact ⟨ρ, m, e, g, rr, (wpR_bind w).mono (fun _ _ _ _ z => z) fun k m1 s1 g1 w1 => w1 m1 (Step.refl m1) g1 rfl⟩
    | _ => exact pt_plain R ok rfl
  | BoolOp op vs pos =>
    match op, vs with
    | _, [] => exact PT.weak PT.any fun σ H Q h => tt_none (f := fun _ => stuck) (fun _ => rfl) h
    | .And, [a] => exact (pw_and1 (R.t ok a)).pt
    | .Or, [a] => exact (pw_or1 (R.t ok a)).pt
    | .And, a :: b :: rest =>
      refine PT.weak (pw_and (R.t ok a) (pw_bool (R.t ok (.BoolOp .And (b :: rest) pos)))).pt fun σ H P h => ?_
      obtain ⟨ρ, m, e, g, rr, w⟩ := h
      refine ⟨ρ, m, e, g, rr, (wpR_bind w).mono (fun _ _ _ _ z => z) fun k m1 s1 g1 w1 => ?_⟩
      cases k with
      | true => show (if true = true then _ else _); rw [if_pos rfl]; exact ⟨ρ, m1, rfl, g1, rr.mono s1, w1⟩
      | false => show (if false = true then _ else _); rw [if_neg Bool.false_ne_true]; exact w1 m1 (Step.refl m1) g1 rfl
    | .Or, a :: b :: rest =>
      refine PT.weak (pw_or (R.t ok a) (pw_bool (R.t ok (.BoolOp .Or (b :: rest) pos)))).pt fun σ H P h => ?_
      obtain ⟨ρ, m, e, g, rr, w⟩ := h
      refine ⟨ρ, m, e, g, rr, (wpR_bind w).mono (fun _ _ _ _ z => z) fun k m1 s1 g1 w1 => ?_⟩
      cases k with
      | true => show (if true = true then _ else _); rw [if_pos rfl]; exact w1 m1 (Step.refl m1) g1 rfl
      | false => show (if false = true then _ else _); rw [if_neg Bool.false_ne_true]; exact ⟨ρ, m1, rfl, g1, rr.mono s1, w1⟩
  | Compare a ops cs pos =>
    have lift : ∀ {f : Sl → M D} {σ H P}, TTof W Z (fun ρ => do let z ← f ρ; asB z) σ H P → TEof W Z f σ H fun x H' => ∃ k, x = .bl k ∧ P k H' := by
      rintro f σ H P ⟨ρ, m, e, g, rr, w⟩
      refine ⟨ρ, m, e, g, rr, (wpR_bind w).mono (fun _ _ _ _ z => z) fun z m1 s1 g1 w1 v hv => ?_⟩
      cases z with
      | bl k => cases den_bl hv; exact ⟨k, rfl, w1 m1 (Step.refl m1) g1 rfl⟩
      | _ => exact (show False from w1).elim
    match ops, cs with
    | [op], [b] =>
      by_cases hb : notSet b = true
      · exact PT.weak (pt_cmpR (op_cmpD ok.K ok.un op) (R.e ok a) (R.e ok b) (notSet_marks hb op)) fun σ H Q h => te_op (te_if (lift h)).2
      · exact PT.weak PT.any fun σ H Q h => hb (te_if (lift h)).1
    | [op, op'], [b, c] =>
      by_cases hb : notSet c = true
      · exact PT.weak (pt_chain (op_cmpD ok.K ok.un op) (op_cmpD ok.K ok.un op') (R.e ok a) (R.e ok b) (R.e ok c) (notSet_marks hb op')) fun σ H Q h => chain_out (te_if (lift h)).2
      · exact PT.weak PT.any fun σ H Q h => hb (te_if (lift h)).1
    | [], _ => exact PT.weak PT.any fun σ H Q h => te_none (f := fun _ => stuck) (fun _ => rfl) (lift h)
    | [_], [] => exact PT.weak PT.any fun σ H Q h => te_none (f := fun _ => stuck) (fun _ => rfl) (lift h)
    | [_], _ :: _ :: _ => exact PT.weak PT.any fun σ H Q h => te_none (f := fun _ => stuck) (fun _ => rfl) (lift h)
    | [_, _], [] => exact PT.weak PT.any fun σ H Q h => te_none (f := fun _ => stuck) (fun _ => rfl) (lift h)
    | [_, _], [_] => exact PT.weak PT.any fun σ H Q h => te_none (f := fun _ => stuck) (fun _ => rfl) (lift h)
    | [_, _], _ :: _ :: _ :: _ => exact PT.weak PT.any fun σ H Q h => te_none (f := fun _ => stuck) (fun _ => rfl) (lift h)
    | _ :: _ :: _ :: _, _ => exact PT.weak PT.any fun σ H Q h => te_none (f := fun _ => stuck) (fun _ => rfl) (lift h)
  | IfExp c a b pos => exact PT.weak PT.any fun σ H Q h => tt_none (f := fun _ => stuck) (fun _ => rfl) h
  | _ => exact pt_plain R ok rfl
end
end Pu

set_option Elab.async false
set_option linter.all false
set_option maxRecDepth 100000
/-! Pu15: set(text), sorted of it. -/
namespace Pu
open PySem PySem.Spec PyProof.Rows L2 PySem.Froz
/-- the table's places rise; the walk is by the text or led -/
structure TabR (w : World) (D : SD) : Prop where
  ris : Ris D.2.2.place.toList
  led : w.params.followText "set-order" = true ∨ D.2.2.led = true
theorem tab_add {w : World} {D : SD} (h : Int) (v : Value) (T : TabR w D) : TabR w (addTx h v D) := by
  obtain ⟨es, ep, t⟩ := D
  have r1 := layNew_ris t es h v T.ris
  have l1 := layNew_led t es h v
  show TabR w (tailTx ep (layNew t es h v).1 (if (layNew t es h v).2.1.plain = true then { (layNew t es h v).2.1 with plain := false } else (layNew t es h v).2.1) (layNew t es h v).2.2.1)
  generalize hz : (if (layNew t es h v).2.1.plain = true then { (layNew t es h v).2.1 with plain := false } else (layNew t es h v).2.1) = t2
  have r2 : Ris t2.place.toList := by
    rw [← hz]
    split
    · exact r1
    · exact r1
  have l2 : t2.led = t.led := by
    rw [← hz]
    split
    · exact l1
    · exact l1
  unfold tailTx
  split
  · refine ⟨relayAll_ris _ _ _, T.led.imp_right fun z => ?_⟩
    rw [relayAll_led, l2]
    exact z
  · exact ⟨r2, T.led.imp_right fun z => l2.trans z⟩
/-- the set at a holds just the signs cs -/
def SetX0 (P : Program) (w : World) (a : Addr) (cs : List Nat) (h : Heap) : Prop := ∃ (D : SD) (l : List Str), h.get? a = some (sObj "set" D) ∧ TxOk P w D l ∧ TabR w D ∧ l.Nodup ∧ l.length ≤ cs.length ∧ ∀ k, k ∈ l ↔ ∃ c ∈ cs, k = sing c
section
variable {P : Program} {w : World} {A : Around} {E : Value → Shared → Prop} {s : Shared}
theorem old_x {a : Addr} {T : String} {D : SD} {l : List Str} {k : Str} {u : Tok} {Q : Bool → Shared → Prop} (ho : s.heap.get? a = some (sObj T D)) (F : TxOk P w D l) (hk : k ∈ l) (hb : l.length < scanBound) (h : Q false s) :
    wpAny (model P w) A (setAddHashed a (.str k u) (hashStr w k)) Q E s := by
  obtain ⟨es, ep, t⟩ := D
  have e1 : (sObj T (es, ep, t)).data = .set es ep t := rfl
  have e2 : (strKind P w).is k (.str k u) = true := is_str k u
  have e3 : ElemsOf (strKind P w) es.toList := F.el
  have e4 : es.size < scanBound := by rw [show es.size = l.length from F.sz]; exact hb
  unfold setAddHashed setAddHashedIn
  refine wpAny_holding (wpAny_bind (wpAny_setState_of ho e1 F.fit ?_))
  dsimp only
  rw [byScan_of rfl e4 e3]
  simp only [↓reduceIte]
  unfold setAddByScan
  refine wpAny_bind (wpAny_bind (wpAny_rule (wpAny_bind (wpAny_setScan_of (knd := strKind P w) (k := k) e2 ho e1 F.fit e3 ?_))))
  cases hr : List.findIdx? (fun e => (strKind P w).is k e.2) es.toList with
  | none =>
    obtain ⟨e, he, q⟩ := (F.mem k).mp hk
    have z := List.findIdx?_eq_none_iff.mp hr e he
    rw [q] at z
    cases z
  | some j => exact wpAny_pure (wpAny_pure h)
theorem take_at {x : Str} {i c : Nat} (h : x.cps[i]? = some c) : x.cps.toList.take (i + 1) = x.cps.toList.take i ++ [c] := by
  rw [List.take_add_one, Array.getElem?_toList, h]
  rfl
variable {R : Result → Shared → Prop} {I : Addr} {fp wr : List Addr} {x : Str} {St : Nat → Heap → Prop} {a : Addr}
theorem upd_loop (V : Walks P w A.in1 I fp wr x.cps.size (SignAt x) St) (ha : a ∉ fp) (hb : x.cps.size + 1 < scanBound) : ∀ (m i : Nat) (s : Shared), x.cps.size - i = m → i ≤ x.cps.size → St i s.heap → SetX0 P w a (x.cps.toList.take i) s.heap →
    (∀ h' tk, (∀ b o, b ∉ wr → b ≠ a → s.heap.get? b = some o → h'.get? b = some o) → SetX0 P w a x.cps.toList h' → R (.ok (.ret .none)) { s with heap := h', toks := tk }) →
    codeAny (model P w) A (.builtin "set.update.loop" ⟨[.ref a, .ref I], []⟩) R s := by
  have haw : a ∉ wr := fun z => ha (V.sub _ z)
  intro m
  induction m with
  | zero =>
    intro i s hm hi hst hS hR
    have ei : i = x.cps.size := by omega
    refine codeAny_builtin PyProof.Rows.F.entry_set_update_loop ?_
    rw [Around.under_plainId PyProof.Rows.F.plain_set_update_loop]
    refine wpAny_bind (m := pyNext (.ref I)) (V.done s _ _ (by rw [← ei]; exact hst) fun h' tk kp => ?_)
    refine wpAny_pure (hR h' tk (fun b o q _ e => kp b o q e) ?_)
    obtain ⟨D, l, e, r⟩ := hS
    rw [ei, ← Array.length_toList, List.take_length] at r
    exact ⟨D, l, kp a _ haw e, r⟩
  | succ m ih =>
    intro i s hm hi hst hS hR
    have hlt : i < x.cps.size := by omega
    refine codeAny_builtin PyProof.Rows.F.entry_set_update_loop ?_
    rw [Around.under_plainId PyProof.Rows.F.plain_set_update_loop]
    refine wpAny_bind (m := pyNext (.ref I)) (V.item i s _ _ hlt hst fun v h' tk hP hst' kp => ?_)
    obtain ⟨c, u, hc, rfl⟩ := hP
    obtain ⟨D, l, e, F, T, nd, len, mem⟩ := hS
    have ea := kp a _ haw e
    have tk1 := take_at hc
    have hl : l.length ≤ i := Nat.le_trans len (by rw [List.length_take]; exact Nat.min_le_left _ _)
    refine wpAny_bind (m := holding [Value.str (sing c) u] (setAdd a (.str (sing c) u))) (wpAny_holding ?_)
    unfold setAdd
    refine wpAny_holding (wpAny_bind ((strKind P w).pyHash (k := sing c) (is_str _ _) ?_))
    by_cases hm : sing c ∈ l
    · refine old_x (s := { s with heap := h', toks := tk + 1 }) ea F hm (by omega) ?_
      refine wpAny_pure ⟨plainId_quiet PyProof.Rows.F.plain_set_update_loop _, ih (i + 1) { s with heap := h', toks := tk + 1 } (by omega) hlt hst' ⟨D, l, ea, F, T, nd, ?_, fun k => ?_⟩ fun h2 tk2 kp2 => hR h2 tk2 fun b o q1 q2 e => kp2 b o q1 q2 (kp b o q1 e)⟩
      · rw [tk1, List.length_append]
        exact Nat.le_trans len (Nat.le_add_right _ _)
      · rw [mem k, tk1]
        constructor
        · rintro ⟨c', h1, h2⟩
          exact ⟨c', List.mem_append_left _ h1, h2⟩
        · rintro ⟨c', h1, h2⟩
          rcases List.mem_append.mp h1 with h1 | h1
          · exact ⟨c', h1, h2⟩
          · rw [List.mem_singleton] at h1
            subst h1
            subst h2
            exact (mem _).mp hm
    · refine add_x (s := { s with heap := h', toks := tk + 1 }) ea F hm (by omega) ?_
      have ea2 : (h'.update a (fun _ => sObj "set" (addTx (hashStr w (sing c)) (.str (sing c) u) D))).get? a = some (sObj "set" (addTx (hashStr w (sing c)) (.str (sing c) u) D)) := get_upd _ ea rfl
      have oth : ∀ b o, b ≠ a → h'.get? b = some o → (h'.update a (fun _ => sObj "set" (addTx (hashStr w (sing c)) (.str (sing c) u) D))).get? b = some o := fun b o q e => PySem.Heap.get?_update_of_ne _ (Ne.symm q) e
      refine wpAny_pure ⟨plainId_quiet PyProof.Rows.F.plain_set_update_loop _, ih (i + 1) { s with heap := h'.update a (fun _ => sObj "set" (addTx (hashStr w (sing c)) (.str (sing c) u) D)), toks := tk + 1 } (by omega) hlt
        (V.frame _ _ _ hst' fun b hb o e => oth b o (fun z => ha (z ▸ hb)) e) ⟨_, sing c :: l, ea2, add_ok u F, tab_add _ _ T, List.nodup_cons.mpr ⟨hm, nd⟩, ?_, fun k => ?_⟩ fun h2 tk2 kp2 => hR h2 tk2 fun b o q1 q2 e => kp2 b o q1 q2 (oth b o q2 (kp b o q1 e))⟩
      · rw [tk1, List.length_append]
        exact Nat.succ_le_succ len
      · rw [List.mem_cons, mem k, tk1]
        constructor
        · rintro (h1 | ⟨c', h1, h2⟩)
          · exact ⟨c, List.mem_append_right _ (List.mem_singleton.mpr rfl), h1⟩
          · exact ⟨c', List.mem_append_left _ h1, h2⟩
        · rintro ⟨c', h1, h2⟩
          rcases List.mem_append.mp h1 with h1 | h1
          · exact .inr ⟨c', h1, h2⟩
          · rw [List.mem_singleton] at h1
            subst h1
            exact .inl h2
end
section
variable {P : Program} {w : World} {A : Around} {E : Value → Shared → Prop} {s : Shared}
abbrev emptyX (w : World) : Obj := { cls := .type "set", dict := none, data := .set #[] 0 (.fresh 0 0 (!w.params.followText "set-order")) }
theorem empty_ok {h : Heap} {a : Addr} (e : h.get? a = some (emptyX w)) : SetX0 P w a [] h := by
  refine ⟨(#[], 0, .fresh 0 0 (!w.params.followText "set-order")), [], e, TxOk.nil rfl, ⟨List.Pairwise.nil, ?_⟩, List.nodup_nil, Nat.le_refl _, fun k => by simp⟩
  cases q : w.params.followText "set-order" with
  | true => exact .inl rfl
  | false => exact .inr rfl
set_option maxHeartbeats 3200000 in
theorem call_set_text {x : Str} {u : Tok} {Q : Value → Shared → Prop} (hh : A.handled = none) (hb : x.cps.size + 1 < scanBound)
    (h : ∀ (h' : Heap) (tk : Nat), SetX0 P w s.heap.objs.size x.cps.toList h' → (∀ b o, s.heap.get? b = some o → h'.get? b = some o) → Q (.ref s.heap.objs.size) { s with heap := h', toks := tk }) :
    wpAny (model P w) A (call (.type "set") [.str x u]) Q E s := by
  obtain ⟨_, _, hmro⟩ := F.called_set.mro
  have g1 := F.called_set.made
  have g2 := F.called_set.sub
  refine wpAny_call (codeAny_of_tree (wpAny_pure ⟨Code.quiet_builtin _ (by decide +kernel), codeAny_builtin F.entry_type_call ?_⟩))
  rw [Around.under_plain (weight_type_call_type "set" [.str x u] []) rfl]
  have g3 := F.called_set.notType
  have g4 := F.called_set.canCreate
  have g5 := F.typeCall_set_1 (.str x u)
  repeat (any_goals (first | assumption | wp_step))
  refine codeAny_mono (code_set_led1 (.str x u) (E := E) (Q₁ := fun obj s₁ => obj = .ref s.heap.objs.size ∧ s₁ = { s with heap := s.heap.push (emptyX w) }) ⟨rfl, rfl⟩) fun r s₁ hr => ?_
  match r, hr with
  | .error e, hr => exact hr
  | .ok .next, hr => exact hr.elim
  | .ok .brk, hr => exact hr.elim
  | .ok .cont, hr => exact hr.elim
  | .ok (.ret obj), hr =>
    obtain ⟨rfl, rfl⟩ := hr
    have hS : (s.heap.push (emptyX w)).get? s.heap.objs.size = some (emptyX w) := Heap.get?_push_size _ rfl
    have hT : Shared.TypeIs { s with heap := s.heap.push (emptyX w) } (.ref s.heap.objs.size) "set" := ⟨_, hS, rfl⟩
    have g6 := F.called_set.init.lookup
    have g7 := F.called_set.init.bind (.ref s.heap.objs.size)
    repeat (any_goals (first | assumption | wp_step))
    refine codeAny_mono (codeAny_call_builtin (R := wants (fun r s₂ => r = .none ∧ ∃ h' tk, s₂ = { s with heap := h', toks := tk } ∧ SetX0 P w s.heap.objs.size x.cps.toList h' ∧ (∀ b o, s.heap.get? b = some o → h'.get? b = some o)) E) F.called_set.init.plain F.entry_set_init (check_set_init_1 hT ?_)) fun r₂ s₂ hr₂ => ?_
    · have g8 := F.sub_str_set
      have g9 := F.sub_str_frozenset
      have g10 : (Value.type "str" == Value.type "dict") = false := by decide
      unfold Builtin.«set.__init__» noKeywords Builtin.Frozenset.updateFrom
      generalize hPI : pyIter = PI
      wp_walk
      subst hPI
      refine wpAny_pyIter_str fun o St hW hst => ?_
      refine wpAny_bind (wpAny_runValue ?_)
      have z1 : (s.heap.push (emptyX w)).objs.size = s.heap.objs.size + 1 := Heap.size_push ..
      have ne : s.heap.objs.size ∉ [(s.heap.push (emptyX w)).objs.size] := by
        rw [z1, List.mem_singleton]
        omega
      refine upd_loop (hW _ (by simp [hh])) ne hb _ 0 { s with heap := (s.heap.push (emptyX w)).push o } rfl (Nat.zero_le _) hst (empty_ok (Heap.get?_push_of_some _ hS)) fun h' tk kp hx => ?_
      refine wpAny_pure (wpAny_pure ⟨rfl, h', tk, rfl, hx, fun b ob e => kp b ob ?_ (Nat.ne_of_lt (Heap.lt_size e)) (Heap.get?_push_of_some _ (Heap.get?_push_of_some _ e))⟩)
      rw [z1, List.mem_singleton]
      exact Nat.ne_of_lt (Nat.lt_succ_of_lt (Heap.lt_size e))
    · match r₂, hr₂ with
      | .error e, hr₂ => exact hr₂
      | .ok .next, hr₂ => exact hr₂.elim
      | .ok .brk, hr₂ => exact hr₂.elim
      | .ok .cont, hr₂ => exact hr₂.elim
      | .ok (.ret r), hr₂ =>
        obtain ⟨rfl, h', tk, rfl, hx, kp⟩ := hr₂
        repeat (any_goals (first | assumption | wp_step))
        exact h _ _ hx kp
end
end Pu

set_option Elab.async false
set_option linter.all false
set_option maxRecDepth 100000
/-! Pu16: sorted(set(text)) as one expression; the den once more with it. -/
namespace Pu
open PySem PySem.Spec PyProof.Rows L2 PySem.Froz
/-! ### the plain part -/
def insN (c : Nat) : List Nat → List Nat
  | [] => [c]
  | x :: r => if c < x then c :: x :: r else if c = x then x :: r else x :: insN c r
def sortN (l : List Nat) : List Nat := l.foldr insN []
theorem mem_insN {c k : Nat} : ∀ l, k ∈ insN c l ↔ k = c ∨ k ∈ l
  | [] => by simp [insN]
  | x :: r => by
    unfold insN
    split
    · simp
    · split
      · rename_i e
        subst e
        simp
      · simp only [List.mem_cons, mem_insN r]
        constructor
        · rintro (h | h | h)
          · exact .inr (.inl h)
          · exact .inl h
          · exact .inr (.inr h)
        · rintro (h | h | h)
          · exact .inr (.inl h)
          · exact .inl h
          · exact .inr (.inr h)
theorem ris_insN {c : Nat} : ∀ l : List Nat, l.Pairwise (· < ·) → (insN c l).Pairwise (· < ·)
  | [], _ => by simp [insN]
  | x :: r, h => by
    obtain ⟨h1, h2⟩ := List.pairwise_cons.mp h
    unfold insN
    split
    · rename_i lt
      exact List.pairwise_cons.mpr ⟨fun y hy => (List.mem_cons.mp hy).elim (fun e => e ▸ lt) fun e => Nat.lt_trans lt (h1 y e), h⟩
    · split
      · exact h
      · refine List.pairwise_cons.mpr ⟨fun y hy => ?_, ris_insN r h2⟩
        rcases (mem_insN r).mp hy with e | e
        · omega
        · exact h1 y e
theorem mem_sortN {k : Nat} : ∀ l, k ∈ sortN l ↔ k ∈ l
  | [] => Iff.rfl
  | x :: r => by
    show k ∈ insN x (sortN r) ↔ _
    rw [mem_insN, mem_sortN r, List.mem_cons]
theorem ris_sortN : ∀ l : List Nat, (sortN l).Pairwise (· < ·)
  | [] => List.Pairwise.nil
  | x :: r => ris_insN _ (ris_sortN r)
theorem ris_uniq : ∀ l m : List Nat, l.Pairwise (· < ·) → m.Pairwise (· < ·) → (∀ k, k ∈ l ↔ k ∈ m) → l = m
  | [], [], _, _, _ => rfl
  | [], y :: m, _, _, h => absurd ((h y).mpr List.mem_cons_self) List.not_mem_nil
  | x :: l, [], _, _, h => absurd ((h x).mp List.mem_cons_self) List.not_mem_nil
  | x :: l, y :: m, h1, h2, h => by
    obtain ⟨a1, a2⟩ := List.pairwise_cons.mp h1
    obtain ⟨b1, b2⟩ := List.pairwise_cons.mp h2
    have e : x = y := by
      rcases List.mem_cons.mp ((h x).mp List.mem_cons_self) with e | e
      · exact e
      · rcases List.mem_cons.mp ((h y).mpr List.mem_cons_self) with e' | e'
        · exact e'.symm
        · have := b1 x e
          have := a1 y e'
          omega
    subst e
    refine congrArg (x :: ·) (ris_uniq l m a2 b2 fun k => ?_)
    have hk := h k
    simp only [List.mem_cons] at hk
    constructor
    · intro z
      rcases hk.mp (.inr z) with q | q
      · subst q; exact absurd (a1 k z) (Nat.lt_irrefl _)
      · exact q
    · intro z
      rcases hk.mpr (.inr z) with q | q
      · subst q; exact absurd (b1 k z) (Nat.lt_irrefl _)
      · exact q
theorem rising_sing : ∀ (r : List Nat) (c : Nat), risingS (sing c) (r.map sing) = true → (c :: r).Nodup → (c :: r).Pairwise (· < ·)
  | [], c, _, _ => List.pairwise_singleton ..
  | d :: r, c, h, nd => by
    have h' : (!ltCps [d] [c] && risingS (sing d) (r.map sing)) = true := h
    rw [Bool.and_eq_true, Bool.not_eq_true', ltCps_eq] at h'
    obtain ⟨n1, n2⟩ := List.nodup_cons.mp nd
    have ih := rising_sing r d h'.2 n2
    have lt : c < d := by
      have e := of_decide_eq_false h'.1
      have e1 : c ≠ d := fun z => n1 (z ▸ List.mem_cons_self)
      have e2 : ¬ d < c := fun z => e (List.cons_lt_cons_iff.mpr (.inl z))
      omega
    obtain ⟨p1, p2⟩ := List.pairwise_cons.mp ih
    exact List.pairwise_cons.mpr ⟨fun y hy => (List.mem_cons.mp hy).elim (fun e => e ▸ lt) fun e => Nat.lt_trans lt (p1 y e), ih⟩
theorem sing_inj {c d : Nat} (h : sing c = sing d) : c = d := by
  have q : [c] = [d] := congrArg (fun y : Str => y.cps.toList) h
  exact (List.cons.inj q).1
theorem sings : ∀ {l : List Str}, (∀ k ∈ l, ∃ c, k = sing c) → ∃ cs : List Nat, l = cs.map sing
  | [], _ => ⟨[], rfl⟩
  | k :: l, h => by
    obtain ⟨c, e⟩ := h k List.mem_cons_self
    obtain ⟨cs, e2⟩ := sings fun k hk => h k (List.mem_cons_of_mem _ hk)
    exact ⟨c :: cs, by rw [e, e2]; rfl⟩
theorem sort_uniq {ys : List Str} {cs : List Nat} (h1 : sortedS ys = true) (h2 : ys.Nodup) (h3 : ∀ k, k ∈ ys ↔ ∃ c ∈ cs, k = sing c) : ys = (sortN cs).map sing := by
  obtain ⟨zs, rfl⟩ := sings fun k hk => let ⟨c, _, e⟩ := (h3 k).mp hk; ⟨c, e⟩
  have nd : zs.Nodup := (List.pairwise_map.mp (show List.Pairwise (· ≠ ·) (zs.map sing) from h2)).imp fun {a b} (q : sing a ≠ sing b) (z : a = b) => q (congrArg sing z)
  have ris : zs.Pairwise (· < ·) := by
    cases zs with
    | nil => exact List.Pairwise.nil
    | cons c r => exact rising_sing r c h1 nd
  refine congrArg (List.map sing) (ris_uniq zs _ ris (ris_sortN cs) fun k => ?_)
  rw [mem_sortN]
  constructor
  · intro hk
    obtain ⟨c, hc, e⟩ := (h3 (sing k)).mp (List.mem_map.mpr ⟨k, hk, rfl⟩)
    rw [sing_inj e]
    exact hc
  · intro hk
    obtain ⟨c, hc, e⟩ := List.mem_map.mp ((h3 (sing k)).mpr ⟨k, hk, rfl⟩)
    rw [← sing_inj e]
    exact hc
/-! ### the machine's part -/
theorem strs_of {P : Program} {w : World} {D : SD} {l : List Str} (F : TxOk P w D l) : ∀ (vs : List Value), (∀ v ∈ vs, ∃ e ∈ D.1.toList, e.2 = v) → ∃ ss, StrsAre vs ss ∧ ∀ x ∈ ss, x ∈ l
  | [], _ => ⟨[], .nil, fun _ z => nomatch z⟩
  | v :: vs, h => by
    obtain ⟨ss, h1, h2⟩ := strs_of F vs fun u hu => h u (List.mem_cons_of_mem _ hu)
    obtain ⟨e, he, q⟩ := h v List.mem_cons_self
    obtain ⟨⟨k, z1, _⟩, _⟩ := F.el e he
    obtain ⟨t, z2⟩ := Value.isStrOf_shape (x := k) (v := e.2) z1
    rw [← q, z2]
    exact ⟨k :: ss, .cons k t h1, fun x hx => (List.mem_cons.mp hx).elim (fun z => z ▸ (F.mem k).mpr ⟨e, he, z1⟩) (h2 x)⟩
theorem strs_mem : ∀ {vs : List Value} {ss : List Str}, StrsAre vs ss → ∀ (k : Str) (t : Tok), Value.str k t ∈ vs → k ∈ ss
  | _, _, .nil, _, _, h => nomatch h
  | _, _, .cons y u r, k, t, h => by
    rcases List.mem_cons.mp h with e | e
    · cases e; exact List.mem_cons_self
    · exact List.mem_cons_of_mem _ (strs_mem r k t e)
theorem strs_len : ∀ {vs : List Value} {ss : List Str}, StrsAre vs ss → ss.length = vs.length
  | _, _, .nil => rfl
  | _, _, .cons _ _ r => congrArg (· + 1) (strs_len r)
theorem perm_len : ∀ (l ss : List Str), l.Nodup → (∀ k ∈ l, k ∈ ss) → ss.length ≤ l.length → ss.Perm l
  | [], ss, _, _, e => by
    rw [List.eq_nil_of_length_eq_zero (Nat.le_zero.mp e)]
  | x :: l, ss, nd, sub, e => by
    obtain ⟨n1, n2⟩ := List.nodup_cons.mp nd
    have hx := sub x List.mem_cons_self
    have p := List.perm_cons_erase hx
    refine p.trans ((perm_len l (ss.erase x) n2 (fun k hk => ?_) ?_).cons x)
    · exact (List.mem_erase_of_ne (fun z : k = x => n1 (z ▸ hk))).mpr (sub k (List.mem_cons_of_mem _ hk))
    · have := p.length_eq
      simp only [List.length_cons] at this e
      omega
theorem len_insN {c : Nat} : ∀ l, (insN c l).length ≤ l.length + 1
  | [] => Nat.le_refl _
  | x :: r => by
    unfold insN
    split
    · exact Nat.le_refl _
    · split
      · exact Nat.le_succ _
      · exact Nat.succ_le_succ (len_insN r)
theorem len_sortN : ∀ l, (sortN l).length ≤ l.length
  | [] => Nat.le_refl _
  | x :: r => Nat.le_trans (len_insN _) (Nat.succ_le_succ (len_sortN r))
section
variable {P : Program} {w : World} {A : Around} {E : Value → Shared → Prop} {s : Shared}
theorem sorted_setX {a : Addr} {cs : List Nat} {Q : Value → Shared → Prop} (R : SetX0 P w a cs s.heap) (hh : A.handled = none) (h64 : cs.length < 64)
    (hQ : ∀ s' p (out : Array Value) (c : Nat), (∀ b o, s.heap.get? b = some o → s'.heap.get? b = some o) → s'.gens = s.gens → s'.os = s.os → s.heap.objs.size ≤ p →
      s'.heap.get? p = some (seqObj "list" out c) → StrsAre out.toList ((sortN cs).map sing) → Q (.ref p) s') :
    wpAny (model P w) A (call (.builtin "sorted") [.ref a]) Q E s := by
  obtain ⟨D, l, ho, F, T, nd, len, mem⟩ := R
  obtain ⟨es, ep, t⟩ := D
  have hs : es.size = l.length := F.sz
  refine Calls.call_function_entry kind_sorted plain_sorted entry_sorted (args_sorted1 (.ref a)) ?_
  unfold Builtin.«sorted»
  refine wpAny_bind (m := checkCount "sorted" 1 1 _) (wpAny_pure (wpAny_bind (collect_set (A := A.in1) hh ⟨_, ho, rfl, rfl⟩ F.fit (by show es.size < scanBound; unfold scanBound; omega) T.ris T.led fun s1 vs k1 hz g1 o1 pm => ?_)))
  have lv : vs.length = l.length := by rw [pm.length_eq, List.length_map, Array.length_toList, hs]
  obtain ⟨ss, hS, hsub⟩ := strs_of F vs fun v hv => by
    obtain ⟨e, he, q⟩ := List.mem_map.mp (pm.mem_iff.mp hv)
    exact ⟨e, he, q⟩
  have hmem : ∀ k ∈ l, k ∈ ss := fun k hk => by
    obtain ⟨e, he, q⟩ := (F.mem k).mp hk
    obtain ⟨u, z⟩ := Value.isStrOf_shape (x := k) (v := e.2) q
    exact strs_mem hS k u (pm.mem_iff.mpr (List.mem_map.mpr ⟨e, he, z⟩))
  have ndS : ss.Nodup := (perm_len l ss nd hmem (by rw [strs_len hS, lv]; exact Nat.le_refl _)).nodup_iff.mpr nd
  refine wpAny_bind (wpAny_newList ?_ (by rw [lv, sizeLine_eq]; omega))
  have oL : (s1.heap.push (seqObj "list" vs.toArray 0)).get? s1.heap.objs.size = some (seqObj "list" vs.toArray 0) := Heap.get?_push_size _ rfl
  refine wpAny_bind (wpAny_holding (wpAny_call_entry slot_list_sort ⟨_, oL, rfl⟩ entry_list_sort
    (list_sort_treeK strKind_oneLt oL hS.keysOf (fun v₁ v₂ rest e => keyKind_strs (by rw [← e]; exact hS)) (by omega) fun st' hp hs => ?_) (args_list_sort _)))
  obtain ⟨ys, y1, y2, y3⟩ := sorted_out_str hS hp hs
  obtain ⟨c, hc⟩ := sortedHeap_at (vs := vs) (out := (arrOf st').map (·.2)) oL
  have ey : ys = (sortN cs).map sing := sort_uniq y3 (y2.nodup_iff.mpr ndS) fun k => by
    rw [y2.mem_iff, ← mem k]
    exact ⟨hsub k, hmem k⟩
  rw [ey] at y1
  refine ⟨_, rfl, wpAny_pure ⟨_, rfl, hQ _ s1.heap.objs.size _ c (fun b u e => ?_) g1 o1 hz hc y1⟩⟩
  have q := k1 b u e
  have lt := Heap.lt_size q
  show (sortedHeap (s1.heap.push (seqObj "list" vs.toArray 0)) s1.heap.objs.size vs ((arrOf st').map (·.2))).get? b = some u
  rw [sortedHeap_old (Nat.ne_of_lt lt) (by rw [size_push']; exact Nat.lt_succ_of_lt lt)]
  exact Heap.get?_push_of_some _ q
end
/-! ### the rules -/
def SetXO (P : Program) (w : World) (a : Addr) (cs : List Nat) : HO := .ext fun h => SetX0 P w a cs h
theorem setXO_new {P : Program} {w : World} {H : Hp} {h : Heap} {a : Addr} {cs : List Nat} (R : SetX0 P w a cs h) : ObjOk P w H h a (SetXO P w a cs) := by
  obtain ⟨D, l, e, q⟩ := id R
  refine ⟨R, ⟨_, e⟩, fun h1 h2 p k => ?_⟩
  obtain ⟨D', l', e', q'⟩ := (show SetX0 P w a cs h1 from p)
  exact ⟨D', l', k _ e', q'⟩
section
variable {X : Cx}
def rSetX (P : Program) (w : World) : List V → Hp → VK → Prop := fun xs H Q => ∃ x : Str, xs = [V.str x] ∧ x.cps.size < 64 ∧ ∀ a, H a = none → Q (.ref a) (upd H a (SetXO P w a x.cps.toList))
theorem cr_setX (hc : X.calm = true) : CallR X (.type "set") (rSetX X.prog X.w) := by
  intro pins s σ H xs us Q I r h
  obtain ⟨x, rfl, hz, q⟩ := h
  obtain ⟨u, rfl, t, rfl⟩ := vals1 r
  refine call_set_text (P := X.prog) (w := X.w) (I.ok.hd hc) (by unfold scanBound; omega) fun h' tk R kp => ?_
  exact ⟨.ref s.heap.objs.size, upd H s.heap.objs.size (SetXO X.prog X.w s.heap.objs.size x.cps.toList), I.laid (t' := tk) kp (Nat.le_refl _) (setXO_new R), rfl, q _ (I.hok.fresh (Nat.le_refl _))⟩
def rSortX (P : Program) (w : World) : List V → Hp → VK → Prop := fun vs H Q => ∃ (a : Addr) (cs : List Nat), vs = [V.ref a] ∧ H a = some (SetXO P w a cs) ∧ cs.length < 64 ∧ ∀ p, H p = none → Q (.ref p) (upd H p (.lst (((sortN cs).map sing).map V.str)))
theorem cr_sortX (hc : X.calm = true) : CallR X (.builtin "sorted") (rSortX X.prog X.w) := by
  intro pins s σ H vs us Q I r h
  obtain ⟨a, cs, rfl, ha, h64, q⟩ := h
  have R : SetX0 X.prog X.w a cs s.heap := (I.hok a _ ha).1
  rw [Vals.ref1 r]
  refine sorted_setX R (I.ok.hd hc) h64 fun s' p out c k g o hp hg hout => ?_
  have hn : H p = none := I.hok.fresh hp
  have hv := vals_of_strs hout
  have lz : (((sortN cs).map sing).map V.str).length ≤ sizeLine := by
    have e1 := len_sortN cs
    rw [List.length_map, List.length_map, sizeLine_eq]
    omega
  have J : Inv X pins σ (upd H p (.lst (((sortN cs).map sing).map V.str))) { s with heap := s'.heap, gens := s'.gens, drawn := s'.drawn, toks := s'.toks } :=
    I.call (ch := []) (Un.laid k hp hn) (I.hok.laid k hp ⟨lz, out.toList, c, hv, hg⟩) (by rw [g]; exact I.bare) (fun _ z => nomatch z)
  have e : s' = { s with heap := s'.heap, gens := s'.gens, drawn := s'.drawn, toks := s'.toks } := by
    cases s'
    cases s
    cases o
    rfl
  rw [e]
  exact ⟨.ref p, _, J, rfl, q p hn⟩
end
/-! ### sorted(set(e)) as one expression -/
def srtD (d : D) : M D := fun μ => match d with
  | .str x => if x.cps.size < 64 then .ok (.lst ((sortN x.cps.toList).map fun c => .str (sing c))) μ else .stuck
  | _ => .stuck
def srtOk (G : Ctx) : Bool := G.isB "sorted" && G.isB "set" && glB G.sc "sorted" && glB G.sc "set" && !G.hot
def srtE (r : Dn) (G : Ctx) (e : Expr) (ρ : Sl) : M D := if srtOk G = true ∧ noStar [e] = true then (do let d ← r.e G e ρ; srtD d) else stuck
theorem den_sings {W : Wd} {m : Mem} : ∀ cs : List Nat, DenL W m (cs.map fun c => D.str (sing c)) ((cs.map sing).map V.str)
  | [] => .nil
  | c :: r => .cons (.str _) (den_sings r)
section
variable {W : Wd} {Z : WX} {X : Cx} {G : Ctx} {r : Dn}
theorem pe_srt (R : EnOk W r) (ok : EOk W X Z G) (e : Expr) (p p2 pos pos2 : Pos) : PE X (.Call (.Name "sorted" p) [.Call (.Name "set" p2) [e] [] pos2] [] pos) (TEof W Z (srtE r G e)) := by
  by_cases hz : srtOk G = true ∧ noStar [e] = true
  · obtain ⟨h0, hs⟩ := id hz
    unfold srtOk at h0
    simp only [Bool.and_eq_true, Bool.not_eq_true'] at h0
    obtain ⟨⟨⟨⟨b1, b2⟩, g1⟩, g2⟩, hot⟩ := h0
    have hc := ok.calm hot
    obtain ⟨z1, z2⟩ := star_cons (env := X.env) hs
    refine PE.weak (pe_callB (cr_sortX hc) (gl_of ok g1) (ok.g.bl _ b1) (by decide +kernel) (pa_cons (pe_callTy (cr_setX hc) (gl_of ok g2) (ok.g.bl _ b2) (by decide +kernel) (pa_cons (R.e ok e) pa_nil (hs := z1)) (by decide +kernel) (by decide +kernel) z1 (star_any z2)) pa_nil) (by decide +kernel) (by decide +kernel) rfl rfl) fun σ H Q h => ?_
    obtain ⟨_, h⟩ := te_if h
    obtain ⟨ρ, m, ee, g, rr, w⟩ := h
    refine ⟨ρ, m, ee, g, rr, (wpR_bind w).mono (fun _ _ _ _ z => z) fun d m1 s1 g1 w1 v hv => ?_⟩
    unfold srtD at w1
    split at w1
    · rename_i x
      split at w1
      · rename_i hlt
        cases hv
        refine ⟨x, rfl, hlt, fun a ha => ?_⟩
        refine ⟨a, x.cps.toList, rfl, upd_same, by rw [Array.length_toList]; exact hlt, fun q hq => ?_⟩
        let m2 := m1.put a (SetXO X.prog X.w a x.cps.toList)
        have s2 : Step m1 m2 := step_put g1 ha
        have g2 : Okm W m2 := good_put g1 ha
        have s3 : Step m2 (m2.put q (.lst (((sortN x.cps.toList).map sing).map V.str))) := step_put g2 hq
        exact w1 (m2.put q _) (s2.trans s3) (good_put g2 hq) rfl _ (den_lst g2 hq (den_sings _))
      · exact w1.elim
    · exact w1.elim
  · exact PE.weak PE.any fun σ H Q h => hz (te_if h).1
end
def stepE2 (r : Dn) (G : Ctx) (e : Expr) (ρ : Sl) : M D := match e with
  | .Call (.Name f p) [.Call (.Name h p2) [a] [] pos2] [] pos => if f = "sorted" ∧ h = "set" then srtE r G a ρ else stepE r G (.Call (.Name f p) [.Call (.Name h p2) [a] [] pos2] [] pos) ρ
  | e => stepE r G e ρ
theorem pe_stepE2 {W : Wd} {Z : WX} {X : Cx} {G : Ctx} {r : Dn} (R : EnOk W r) (ok : EOk W X Z G) (e : Expr) : PE X e (TEof W Z (stepE2 r G e)) := by
  unfold stepE2
  split
  · rename_i f p h p2 a pos2 pos
    by_cases q : f = "sorted" ∧ h = "set"
    · simp only [q, and_self, ↓reduceIte]
      exact pe_srt R ok a p p2 pos pos2
    · simp only [q, ↓reduceIte]
      exact pe_stepE R ok _
  · exact pe_stepE R ok _
end Pu

set_option Elab.async false
set_option linter.all false
set_option maxRecDepth 100000
/-! Pu12: the den of statements. -/
namespace Pu
open PySem L2

/-- an expression in a statement: what it raises flies from here -/
def withX {α : Type} (ρ : Sl) (x : M α) (k : α → M Fl) : M Fl := fun μ => match x μ with
  | .ok a μ' => k a μ'
  | .exc e μ' => .ok (.exc e ρ) μ'
  | .stuck => .stuck
def isComp : Expr → Bool
  | .ListComp _ _ _ _ => true
  | .SetComp _ _ _ _ => true
  | .DictComp _ _ _ _ _ => true
  | _ => false
def hotG (G : Ctx) : Ctx := { G with hot := true }
def storeN (G : Ctx) (x : Str) (d : D) (ρ : Sl) : M Fl := fun μ => match gN G x d ρ with
  | some ρ' => .ok (.next ρ') μ
  | none => .stuck
def storeT (G : Ctx) (tg : Expr) (d : D) (ρ : Sl) : M Fl := fun μ => match gD G tg d ρ with
  | some ρ' => .ok (.next ρ') μ
  | none => .stuck
def setD (o i v : D) : M Unit := fun μ => match o, i with
  | .cell c, .int k => match μ[c]? with
    | some (.lst xs) => match ixN xs.length k with
      | some j => .ok () (μ.set c (.lst (xs.set j v)))
      | none => .stuck
    | _ => .stuck
  | _, _ => .stuck
/-- which way (a, b) = (e, f) goes: 0 by a tuple, 1 by swapped stores, 2 none -/
def swNames (sc : Scope) (line : Nat) (ts : List Expr) : List Str := ts.filterMap fun
  | .Name id pos => if sc.names.lookup id == some .local && pos.line == line then some id else none
  | _ => none
def swKind (sc : Scope) (ts vs : List Expr) : Nat :=
  if (!(ts.length == 2 || ts.length == 3) || vs.length != ts.length || sc.kind != .function) = true then 0
  else if (vs.any fun | .Starred .. => true | _ => false) = true then 0
  else if ((swNames sc ((ts.head?.map (·.pos.line)).getD 0) ts).length != ts.length || (swNames sc ((ts.head?.map (·.pos.line)).getD 0) ts).eraseDups.length != (swNames sc ((ts.head?.map (·.pos.line)).getD 0) ts).length) = true then 0
  else if vs.all (foldedForSure 8) = true then 0
  else if vs.all (constantsAlone 8) = true then 2 else 1
/-- a, b = e, f: both stored at once -/
def store2 (G : Ctx) (x y : Str) (ds : List D) (ρ : Sl) : M Fl := fun μ => match ds with
  | [d1, d2] => match (gN G x d1 ρ).bind fun ρ1 => gN G y d2 ρ1 with
    | some ρ' => .ok (.next ρ') μ
    | none => .stuck
  | _ => .stuck
def canN (G : Ctx) (x : Str) : Bool := (G.ix x).isSome && (G.sc.names.lookup x == some .local || (G.sc.names.lookup x == some .cell && G.own x))
def swapD (r : Dn) (G : Ctx) (ts vs : List Expr) (ρ : Sl) : M Fl := match ts, vs with
  | [.Name x _, .Name y _], [a, b] => if G.N.idxOf x ≠ G.N.idxOf y ∧ G.sc.names.lookup x = some .local ∧ G.sc.names.lookup y = some .local ∧ noStar [a, b] = true ∧ canN G x = true ∧ canN G y = true ∧ swNames G.sc ((ts.head?.map (·.pos.line)).getD 0) ts = [x, y] then withX ρ (aD r G [a, b] ρ) (fun ds => store2 G x y ds ρ) else stuck
  | _, _ => stuck
def asgN1 (r : Dn) (G : Ctx) (x : Str) (e : Expr) (ρ : Sl) : M Fl := match e with
  | .ListComp elt gs sc pos => withX ρ (lcE r G elt gs sc pos ρ) (fun d => storeN G x d ρ)
  | .SetComp _ _ _ _ => stuck
  | .DictComp _ _ _ _ _ => stuck
  | e => withX ρ (r.e G e ρ) (fun d => storeN G x d ρ)
def asgN (r : Dn) (G : Ctx) (x : Str) (e : Expr) (ρ : Sl) : M Fl := if canN G x = true then asgN1 r G x e ρ else stuck
def asgT (r : Dn) (G : Ctx) (tg : Expr) (ts : List Expr) (e : Expr) (ρ : Sl) : M Fl := match e with
  | .Tuple vs _ _ => if swKind G.sc ts vs = 0 then withX ρ (r.e G e ρ) (fun d => storeT G tg d ρ) else if swKind G.sc ts vs = 1 then swapD r G ts vs ρ else stuck
  | .ListComp _ _ _ _ => stuck
  | .SetComp _ _ _ _ => stuck
  | .DictComp _ _ _ _ _ => stuck
  | e => withX ρ (r.e G e ρ) (fun d => storeT G tg d ρ)
def asgD (r : Dn) (G : Ctx) (tg e : Expr) (ρ : Sl) : M Fl := match tg with
  | .Name x _ => asgN r G x e ρ
  | .Tuple ts k p => if G.hot = false then asgT r G (.Tuple ts k p) ts e ρ else stuck
  | .Subscript o i _ => if isComp e = false ∧ isSlice i = false then withX ρ (do let v ← r.e G e ρ; let x ← r.e G o ρ; let k ← r.e G i ρ; setD x k v) (fun _ => yes (.next ρ)) else stuck
  | _ => stuck
def loopD (G : Ctx) (tg : Expr) (body : Sl → M Fl) : List D → Sl → M Fl
  | [], ρ => yes (.next ρ)
  | d :: ds, ρ => match gD G tg d ρ with
    | none => stuck
    | some ρ1 => do
      let fl ← body ρ1
      match fl with
      | .next ρ' => loopD G tg body ds ρ'
      | .cont ρ' => loopD G tg body ds ρ'
      | .brk ρ' => yes (.next ρ')
      | .ret d => yes (.ret d)
      | .exc e ρ' => yes (.exc e ρ')
def forD (r : Dn) (G : Ctx) (tg iter : Expr) (body : List Stmt) (ρ : Sl) : M Fl :=
  if G.hot = false ∧ notSet iter = true then withX ρ (iD r G tg iter ρ) (fun ds => loopD G tg (r.s G body) ds ρ) else stuck
def raiseD (G : Ctx) (e : Option Expr) (ρ : Sl) : M Fl := match e with
  | some (.Call (.Name x _) [.Constant (.str _) _ _] [] _) => if G.xc x = true ∧ G.hot = false ∧ okName x = true ∧ glB G.sc x = true then yes (.exc ⟨x, []⟩ ρ) else stuck
  | _ => stuck
def noF (x : M Fl) : M Fl := fun μ => match x μ with
  | .ok (.exc _ _) _ => .stuck
  | r => r
def catchD (x : M Fl) (k : Ex → Sl → M Fl) : M Fl := fun μ => match x μ with
  | .ok (.exc e ρ') μ' => k e ρ' μ'
  | r => r
def catK (r : Dn) (G : Ctx) (c : Str) (suite : List Stmt) (e : Ex) (ρ : Sl) : M Fl := match G.cat c e.cls with
  | some true => noF (r.s (hotG G) suite ρ)
  | some false => yes (.exc e ρ)
  | none => stuck
def tryD (r : Dn) (G : Ctx) (body : List Stmt) (hs : List ExceptHandler) (ρ : Sl) : M Fl := match hs with
  | [.ExceptHandler (some (.Name c _)) none (b0 :: suite) _] => if okName c = true ∧ glB G.sc c = true ∧ G.hot = false ∧ (G.cat c c).isSome = true then catchD (r.s G body ρ) (catK r G c (b0 :: suite)) else stuck
  | _ => stuck
def stmD (r : Dn) (G : Ctx) (st : Stmt) (ρ : Sl) : M Fl := match st with
  | .Pass _ => yes (.next ρ)
  | .Break _ => yes (.brk ρ)
  | .Continue _ => yes (.cont ρ)
  | .Expr e _ => if isComp e = false then withX ρ (r.e G e ρ) (fun _ => yes (.next ρ)) else stuck
  | .Return (some e) _ => withX ρ (r.e G e ρ) (fun d => yes (.ret d))
  | .Return none _ => yes (.ret .non)
  | .If c a b _ => withX ρ (r.t G c ρ) (fun k => match k with
    | true => r.s G a ρ
    | false => r.s G b ρ)
  | .Assign [tg] e _ => asgD r G tg e ρ
  | .For tg iter body [] _ => forD r G tg iter body ρ
  | .Raise e none _ => raiseD G e ρ
  | .Try body hs [] [] _ => tryD r G body hs ρ
  | _ => stuck
def sD (r : Dn) (G : Ctx) : List Stmt → Sl → M Fl
  | [], ρ => yes (.next ρ)
  | st :: rest, ρ => do
    let fl ← stmD r G st ρ
    match fl with
    | .next ρ' => sD r G rest ρ'
    | .brk ρ' => yes (.brk ρ')
    | .cont ρ' => yes (.cont ρ')
    | .ret d => yes (.ret d)
    | .exc e ρ' => yes (.exc e ρ')
def stepD (r : Dn) : Dn := { e := stepE2 r, t := stepT r, s := sD r }
def den : Nat → Dn
  | 0 => { e := fun _ _ _ => stuck, t := fun _ _ _ => stuck, s := fun _ _ _ => stuck }
  | n + 1 => stepD (den n)

structure DnOk (W : Wd) (r : Dn) : Prop where
  en : EnOk W r
  s : ∀ {X : Cx} {Z : WX} {G : Ctx}, SOk W X Z G → ∀ ss : List Stmt, PSs X ss (TSof W Z (r.s G ss))

section
variable {W : Wd} {Z : WX} {X : Cx} {G : Ctx} {σ : St} {H : Hp} {D : Ends} {r : Dn}
theorem ts_none {f : Sl → M Fl} (e : ∀ ρ, f ρ = stuck) : ∀ {D σ H}, TSof W Z f D σ H → False := fun ⟨ρ, m, _, _, _, w⟩ => by rw [e] at w; exact w
theorem ts_if {c : Prop} [Decidable c] {f : Sl → M Fl} (h : TSof W Z (fun ρ => if c then f ρ else stuck) D σ H) : c ∧ TSof W Z f D σ H := by
  obtain ⟨ρ, m, e, g, rr, w⟩ := h
  by_cases hc : c
  · refine ⟨hc, ρ, m, e, g, rr, ?_⟩
    simp only [hc, ↓reduceIte] at w
    exact w
  · simp only [hc, ↓reduceIte] at w
    exact (show False from w).elim
theorem withX_wp {α : Type} {m : Mem} {ρ : Sl} {x : M α} {k : α → M Fl} (rr : EnvOk W m ρ σ) (w : wpR W m (fun _ _ => False) (FlOk W Z D) (withX ρ x k m.μ)) :
    wpR W m (EWish W Z σ) (fun a m1 => wpR W m1 (fun _ _ => False) (FlOk W Z D) (k a m1.μ)) (x m.μ) := by
  unfold withX at w
  cases q : x m.μ with
  | stuck => rw [q] at w; exact w
  | exc e μ' =>
    rw [q] at w
    intro m1 s1 g1 e1 cls dx hx
    exact w m1 s1 g1 e1 σ cls dx (rr.mono s1) hx
  | ok a μ' =>
    rw [q] at w
    intro m1 s1 g1 e1
    rw [e1]
    exact w.behind s1
theorem ok_fl {m : Mem} {fl : Fl} (g : Okm W m) (w : wpR W m (fun _ _ => False) (FlOk W Z D) (.ok fl m.μ)) : FlOk W Z D fl m := w m (Step.refl m) g rfl
theorem noswap {e : Expr} (h : isComp e = false) (tg : Option Expr) (l : Nat) (env : Env) : swapsWith e tg l env = pure false := by
  unfold swapsWith
  cases e <;> first | rfl | cases h
theorem ps_expD (R : EnOk W r) (ok : EOk W X Z G) (e : Expr) (pos : Pos) : PS X (.Expr e pos) (TSof W Z (stmD r G (.Expr e pos))) := by
  by_cases hc : isComp e = false
  · refine PS.weak (ps_expr (R.e ok e) (noswap hc none _ _)) fun D σ H h => ?_
    obtain ⟨ρ, m, ee, g, rr, w⟩ := (ts_if h).2
    exact ⟨ρ, m, ee, g, rr, (withX_wp rr w).mono (fun _ _ _ _ z => z) fun d m1 s1 g1 w1 v hv => ok_fl g1 w1 σ (rr.mono s1)⟩
  · exact PS.weak PS.any fun D σ H h => hc (ts_if h).1
theorem ps_retD (R : EnOk W r) (ok : EOk W X Z G) (e : Expr) (pos : Pos) : PS X (.Return (some e) pos) (TSof W Z (stmD r G (.Return (some e) pos))) := by
  refine PS.weak (ps_ret (R.e ok e)) fun D σ H h => ?_
  obtain ⟨ρ, m, ee, g, rr, w⟩ := h
  exact ⟨ρ, m, ee, g, rr, (withX_wp rr w).mono (fun _ _ _ _ z => z) fun d m1 s1 g1 w1 v hv => ok_fl g1 w1 v hv⟩
theorem ps_ifD (R : DnOk W r) (ok : SOk W X Z G) (c : Expr) (a b : List Stmt) (pos : Pos) : PS X (.If c a b pos) (TSof W Z (stmD r G (.If c a b pos))) := by
  refine PS.weak (ps_if (R.en.t ok.e c) (R.s ok a) (R.s ok b)) fun D σ H h => ?_
  obtain ⟨ρ, m, ee, g, rr, w⟩ := h
  refine ⟨ρ, m, ee, g, rr, (withX_wp rr w).mono (fun _ _ _ _ z => z) fun k m1 s1 g1 w1 => ?_⟩
  cases k with
  | true => show (if true = true then _ else _); rw [if_pos rfl]; exact ⟨ρ, m1, rfl, g1, rr.mono s1, w1⟩
  | false => show (if false = true then _ else _); rw [if_neg Bool.false_ne_true]; exact ⟨ρ, m1, rfl, g1, rr.mono s1, w1⟩
/-! ### stores -/
theorem storeN_out {m : Mem} {x : Str} {d : Pu.D} {v : V} {ρ : Sl} {i : Nat} (hi : G.ix x = some i) (g : Okm W m) (rr : EnvOk W m ρ σ) (hv : Den W m d v) (w : wpR W m (fun _ _ => False) (FlOk W Z D) (storeN G x d ρ m.μ)) : D.nx (σ.set i (some v)) m.H := by
  unfold storeN at w
  cases q : gN G x d ρ with
  | none => rw [q] at w; exact w.elim
  | some ρ' =>
    rw [q] at w
    obtain ⟨j, e1, e2, _, e4⟩ := gN_ix q
    rw [hi] at e1; cases e1
    subst e4
    exact ok_fl g w _ (rr.set i hv)
theorem swB_lc {elt : Expr} {gs : List Comprehension} {sc : Scope} {lp p : Pos} {x : Str} {l : Nat} {env : Env} : ∃ b : Bool, swapsWith (.ListComp elt gs sc lp) (some (.Name x p)) l env = pure b ∧ (b = true → env.kindOf x = some .local) := by
  refine ⟨env.blockKind == .function && env.kindOf x == some .local && p.line == lp.line && !(sc.names.any fun (n, k) => n == x && (k == .local || k == .cell)), rfl, fun h => ?_⟩
  simp only [Bool.and_eq_true, beq_iff_eq] at h
  exact h.1.1.2
theorem ps_asgN (R : EnOk W r) (ok : EOk W X Z G) (x : Str) (p : Pos) (e : Expr) (pos : Pos) : PS X (.Assign [.Name x p] e pos) (TSof W Z (asgN r G x e)) := by
  by_cases hz : canN G x = true
  · refine PS.weak (?_ : PS X (.Assign [.Name x p] e pos) (TSof W Z (asgN1 r G x e))) fun D σ H h => (ts_if h).2
    obtain ⟨i, h1, h2⟩ : ∃ i, G.ix x = some i ∧ (G.sc.names.lookup x = some .local ∨ (G.sc.names.lookup x = some .cell ∧ G.own x = true)) := by
      unfold canN at hz
      simp only [Bool.and_eq_true, Bool.or_eq_true, beq_iff_eq, Option.isSome_iff_exists] at hz
      obtain ⟨⟨i, z1⟩, z2⟩ := hz
      exact ⟨i, z1, z2⟩
    rw [← ok.sc] at h2
    have h2' : Loc X.env.scope x := h2.elim .inl fun z => .inr z.1
    have hf : X.fn x = true ∨ X.env.scope.names.lookup x = some .local := by
      rcases h2 with z | z
      · exact .inr z
      · exact .inl (by rw [ok.own]; exact z.2)
    have hN : X.N[i]? = some x := by rw [ok.N]; exact Ctx.ix_at h1
    have fin : ∀ {f : Sl → M Pu.D} {D σ H}, TSof W Z (fun ρ => withX ρ (f ρ) (fun d => storeN G x d ρ)) D σ H → tAsg (TEof W Z f) (gName i) D σ H := by
      rintro f D σ H ⟨ρ, m, ee, g, rr, w⟩
      exact ⟨ρ, m, ee, g, rr, (withX_wp rr w).mono (fun _ _ _ _ z => z) fun d m1 s1 g1 w1 v hv => storeN_out h1 g1 (rr.mono s1) hv w1⟩
    cases e with
    | ListComp elt gs sc lp =>
      obtain ⟨b, hb, hb2⟩ := swB_lc (elt := elt) (gs := gs) (sc := sc) (lp := lp) (p := p) (x := x) (l := pos.line) (env := X.env)
      cases b with
      | false => exact PS.weak (ps_set ok.nd hN h2' (pe_lcE R ok elt gs sc lp) hb hf) fun D σ H h => fin h
      | true =>
        have hl : X.env.scope.names.lookup x = some .local := hb2 rfl
        match gs, hb with
        | [], _ => exact PS.weak PS.any fun D σ H h => te_none (f := fun _ => stuck) (fun _ => rfl) (fin h)
        | _ :: _ :: _, _ => exact PS.weak PS.any fun D σ H h => te_none (f := fun _ => stuck) (fun _ => rfl) (fin h)
        | [⟨tg, iter, ifs, k⟩], hb =>
          by_cases hk : k = 0
          · subst hk
            exact PS.weak (ps_compD R (fun ok tg iter => pi_D R ok tg iter) ok hN hl hb) fun D σ H h => fin h
          · exact PS.weak PS.any fun D σ H h => hk (te_if (fin h)).1
    | SetComp _ _ _ _ => exact PS.weak PS.any fun D σ H h => ts_none (f := fun _ => stuck) (fun _ => rfl) h
    | DictComp _ _ _ _ _ => exact PS.weak PS.any fun D σ H h => ts_none (f := fun _ => stuck) (fun _ => rfl) h
    | _ => exact PS.weak (ps_set ok.nd hN h2' (R.e ok _) (noswap rfl _ _ _) hf) fun D σ H h => fin h
  · exact PS.weak PS.any fun D σ H h => hz (ts_if h).1
theorem storeT_out {m : Mem} {tg : Expr} {d : Pu.D} {v : V} {ρ : Sl} (g : Okm W m) (rr : EnvOk W m ρ σ) (hv : Den W m d v) (w : wpR W m (fun _ _ => False) (FlOk W Z D) (storeT G tg d ρ m.μ)) : TGp W (gslots G tg) (gD G tg) v σ m.H D.nx := by
  unfold storeT at w
  cases q : gD G tg d ρ with
  | none => rw [q] at w; exact w.elim
  | some ρ' =>
    rw [q] at w
    exact ⟨ρ, m, d, ρ', rfl, g, rr, hv, q, fun σ' r' _ => ok_fl g w σ' r'⟩
theorem swap_kind {sc : Scope} {env : Env} (he : env.scope = sc) (hk : sc.kind = .function) (ts vs : List Expr) (k k2 : Nat) (p p2 : Pos) :
    (swKind sc ts vs = 0 → swappedStores [.Tuple ts k p] (.Tuple vs k2 p2) env = pure none) ∧ (swKind sc ts vs = 1 → swappedStores [.Tuple ts k p] (.Tuple vs k2 p2) env = pure (some (swNames sc ((ts.head?.map (·.pos.line)).getD 0) ts))) := by
  have hb : env.blockKind = .function := by
    unfold Env.blockKind
    rw [he, hk]
    rfl
  subst he
  have key : swappedStores [.Tuple ts k p] (.Tuple vs k2 p2) env = (if (!(ts.length == 2 || ts.length == 3) || vs.length != ts.length || env.blockKind != .function) = true then pure none
    else if (vs.any fun | .Starred .. => true | _ => false) = true then pure none
    else if ((swNames env.scope ((ts.head?.map (·.pos.line)).getD 0) ts).length != ts.length || (swNames env.scope ((ts.head?.map (·.pos.line)).getD 0) ts).eraseDups.length != (swNames env.scope ((ts.head?.map (·.pos.line)).getD 0) ts).length) = true then pure none
    else if vs.all (foldedForSure 8) = true then pure none
    else if vs.all (constantsAlone 8) = true then (do unsupported "assign.tuple-of-constant-expressions:order-of-the-stores"; pure (some (swNames env.scope ((ts.head?.map (·.pos.line)).getD 0) ts))) else pure (some (swNames env.scope ((ts.head?.map (·.pos.line)).getD 0) ts))) := rfl
  rw [key, hb]
  unfold swKind
  rw [hk]
  generalize swNames env.scope ((ts.head?.map (·.pos.line)).getD 0) ts = names
  constructor
  · intro h
    split at h
    · rename_i c; rw [if_pos c]
    · rename_i c
      rw [if_neg c]
      split at h
      · rename_i c; rw [if_pos c]
      · rename_i c
        rw [if_neg c]
        split at h
        · rename_i c; rw [if_pos c]
        · rename_i c
          rw [if_neg c]
          split at h
          · rename_i c; rw [if_pos c]
          · split at h <;> cases h
  · intro h
    split at h
    · cases h
    · rename_i c
      rw [if_neg c]
      split at h
      · cases h
      · rename_i c
        rw [if_neg c]
        split at h
        · cases h
        · rename_i c
          rw [if_neg c]
          split at h
          · cases h
          · rename_i c
            rw [if_neg c]
            split at h
            · cases h
            · rename_i c
              rw [if_neg c]
theorem canN_ix {x : Str} (hz : canN G x = true) : ∃ i, G.ix x = some i ∧ i = G.N.idxOf x ∧ (G.sc.names.lookup x = some .local ∨ (G.sc.names.lookup x = some .cell ∧ G.own x = true)) := by
  unfold canN at hz
  simp only [Bool.and_eq_true, Bool.or_eq_true, beq_iff_eq, Option.isSome_iff_exists] at hz
  obtain ⟨⟨i, z1⟩, z2⟩ := hz
  refine ⟨i, z1, ?_, z2⟩
  unfold Ctx.ix at z1
  split at z1
  · exact (Option.some.inj z1).symm
  · cases z1
theorem ps_swapD (R : EnOk W r) (ok : SOk W X Z G) (h4 : G.hot = false) (ts vs : List Expr) (k k2 : Nat) (p p2 pos : Pos) (hk : swKind G.sc ts vs = 1) : PS X (.Assign [.Tuple ts k p] (.Tuple vs k2 p2) pos) (TSof W Z (swapD r G ts vs)) := by
  have none_of : (∀ ρ, swapD r G ts vs ρ = stuck) → PS X (.Assign [.Tuple ts k p] (.Tuple vs k2 p2) pos) (TSof W Z (swapD r G ts vs)) := fun z => PS.weak PS.any fun D σ H h => ts_none z h
  by_cases hm : ∃ x px y py a b, ts = [.Name x px, .Name y py] ∧ vs = [a, b]
  · obtain ⟨x, px, y, py, a, b, rfl, rfl⟩ := hm
    by_cases hz : G.N.idxOf x ≠ G.N.idxOf y ∧ G.sc.names.lookup x = some .local ∧ G.sc.names.lookup y = some .local ∧ noStar [a, b] = true ∧ canN G x = true ∧ canN G y = true ∧ swNames G.sc (([Expr.Name x px, .Name y py].head?.map (·.pos.line)).getD 0) [.Name x px, .Name y py] = [x, y]
    · refine PS.weak (?_ : PS X _ (TSof W Z fun ρ => withX ρ (aD r G [a, b] ρ) (fun ds => store2 G x y ds ρ))) fun D σ H h => (ts_if h).2
      obtain ⟨hne, hx, hy, hs, c1, c2, hnames⟩ := hz
      obtain ⟨i, q1, e1, _⟩ := canN_ix c1
      obtain ⟨j, q2, e2, _⟩ := canN_ix c2
      have hw := (swap_kind (env := X.env) ok.e.sc ok.kind [.Name x px, .Name y py] [a, b] k k2 p p2).2 hk
      rw [hnames] at hw
      refine PS.weak (ps_par (ok.e.calm h4) ok.e.nd (by rw [ok.e.N]; exact Ctx.ix_at q1) (by rw [ok.e.N]; exact Ctx.ix_at q2) (by rw [e1, e2]; exact hne) (by rw [ok.e.sc]; exact hx) (by rw [ok.e.sc]; exact hy) (pa_D R ok.e hs) hw rfl) fun D σ H h => ?_
      obtain ⟨ρ, m, ee, g, rr, w⟩ := h
      refine ⟨ρ, m, ee, g, rr, (withX_wp rr w).mono (fun _ _ _ _ z => z) fun ds m1 s1 g1 w1 vs hvs => ?_⟩
      unfold store2 at w1
      split at w1
      · rename_i d1 d2
        obtain ⟨v1, v2, rfl, h1, h2⟩ := dl2 hvs
        refine ⟨v1, v2, rfl, ?_⟩
        split at w1
        · rename_i ρ' e3
          cases q3 : gN G x d1 ρ with
          | none => rw [q3] at e3; cases e3
          | some ρ1 =>
            rw [q3] at e3
            obtain ⟨i', f1, _, _, f4⟩ := gN_ix q3
            obtain ⟨j', f5, _, _, f8⟩ := gN_ix (show gN G y d2 ρ1 = some ρ' from e3)
            rw [q1] at f1; cases f1
            rw [q2] at f5; cases f5
            subst f8 f4
            exact ok_fl g1 w1 _ (((rr.mono s1).set i h1).set j h2)
        · exact w1.elim
      · exact w1.elim
    · exact PS.weak PS.any fun D σ H h => hz (ts_if h).1
  · refine none_of fun ρ => ?_
    unfold swapD
    split
    · exact absurd ⟨_, _, _, _, _, _, rfl, rfl⟩ hm
    · rfl
theorem ps_asgT (R : EnOk W r) (ok : SOk W X Z G) (h4 : G.hot = false) (ts : List Expr) (k : Nat) (p : Pos) (e : Expr) (pos : Pos) : PS X (.Assign [.Tuple ts k p] e pos) (TSof W Z (asgT r G (.Tuple ts k p) ts e)) := by
  have fin : ∀ {f : Sl → M Pu.D} {D σ H}, TSof W Z (fun ρ => withX ρ (f ρ) (fun d => storeT G (.Tuple ts k p) d ρ)) D σ H → tAsg (TEof W Z f) (TGp W (gslots G (.Tuple ts k p)) (gD G (.Tuple ts k p))) D σ H := by
    rintro f D σ H ⟨ρ, m, ee, g, rr, w⟩
    exact ⟨ρ, m, ee, g, rr, (withX_wp rr w).mono (fun _ _ _ _ z => z) fun d m1 s1 g1 w1 v hv => storeT_out g1 (rr.mono s1) hv w1⟩
  have plain : isComp e = false → swappedStores [.Tuple ts k p] e X.env = pure none → PS X (.Assign [.Tuple ts k p] e pos) (tAsg (TEof W Z (r.e G e)) (TGp W (gslots G (.Tuple ts k p)) (gD G (.Tuple ts k p)))) := fun hc hw =>
    ps_asg (R.e ok.e e) (pg_gD ok.e (ok.e.calm h4) (.Tuple ts k p)) (show swapsWith e (some (.Tuple ts k p)) pos.line X.env = pure false from noswap hc _ _ _) hw rfl
  cases e with
  | Tuple vs k2 p2 =>
    by_cases h0 : swKind G.sc ts vs = 0
    · refine PS.weak (plain rfl ((swap_kind ok.e.sc ok.kind ts vs k k2 p p2).1 h0)) fun D σ H h => fin ?_
      obtain ⟨ρ, m, ee, g, rr, w⟩ := h
      unfold asgT at w
      simp only [h0, ↓reduceIte] at w
      exact ⟨ρ, m, ee, g, rr, w⟩
    · by_cases h1 : swKind G.sc ts vs = 1
      · refine PS.weak (ps_swapD R ok h4 ts vs k k2 p p2 pos h1) fun D σ H h => ?_
        obtain ⟨ρ, m, ee, g, rr, w⟩ := h
        unfold asgT at w
        simp only [h1, ↓reduceIte, Nat.one_ne_zero] at w
        exact ⟨ρ, m, ee, g, rr, w⟩
      · refine PS.weak PS.any fun D σ H h => ?_
        obtain ⟨ρ, m, ee, g, rr, w⟩ := h
        unfold asgT at w
        simp only [h0, h1, ↓reduceIte] at w
        exact w
  | ListComp _ _ _ _ => exact PS.weak PS.any fun D σ H h => ts_none (f := fun _ => stuck) (fun _ => rfl) h
  | SetComp _ _ _ _ => exact PS.weak PS.any fun D σ H h => ts_none (f := fun _ => stuck) (fun _ => rfl) h
  | DictComp _ _ _ _ _ => exact PS.weak PS.any fun D σ H h => ts_none (f := fun _ => stuck) (fun _ => rfl) h
  | _ => exact PS.weak (plain rfl rfl) fun D σ H h => fin h
/-! ### o[i] = v, o a cell -/
theorem set_D {m : Mem} {o i v : Pu.D} {x y z : V} {Qh : Hp → Prop} {E : Ex → Mem → Prop} (g : Okm W m) (ho : Den W m o x) (hi : Den W m i y) (hv : Den W m v z) (w : wpR W m E (fun _ m' => Qh m'.H) (setD o i v m.μ)) : rSetL x y z m.H Qh := by
  unfold setD at w
  split at w
  · rename_i c k
    split at w
    · rename_i xs e1
      split at w
      · rename_i j e2
        cases den_int hi
        cases ho with
        | @cell _ a h1 =>
          obtain ⟨vs, h2, l⟩ := g.ok c _ a e1 h1
          have lv : m.live a := .inl ⟨c, _, h1, e1, fun z => nomatch z⟩
          refine ⟨a, vs, k, j, rfl, rfl, h2, by rw [← l.length]; exact e2, ?_⟩
          have st : Step m (m.wr c a (.lst (vs.set j z)) (.lst (xs.set j v))) := step_wr g h1 lv
          exact w (m.wr c a (.lst (vs.set j z)) (.lst (xs.set j v))) st (good_wr g h1 lv ⟨_, upd_same, (l.set hv j).mono st⟩) rfl
      · exact w.elim
    · exact w.elim
  · exact w.elim
theorem ps_asgS (R : EnOk W r) (ok : EOk W X Z G) (o i : Expr) (p : Pos) (e : Expr) (pos : Pos) (hc : isComp e = false) (hs : isSlice i = false) :
    PS X (.Assign [.Subscript o i p] e pos) (TSof W Z fun ρ => withX ρ (do let v ← r.e G e ρ; let x ← r.e G o ρ; let k ← r.e G i ρ; setD x k v) (fun _ => yes (.next ρ))) := by
  have ha : ∀ v, assign (.Subscript o i p) X.env v = (do
      let ov ← holding [v] (eval o X.env)
      let iv ← holding [v, ov] (eval i X.env)
      standAt p
      holding [v, ov, iv] (setItem ov iv v)
      release [v, ov, iv] []) := by
    intro v
    cases i <;> first | rfl | cases hs
  have hw : swappedStores [.Subscript o i p] e X.env = pure none := by cases e <;> rfl
  refine PS.weak (ps_asg (R.e ok e) (pg_sub (R.e ok o) (R.e ok i) set_list ha) (show swapsWith e (some (.Subscript o i p)) pos.line X.env = pure false from noswap hc _ _ _) hw rfl) fun D σ H h => ?_
  obtain ⟨ρ, m, ee, g, rr, w⟩ := h
  have w0 := withX_wp rr w
  refine ⟨ρ, m, ee, g, rr, (wpR_bind w0).mono (fun _ _ _ _ z => z) fun v m1 s1 g1 w1 zv hzv => ?_⟩
  refine ⟨ρ, m1, rfl, g1, rr.mono s1, (wpR_bind w1).mono (fun _ _ _ _ z => z) fun x m2 s2 g2 w2 xv hxv => ?_⟩
  refine ⟨ρ, m2, rfl, g2, (rr.mono s1).mono s2, (wpR_bind w2).mono (fun _ _ _ _ z => z) fun k m3 s3 g3 w3 kv hkv => ?_⟩
  have r3 := ((rr.mono s1).mono s2).mono s3
  exact set_D g3 (hxv.mono s3) hkv ((hzv.mono s2).mono s3) (w3.mono (fun _ _ _ _ z => z) fun _ m4 s4 g4 w4 => ok_fl g4 w4 σ (r3.mono s4))
/-! ### for -/
theorem ps_forD (R : DnOk W r) (ok : SOk W X Z G) (tg iter : Expr) (body : List Stmt) (pos : Pos) : PS X (.For tg iter body [] pos) (TSof W Z (forD r G tg iter body)) := by
  by_cases hz : G.hot = false ∧ notSet iter = true
  · obtain ⟨h4, hn⟩ := hz
    have hs : ∀ x, foldedSetIterable iter X.env x = pure x := by
      intro x
      unfold foldedSetIterable
      cases iter <;> first | rfl | cases hn
    refine PS.weak (ps_for ok.pass (ok.e.calm h4) (pi_D R.en ok.e tg iter) (pg_gD ok.e (ok.e.calm h4) tg) (R.s ok body) hs) fun D σ H h => ?_
    obtain ⟨ρ, m, ee, g, rr, w⟩ := (ts_if h).2
    refine ⟨ρ, m, ee, g, rr, (withX_wp rr w).mono (fun _ _ _ _ z => z) fun ds m1 s1 g1 w1 J itm => ?_⟩
    let Iv : Nat → St → Hp → Prop := fun i σ' H' => ∃ mm ρ', mm.H = H' ∧ Okm W mm ∧ Step m1 mm ∧ EnvOk W mm ρ' σ' ∧ wpR W mm (fun _ _ => False) (FlOk W Z D) (loopD G tg (r.s G body) (ds.drop i) ρ' mm.μ)
    refine ⟨fun i k σ' H' => k = ds.length - i ∧ i ≤ ds.length ∧ Iv i σ' H', ⟨ds.length, by simp, Nat.zero_le _, m1, ρ, rfl, g1, Step.refl m1, rr.mono s1, w1⟩, ?_⟩
    rintro i k σ' H' ⟨rfl, hi, mm, ρ', rfl, gm, sm, rm, wm⟩
    by_cases hlt : i < ds.length
    · refine .inr ⟨itm.go i mm sm.up gm hlt, Iv (i + 1), fun σ2 H2 z => ⟨ds.length - (i + 1), by omega, rfl, hlt, z⟩, fun x H2 y => ?_⟩
      obtain ⟨m2, d, rfl, s2, g2, e2, _, e3, hd⟩ := itm.yld i mm x H2 sm.up gm hlt y
      have hdrop : ds.drop i = d :: ds.drop (i + 1) := by
        obtain ⟨hi', he⟩ := List.getElem?_eq_some_iff.mp e3
        rw [← he]
        exact List.drop_eq_getElem_cons hi'
      rw [hdrop] at wm
      unfold loopD at wm
      cases q1 : gD G tg d ρ' with
      | none => rw [q1] at wm; exact (show False from wm).elim
      | some ρ1 =>
        rw [q1] at wm
        refine ⟨ρ', m2, d, ρ1, rfl, g2, rm.mono s2, hd, q1, fun σ2 r2 _ => ?_⟩
        refine ⟨ρ1, m2, rfl, g2, r2, ?_⟩
        have wm2 := (wpR_bind wm).behind s2
        rw [← e2] at wm2
        refine wm2.mono (fun _ _ _ _ z => z) fun fl m3 s3 g3 w3 => ?_
        have sm3 : Step m1 m3 := (sm.trans s2).trans s3
        cases fl with
        | next ρ2 => exact fun σ3 r3 => ⟨m3, ρ2, rfl, g3, sm3, r3, w3⟩
        | cont ρ2 => exact fun σ3 r3 => ⟨m3, ρ2, rfl, g3, sm3, r3, w3⟩
        | brk ρ2 => exact ok_fl g3 w3
        | ret d2 => exact ok_fl g3 w3
        | exc e ρ2 => exact ok_fl g3 w3
    · have ei : i = ds.length := by omega
      subst ei
      refine .inl ⟨itm.stop mm sm.up gm, ?_⟩
      rw [List.drop_length] at wm
      exact ok_fl gm wm σ' rm
  · exact PS.weak PS.any fun D σ H h => hz (ts_if h).1
/-! ### raise, try -/
theorem ps_raiseD (ok : SOk W X Z G) (e : Option Expr) (pos : Pos) : PS X (.Raise e none pos) (TSof W Z (raiseD G e)) := by
  by_cases hm : ∃ x p s j p2 p3, e = some (.Call (.Name x p) [.Constant (.str s) j p2] [] p3)
  · obtain ⟨x, p, s, j, p2, p3, rfl⟩ := hm
    by_cases hz : G.xc x = true ∧ G.hot = false ∧ okName x = true ∧ glB G.sc x = true
    · obtain ⟨h1, h2, h3, h4⟩ := id hz
      obtain ⟨c1, c2, c3, c4, c5⟩ := ok.e.g.xc x h1
      rw [← ok.e.K] at c2 c3 c4 c5
      refine PS.weak (ps_raise (ok.e.calm h2) ok.e.tk (pmk_own PySem.F.excBase_ValueError c3 c1 c2 (raises_own c4 c5) (gl_of ok.e h4) (okName_1 h3))) fun D σ H h => ?_
      obtain ⟨ρ, m, ee, g, rr, w⟩ := (ts_if h).2
      subst ee
      exact ok_fl g w σ _ _ rr ⟨rfl, .inl ⟨rfl, rfl⟩⟩
    · exact PS.weak PS.any fun D σ H h => hz (ts_if h).1
  · refine PS.weak PS.any fun D σ H h => ts_none (f := raiseD G e) (fun ρ => ?_) h
    unfold raiseD
    split
    · exact absurd ⟨_, _, _, _, _, _, rfl⟩ hm
    · rfl
theorem sok_tr (ok : SOk W X Z G) {V : WX} {pn : List (Addr × Obj)} {xe : Value → Shared → Prop} (tk : Takes (X.tr pn xe) V) (ps : PassesOwn (model X.prog X.w) X.A X.env xe) : SOk W (X.tr pn xe) V G :=
  ⟨⟨ok.e.K, ok.e.N, ok.e.nd, ok.e.sc, ok.e.own, tk, ok.e.calm, ok.e.room, ok.e.un, ok.e.gd, ok.e.g⟩, ps, ok.stk, ok.frm, ok.kind⟩
theorem sok_suite (ok : SOk W X Z G) (a : Addr) (pn : List (Addr × Obj)) : SOk W (X.suite a pn) (fun _ _ _ _ => False) (hotG G) :=
  ⟨⟨ok.e.K, ok.e.N, ok.e.nd, ok.e.sc, ok.e.own, takes0, (fun z => nomatch z), (fun z => nomatch z), ok.e.un, ok.e.gd, ⟨ok.e.g.glob, ok.e.g.bl, ok.e.g.fn, ok.e.g.xc, ok.e.g.cat⟩⟩, PassesOwn.never, ok.stk, ok.frm, ok.kind⟩
end
end Pu

set_option Elab.async false
set_option linter.all false
set_option maxRecDepth 100000
/-! Pu13: try; every statement; the den at every fuel. -/
namespace Pu
open PySem L2
section
variable {W : Wd} {Z : WX} {X : Cx} {G : Ctx} {σ : St} {H : Hp} {D : Ends} {r : Dn}
theorem noF_wp {m : Mem} {x : M Fl} (w : wpR W m (fun _ _ => False) (FlOk W Z D) (noF x m.μ)) : wpR W m (fun _ _ => False) (FlOk W (fun _ _ _ _ => False) D) (x m.μ) := by
  unfold noF at w
  cases q : x m.μ with
  | stuck => rw [q] at w; exact w
  | exc e μ' => rw [q] at w; exact w
  | ok fl μ' =>
    rw [q] at w
    cases fl with
    | exc e ρ => exact (show False from w).elim
    | next ρ => exact w
    | brk ρ => exact w
    | cont ρ => exact w
    | ret d => exact w
theorem ps_tryD (R : DnOk W r) (ok : SOk W X Z G) (body : List Stmt) (hs : List ExceptHandler) (pos : Pos) : PS X (.Try body hs [] [] pos) (TSof W Z (tryD r G body hs)) := by
  by_cases hm : ∃ c np b0 suite p2, hs = [.ExceptHandler (some (.Name c np)) none (b0 :: suite) p2]
  · obtain ⟨c, np, b0, suite, p2, rfl⟩ := hm
    by_cases hz : okName c = true ∧ glB G.sc c = true ∧ G.hot = false ∧ (G.cat c c).isSome = true
    · obtain ⟨h1, h2, h3, h4⟩ := id hz
      obtain ⟨b, hb⟩ := Option.isSome_iff_exists.mp h4
      have hmg := (ok.e.g.cat c c b hb).1
      have nm : Names X c (.ref (W.ca c)) := ⟨gl_of ok.e h2, okName_1 h1, .inl hmg⟩
      refine PS.weak (ps_try_only (tb := fun V => TSof W V (r.s G body)) (ts := fun _ _ _ => TSof W (fun _ _ _ _ => False) (r.s (hotG G) (b0 :: suite))) ok.stk ok.frm nm ok.e.tk (fun V pn xe tk ps => R.s (sok_tr ok tk ps) body) (fun a oe cls d pn _ _ => R.s (sok_suite ok a _) _)) fun D σ H h => ?_
      obtain ⟨ρ, m, ee, g, rr, w⟩ := (ts_if h).2
      refine ⟨ρ, m, ee, g, rr, ?_⟩
      replace w : wpR W m (fun _ _ => False) (FlOk W Z D) (catchD (r.s G body ρ) (catK r G c (b0 :: suite)) m.μ) := w
      unfold catchD at w
      cases q : r.s G body ρ m.μ with
      | stuck => rw [q] at w; exact w
      | exc e μ' => rw [q] at w; exact w
      | ok fl μ' =>
        rw [q] at w
        cases fl with
        | next ρ => exact w
        | brk ρ => exact w
        | cont ρ => exact w
        | ret d => exact w
        | exc e ρ' =>
          intro m1 s1 g1 e1 σ' cls dx r1 hx
          subst e1
          replace w : wpR W m (fun _ _ => False) (FlOk W Z D) (catK r G c (b0 :: suite) e ρ' m1.μ) := w
          unfold catK at w
          have hcls := hx.1
          cases qc : G.cat c e.cls with
          | none => rw [qc] at w; exact (show False from w).elim
          | some b =>
            have hex := (ok.e.g.cat c e.cls b qc).2
            rw [← hcls, ← ok.e.K] at hex
            cases b with
            | true =>
              rw [qc] at w
              exact ⟨true, hex, fun _ a _ => ⟨ρ', m1, rfl, g1, r1, noF_wp (w.behind s1)⟩, fun z => nomatch z⟩
            | false =>
              rw [qc] at w
              exact ⟨false, hex, (fun z => nomatch z), fun _ => w m1 s1 g1 rfl σ' cls dx r1 hx⟩
    · exact PS.weak PS.any fun D σ H h => hz (ts_if h).1
  · refine PS.weak PS.any fun D σ H h => ts_none (f := tryD r G body hs) (fun ρ => ?_) h
    unfold tryD
    split
    · exact absurd ⟨_, _, _, _, _, rfl⟩ hm
    · rfl
theorem ps_asgD (R : EnOk W r) (ok : SOk W X Z G) (tg e : Expr) (pos : Pos) : PS X (.Assign [tg] e pos) (TSof W Z (asgD r G tg e)) := by
  cases tg with
  | Name x p => exact ps_asgN R ok.e x p e pos
  | Tuple ts k p =>
    by_cases h4 : G.hot = false
    · exact PS.weak (ps_asgT R ok h4 ts k p e pos) fun D σ H h => (ts_if h).2
    · exact PS.weak PS.any fun D σ H h => h4 (ts_if h).1
  | Subscript o i p =>
    by_cases hz : isComp e = false ∧ isSlice i = false
    · exact PS.weak (ps_asgS R ok.e o i p e pos hz.1 hz.2) fun D σ H h => (ts_if h).2
    · exact PS.weak PS.any fun D σ H h => hz (ts_if h).1
  | _ => exact PS.weak PS.any fun D σ H h => ts_none (f := fun _ => stuck) (fun _ => rfl) h
theorem ps_stmD (R : DnOk W r) (ok : SOk W X Z G) (st : Stmt) : PS X st (TSof W Z (stmD r G st)) := by
  have none_of : (∀ ρ, stmD r G st ρ = stuck) → PS X st (TSof W Z (stmD r G st)) := fun z => PS.weak PS.any fun D σ H h => ts_none z h
  have nx : ∀ {D : Ends} {σ : St} {H : Hp} {k : Sl → Fl}, TSof W Z (fun ρ => yes (k ρ)) D σ H → ∃ ρ m, m.H = H ∧ EnvOk W m ρ σ ∧ FlOk W Z D (k ρ) m := fun ⟨ρ, m, ee, g, rr, w⟩ => ⟨ρ, m, ee, rr, ok_fl g w⟩
  cases st with
  | Pass p => exact PS.weak ps_pass fun D σ H h => by obtain ⟨ρ, m, rfl, rr, q⟩ := nx (k := .next) h; exact q σ rr
  | Break p => exact PS.weak ps_break fun D σ H h => by obtain ⟨ρ, m, rfl, rr, q⟩ := nx (k := .brk) h; exact q σ rr
  | Continue p => exact PS.weak ps_continue fun D σ H h => by obtain ⟨ρ, m, rfl, rr, q⟩ := nx (k := .cont) h; exact q σ rr
  | Expr e p => exact ps_expD R.en ok.e e p
  | Return o p =>
    cases o with
    | some e => exact ps_retD R.en ok.e e p
    | none => exact PS.weak ps_retN fun D σ H h => by obtain ⟨ρ, m, rfl, rr, q⟩ := nx (k := fun _ => .ret .non) h; exact q _ .non
  | If c a b p => exact ps_ifD R ok c a b p
  | Assign ts e p =>
    match ts with
    | [tg] => exact ps_asgD R.en ok tg e p
    | [] => exact none_of fun _ => rfl
    | _ :: _ :: _ => exact none_of fun _ => rfl
  | For tg iter body els p =>
    match els with
    | [] => exact ps_forD R ok tg iter body p
    | _ :: _ => exact none_of fun _ => rfl
  | Raise e c p =>
    match c with
    | none => exact ps_raiseD ok e p
    | some _ => exact none_of fun _ => rfl
  | Try body hs els fin p =>
    match els, fin with
    | [], [] => exact ps_tryD R ok body hs p
    | _ :: _, _ => exact none_of fun _ => rfl
    | [], _ :: _ => exact none_of fun _ => rfl
  | _ => exact none_of fun _ => rfl
theorem pss_D (R : DnOk W r) (ok : SOk W X Z G) : ∀ ss : List Stmt, PSs X ss (TSof W Z (sD r G ss))
  | [] => PSs.weak pss_nil fun D σ H h => by
    obtain ⟨ρ, m, rfl, g, rr, w⟩ := h
    exact ok_fl g w σ rr
  | st :: rest => PSs.weak (pss_cons (ps_stmD R ok st) (pss_D R ok rest)) fun D σ H h => by
    obtain ⟨ρ, m, rfl, g, rr, w⟩ := h
    unfold sD at w
    refine ⟨ρ, m, rfl, g, rr, (wpR_bind w).mono (fun _ _ _ _ z => z) fun fl m1 s1 g1 w1 => ?_⟩
    cases fl with
    | next ρ' => exact fun σ' r' => ⟨ρ', m1, rfl, g1, r', w1⟩
    | brk ρ' => exact ok_fl (D := D) g1 w1
    | cont ρ' => exact ok_fl (D := D) g1 w1
    | ret d => exact ok_fl (D := D) g1 w1
    | exc e ρ' => exact ok_fl (D := D) g1 w1
end
theorem step_ok {W : Wd} {r : Dn} (R : DnOk W r) : DnOk W (stepD r) :=
  ⟨⟨fun ok e => pe_stepE2 R.en ok e, fun ok e => pt_stepT R.en ok e⟩, fun ok ss => pss_D R ok ss⟩
theorem den_ok (W : Wd) : ∀ n, DnOk W (den n)
  | 0 => ⟨⟨fun ok e => PE.weak PE.any fun σ H Q h => te_none (f := fun _ => stuck) (fun _ => rfl) h, fun ok e => PT.weak PT.any fun σ H Q h => by obtain ⟨_, _, _, _, _, w⟩ := h; exact w⟩, fun ok ss => PSs.weak PSs.any fun D σ H h => ts_none (f := fun _ => stuck) (fun _ => rfl) h⟩
  | n + 1 => step_ok (den_ok W n)
end Pu

set_option Elab.async false
set_option linter.all false
set_option maxRecDepth 100000
/-! Pu14: a def's promise by the den of its body; the law's end. -/
namespace Pu
open PySem PySem.Spec PyProof.Rows L2
def endD (x : M Fl) : M D := fun μ => match x μ with
  | .ok (.next _) μ' => .ok .non μ'
  | .ok (.ret d) μ' => .ok d μ'
  | .ok (.exc e _) μ' => .exc e μ'
  | .ok (.brk _) _ => .stuck
  | .ok (.cont _) _ => .stuck
  | .exc e μ' => .stuck
  | .stuck => .stuck
def begin (N : List Str) (ds : List D) : Sl := ds.map some ++ List.replicate (N.length - ds.length) none
def defD (n : Nat) (G : Ctx) (body : List Stmt) (ds : List D) : M D := endD ((den n).s G body (begin G.N ds))
theorem denL_get {W : Wd} {m : Mem} : ∀ {ds : List D} {vs : List V}, DenL W m ds vs → ∀ (i : Nat) (d : D), ds[i]? = some d → ∃ v, vs[i]? = some v ∧ Den W m d v
  | _, _, .nil, i, d, h => by simp at h
  | _, _, .cons h t, 0, d, e => by cases e; exact ⟨_, rfl, h⟩
  | _, _, .cons h t, i + 1, d, e => denL_get t i d e
theorem begin_ok {W : Wd} {m : Mem} {N : List Str} {ds : List D} {vs : List V} (h : DenL W m ds vs) : EnvOk W m (begin N ds) (L2.start N vs) := by
  have l := h.length
  refine ⟨by simp [begin, L2.start, l], fun i d q => ?_⟩
  unfold begin at q
  unfold L2.start
  by_cases hi : i < ds.length
  · rw [List.getElem?_append_left (by simpa using hi), List.getElem?_map] at q
    rw [List.getElem?_append_left (by simpa [← l] using hi), List.getElem?_map]
    cases e : ds[i]? with
    | none => rw [e] at q; cases q
    | some d' =>
      rw [e] at q
      cases q
      obtain ⟨v, e1, e2⟩ := denL_get h i _ e
      exact ⟨v, by rw [e1]; rfl, e2⟩
  · rw [List.getElem?_append_right (by simpa using hi), List.getElem?_replicate] at q
    split at q <;> cases q
/-- THE DEF: its promise is its den's -/
theorem fn_den {P : Program} {w : World} {W : Wd} {mg : Str → Option Value} {base : Heap} {x qual : Str} {st : Stmt} {f : Addr} {fd : FuncData} {ps : List Str} {G : Ctx} (n : Nat)
    (F : Fun W.K x qual st f fd) (S : FnScope G.N ps (defScope st)) (hsc : G.sc = defScope st) (hown : G.own = fun _ => true) (hot : G.hot = false) (g : GOk P w mg base W G) :
    FnG P w W.K mg base (G.k + 1) f fd ps (spOf W ps.length (defD n G (defBody st))) := by
  refine fnG_of F S (fun vs H Q E h => h.1) fun cdv A out s H vs Q E room gd h => ?_
  obtain ⟨hl, ds, m, rfl, gm, hd, wp⟩ := h
  have un : (A.deeper (PyProof.Rows.envOfC qual (defScope st) s.heap.objs.size f cdv)).units + 64 < cLine := by have := room.un; omega
  have ok : SOk W (cxOf (L2.CX P w) P w W.K mg base G.N qual (defScope st) f cdv A out s m.H E) (fun cls d _ H => E cls d H) G :=
    ⟨⟨rfl, rfl, S.nd, hsc.symm, hown.symm, takes_of rfl rfl rfl rfl, (fun _ => rfl), (fun _ => room), un, gd, g⟩, passes_of rfl, rfl, rfl, by rw [hsc]; exact S.kind⟩
  refine ⟨_, (den_ok W n).s ok (defBody st), begin G.N ds, m, rfl, gm, begin_ok hd, ?_⟩
  unfold defD endD at wp
  cases q : (den n).s G (defBody st) (begin G.N ds) m.μ with
  | stuck => rw [q] at wp; exact wp
  | exc e μ' => rw [q] at wp; exact (show False from wp).elim
  | ok fl μ' =>
    rw [q] at wp
    cases fl with
    | next ρ => exact fun m1 s1 g1 e1 σ _ => wp m1 s1 g1 e1 _ .non
    | ret d => exact fun m1 s1 g1 e1 v hv => wp m1 s1 g1 e1 v hv
    | exc e ρ => exact fun m1 s1 g1 e1 σ cls dx _ hx => wp m1 s1 g1 e1 cls dx hx
    | brk ρ => exact (show False from wp).elim
    | cont ρ => exact (show False from wp).elim
/-! ### the law's end -/
theorem dens_ints {W : Wd} {m : Mem} : ∀ ns : List Int, DenL W m (ns.map D.int) (ns.map V.int)
  | [] => .nil
  | n :: r => .cons (.int n) (dens_ints r)
theorem law_at {W : Wd} {F : List D → M D} {H : Hp} {a : Addr} {ns : List Int} {μ : Sto} (hS : Rd H a (.lst (ns.map V.int)) ∨ ∀ H', SqL W.K H' a (ns.map V.int)) (h : F [.frz (ns.map D.int)] [] = .ok (.bl true) μ) : spOf W 1 F [.ref a] H (fun v _ => v = .bl true) fun _ _ _ => False := by
  refine ⟨rfl, [.frz (ns.map D.int)], ⟨H, [], [], []⟩, rfl, ⟨rfl, List.nodup_nil, (fun _ z => nomatch z), (fun _ z => nomatch z), fun i o a e => by simp at e⟩, .cons (.frz ?_ (dens_ints ns)) .nil, ?_⟩
  · refine hS.elim (fun z => .inl ⟨z, fun z => ?_⟩) .inr
    rcases z with ⟨i, o, e, _⟩ | z
    · simp at e
    · nomatch z
  · show wpR W _ _ _ (F [.frz (ns.map D.int)] [])
    rw [h]
    intro m1 _ _ _ v hv
    cases hv
    rfl
section
variable {P : Program} {w : World} {W : Wd} {mg mb : Str → Option Value} {k : Nat} {fa a : Addr} {fd : FuncData} {x : Str} {sp : Sp} {s₁ : Shared} {vs : List Value} {ns : List Int}
/-- the call at a heap where at most the script is told -/
theorem law_core {H : Hp} (hin : W.K.In s₁.heap) (hns : s₁.heap.Ns mainGlobals mg) (hb : s₁.heap.Ns builtinsNs mb) (hbb : ∀ x : Str, x ≠ "__name__" → mb x = bootBuiltins x) (hlim : s₁.heap.NoLimit) (hg : s₁.gens = #[])
    (ho : s₁.heap.get? a = some { cls := .type "list", data := .seq vs.toArray }) (room : Room k callerA) (F : ∀ base : Heap, FnG P w W.K mg base k fa fd [x] sp) (bind : ∀ (s : Shared) (u : Value), BindsTo s fd ⟨[u], []⟩ [(x, u)])
    (hH : ∀ b u, H b = some u → b = a ∧ W.K.lookup a = none ∧ ∃ o xs, u = .frz o (.lst xs)) (hok : HOk P w H s₁.heap) (hsp : sp [.ref a] H (fun v _ => v = .bl true) fun _ _ _ => False) :
    codeAny (model P w) callerA (.call (.ref fa) ⟨[.ref a], []⟩) (fun r s' => r = .ok (.ret (.bool true)) ∧ OldK s₁.heap s'.heap ∧ s'.os = s₁.os ∧ AllBare s'.gens) s₁ := by
  have free : ∀ b, b ≠ a → H b = none := fun b n => by
    cases q : H b with
    | none => rfl
    | some u => exact absurd (hH b u q).1 n
  have dicts : ∀ {b : Addr} {g : Str → Option Value}, s₁.heap.Ns b g → (hidT s₁.heap H).Ns b g := by
    rintro b g ⟨o, es, ep, e, d, z⟩
    refine ⟨o, es, ep, hidT_get e (free b fun q => ?_), d, z⟩
    subst q
    rw [ho] at e
    cases e
    exact nomatch (show Data.seq vs.toArray _ = Data.dict es ep from d)
  have kin : W.K.In (hidT s₁.heap H) := fun b o e => by
    refine hidT_get (hin b o e) ?_
    cases q : H b with
    | none => rfl
    | some u =>
      obtain ⟨rfl, q2, _⟩ := hH b u q
      rw [q2] at e
      cases e
  obtain ⟨mc, l1, l2⟩ := hlim
  have e0 : Env0 P w W.K mg (hidT s₁.heap H) callerA [] s₁ H :=
    ⟨rfl, ⟨kin, dicts hns, ⟨mb, dicts hb, hbb⟩, ⟨mc, dicts l1, l2⟩⟩, (fun _ _ e => of_hidT e), Nat.le_of_eq (hidT_size s₁.heap H), trivial, (fun b z => absurd (show b ∈ ([] : List Addr) from z) List.not_mem_nil), hok, .of_eq hg⟩
  refine codeAny_mono ((F (hidT s₁.heap H)).go callerA [] s₁ H ⟨[.ref a], []⟩ [.ref a] [.ref a] _ _ room rfl e0 (bind s₁ (.ref a)) (.cons rfl .nil) hsp) fun res s' c => ?_
  match res, c with
  | .error e, c => obtain ⟨_, _, _, _, _, _, _, _, _, _, _, _, z⟩ := c; exact z.elim
  | .ok .next, c => exact c.elim
  | .ok .brk, c => exact c.elim
  | .ok .cont, c => exact c.elim
  | .ok (.ret u), ⟨v, H', os, bare, un, hok', rv, ev⟩ =>
    cases (show v = .bl true from ev)
    cases (show u = Value.bool true from rv)
    refine ⟨rfl, OldK.of_keep fun b o e => ?_, os, bare⟩
    cases q : H b with
    | none => exact un.keep b o e q (fun z => absurd (show b ∈ ([] : List Addr) from z) List.not_mem_nil) (by simp)
    | some t =>
      obtain ⟨_, _, ob, xs, rfl⟩ := hH b t q
      have e1 := (hok b _ q).1
      rw [e] at e1
      cases e1
      exact (hok' b _ (un.frzs b _ _ q)).1
theorem law_callG (hin : W.K.In s₁.heap) (hns : s₁.heap.Ns mainGlobals mg) (hb : s₁.heap.Ns builtinsNs mb) (hbb : ∀ x : Str, x ≠ "__name__" → mb x = bootBuiltins x) (hlim : s₁.heap.NoLimit) (hg : s₁.gens = #[])
    (ho : s₁.heap.get? a = some { cls := .type "list", data := .seq vs.toArray }) (hi : IntsAre vs ns) (hl : ns.length ≤ sizeLine) (room : Room k callerA)
    (F : ∀ base : Heap, FnG P w W.K mg base k fa fd [x] sp) (bind : ∀ (s : Shared) (u : Value), BindsTo s fd ⟨[u], []⟩ [(x, u)])
    (hsp : ∀ H : Hp, (Rd H a (.lst (ns.map V.int)) ∨ ∀ H', SqL W.K H' a (ns.map V.int)) → sp [.ref a] H (fun v _ => v = .bl true) fun _ _ _ => False) :
    codeAny (model P w) callerA (.call (.ref fa) ⟨[.ref a], []⟩) (fun r s' => r = .ok (.ret (.bool true)) ∧ OldK s₁.heap s'.heap ∧ s'.os = s₁.os ∧ AllBare s'.gens) s₁ := by
  cases hk : W.K.lookup a with
  | some o =>
    have e := hin a o hk
    rw [ho] at e
    cases e
    refine law_core (H := fun _ => none) hin hns hb hbb hlim hg ho room F bind (fun b u z => nomatch z) (fun b u z => nomatch z) (hsp _ (.inr fun H' => .inr ⟨_, vs.toArray, _, hk, rfl, rfl, rfl, ?_, ?_⟩))
    · rw [List.size_toArray, hi.length]
      exact hl
    · simpa using vals_ints hi
  | none =>
    let H : Hp := fun b => if b = a then some (.frz { cls := .type "list", data := .seq vs.toArray } (.lst (ns.map V.int))) else none
    have at_a : H a = some (.frz { cls := .type "list", data := .seq vs.toArray } (.lst (ns.map V.int))) := if_pos rfl
    have only : ∀ b u, H b = some u → b = a ∧ u = .frz { cls := .type "list", data := .seq vs.toArray } (.lst (ns.map V.int)) := fun b u z => by
      by_cases q : b = a
      · subst q
        rw [at_a] at z
        exact ⟨rfl, (Option.some.inj z).symm⟩
      · have z' : (none : Option HO) = some u := (if_neg q).symm.trans z
        cases z'
    refine law_core (H := H) hin hns hb hbb hlim hg ho room F bind (fun b u z => ?_) (fun b u z => ?_) (hsp _ (.inl (.inr ⟨_, at_a⟩)))
    · obtain ⟨rfl, rfl⟩ := only b u z
      exact ⟨rfl, hk, _, _, rfl⟩
    · obtain ⟨rfl, rfl⟩ := only b u z
      exact ⟨ho, by rw [List.length_map]; exact hl, vs, _, vals_ints hi, ho⟩
end
/-- the goal that k_head leaves, from the law's den -/
theorem walk_D {l : PySem.W.OpenLaw} {n k : Nat} {q : Program} {loose : List Str} {XP : (Str → Option Value) → Heap → Prop} {YP : World → Heap → Prop} {d : DefRec} {K : Params → PySem.W.Frag} {x : Str} {L : List D → M D}
    (hn : l.most = some n) (hn2 : n ≤ sizeLine) (hdf : d.params.defaults = []) (room : Room k callerA) (hY : ∀ (w : World) (h : Heap), YP w h → (K w.params).In h)
    (F : ∀ (w : World) (mg : Str → Option Value) (fa : Addr) (h : Heap), (K w.params).In h → h.Ns mainGlobals mg → mg d.name = some (.ref fa) →
      ∃ (W : Wd) (fd : FuncData), W.K = K w.params ∧ (∀ (s : Shared) (u : Value), BindsTo s fd ⟨[u], []⟩ [(x, u)]) ∧ ∀ base : Heap, FnG l.prog w (K w.params) mg base k fa fd [x] (spOf W 1 L))
    (law : ∀ ns : List Int, ns.length ≤ n → ∃ μ, L [.frz (ns.map D.int)] [] = .ok (.bl true) μ) : PySem.W.WalkO q loose XP YP l.row.toRowW d [] (fun f vs => PySem.call f vs) := by
  refine Att.attach_call hn hdf fun w s₀ s₁ mg mb fa o pm cd doc a vs ns G Y ho hd hcd hmg hobj hints hlen hg => ?_
  have kin := hY w _ Y
  obtain ⟨W, fd, eK, bind, hF⟩ := F w mg fa _ kin G.T.g hmg
  rw [← eK] at kin hF
  obtain ⟨μ, e⟩ := law ns hlen
  exact law_callG kin G.T.g G.T.b G.T.builtins G.T.nolimit hg hobj hints (Nat.le_trans hlen hn2) room hF bind fun H hS => law_at hS e
end Pu

set_option Elab.async false
set_option linter.all false
set_option maxRecDepth 100000
/-! Pu17: runs of dens, plain: what a run ends in. -/
namespace Pu
open PySem L2
def Run {α : Type} (x : R α) (Q : α → Sto → Prop) : Prop := match x with
  | .ok a μ => Q a μ
  | .exc _ _ => False
  | .stuck => False
section
variable {α β : Type} {Q Q' : α → Sto → Prop} {μ μ' : Sto}
theorem run_ok {x : R α} {a : α} (e : x = .ok a μ) (h : Q a μ) : Run x Q := by rw [e]; exact h
theorem Run.out {x : R α} (h : Run x Q) : ∃ a μ, x = .ok a μ ∧ Q a μ := by
  cases x with
  | ok a μ => exact ⟨a, μ, rfl, h⟩
  | exc _ _ => exact h.elim
  | stuck => exact h.elim
theorem Run.mono {x : R α} (h : Run x Q) (w : ∀ a μ, Q a μ → Q' a μ) : Run x Q' := by
  obtain ⟨a, μ, e, q⟩ := h.out
  rw [e]
  exact w a μ q
theorem run_bind {x : M β} {f : β → M α} (h : Run (x μ) fun b μ1 => Run (f b μ1) Q) : Run ((x >>= f) μ) Q := by
  obtain ⟨b, μ1, e, q⟩ := h.out
  show Run (M.bind x f μ) Q
  unfold M.bind
  rw [e]
  exact q
theorem run_yes {a : α} (h : Q a μ) : Run ((yes a : M α) μ) Q := h
theorem bind_ok {x : M β} {f : β → M α} {b : β} {r : R α} (e : x μ = .ok b μ') (h : f b μ' = r) : (x >>= f) μ = r := by
  show M.bind x f μ = r
  unfold M.bind
  rw [e]
  exact h
theorem bind_exc {x : M β} {f : β → M α} {e : Ex} (h : x μ = .exc e μ') : (x >>= f) μ = .exc e μ' := by
  show M.bind x f μ = _
  unfold M.bind
  rw [h]
end
/-! ### defs and statements -/
def FinQ (Q : D → Sto → Prop) : Fl → Sto → Prop
  | .next _, μ => Q .non μ
  | .ret d, μ => Q d μ
  | .exc _ _, _ => False
  | .brk _, _ => False
  | .cont _, _ => False
def ThenK (k : Sl → Sto → Prop) (K : Fl → Sto → Prop) : Fl → Sto → Prop
  | .next ρ, μ => k ρ μ
  | fl, μ => K fl μ
section
variable {r : Dn} {G : Pu.Ctx} {ρ : Sl} {μ : Sto} {K : Fl → Sto → Prop} {Q : D → Sto → Prop} {st : Stmt} {rest : List Stmt} {n : Nat}
theorem run_def {body : List Stmt} {ds : List D} (h : Run ((den n).s G body (begin G.N ds) μ) (FinQ Q)) : Run (defD n G body ds μ) Q := by
  obtain ⟨fl, μ1, e, q⟩ := h.out
  unfold defD endD
  rw [e]
  cases fl with
  | next _ => exact q
  | ret _ => exact q
  | exc _ _ => exact q.elim
  | brk _ => exact q.elim
  | cont _ => exact q.elim
theorem rs_cons (h : Run (stmD r G st ρ μ) (ThenK (fun ρ' μ' => Run (sD r G rest ρ' μ') K) K)) : Run (sD r G (st :: rest) ρ μ) K := by
  unfold sD
  refine run_bind (h.mono fun fl μ1 q => ?_)
  cases fl <;> exact q
theorem rs_nil (h : K (.next ρ) μ) : Run (sD r G [] ρ μ) K := h
theorem run_with {α : Type} {x : M α} {k : α → M Fl} (h : Run (x μ) fun a μ1 => Run (k a μ1) K) : Run (withX ρ x k μ) K := by
  obtain ⟨a, μ1, e, q⟩ := h.out
  unfold withX
  rw [e]
  exact q
theorem rs_ret {e : Expr} {p : Pos} (h : Run (r.e G e ρ μ) fun d μ1 => K (.ret d) μ1) : Run (sD r G (.Return (some e) p :: rest) ρ μ) K :=
  rs_cons (run_with (h.mono fun _ _ q => q))
theorem rs_set {x : Str} {p pos : Pos} {e : Expr} {X : M D} (hA : asgN r G x e ρ = withX ρ X fun d => storeN G x d ρ)
    (h : Run (X μ) fun d μ1 => ∃ ρ', gN G x d ρ = some ρ' ∧ Run (sD r G rest ρ' μ1) K) : Run (sD r G (.Assign [.Name x p] e pos :: rest) ρ μ) K := by
  refine rs_cons ?_
  show Run (asgN r G x e ρ μ) _
  rw [hA]
  refine run_with (h.mono fun d μ1 q => ?_)
  obtain ⟨ρ', e1, q⟩ := q
  unfold storeN
  rw [e1]
  exact q
theorem rs_if {c : Expr} {a b : List Stmt} {p : Pos} (h : Run (r.t G c ρ μ) fun k μ1 => (k = true → Run (r.s G a ρ μ1) (ThenK (fun ρ' μ' => Run (sD r G rest ρ' μ') K) K)) ∧ (k = false → Run (r.s G b ρ μ1) (ThenK (fun ρ' μ' => Run (sD r G rest ρ' μ') K) K))) :
    Run (sD r G (.If c a b p :: rest) ρ μ) K := by
  refine rs_cons (run_with (h.mono fun k μ1 q => ?_))
  cases k with
  | true => exact q.1 rfl
  | false => exact q.2 rfl
theorem rs_expr {e : Expr} {p : Pos} (hc : isComp e = false) (h : Run (r.e G e ρ μ) fun _ μ1 => Run (sD r G rest ρ μ1) K) : Run (sD r G (.Expr e p :: rest) ρ μ) K := by
  refine rs_cons ?_
  show Run ((if isComp e = false then withX ρ (r.e G e ρ) (fun _ => yes (.next ρ)) else stuck) μ) _
  rw [if_pos hc]
  exact run_with (h.mono fun _ _ q => q)
def LoopK (I : Sl → Sto → Prop) (K : Fl → Sto → Prop) : Fl → Sto → Prop
  | .next ρ, μ => I ρ μ
  | .cont ρ, μ => I ρ μ
  | .brk ρ, μ => K (.next ρ) μ
  | fl, μ => K fl μ
theorem run_loop {tg : Expr} {body : Sl → M Fl} {I : Nat → Sl → Sto → Prop} : ∀ (ds : List D) (i : Nat) (ρ : Sl) (μ : Sto), I i ρ μ →
    (∀ j d ρ μ, ds[j]? = some d → I (i + j) ρ μ → ∃ ρ1, gD G tg d ρ = some ρ1 ∧ Run (body ρ1 μ) (LoopK (I (i + j + 1)) K)) → (∀ ρ μ, I (i + ds.length) ρ μ → K (.next ρ) μ) → Run (loopD G tg body ds ρ μ) K
  | [], i, ρ, μ, h0, _, hf => hf ρ μ h0
  | d :: ds, i, ρ, μ, h0, hs, hf => by
    obtain ⟨ρ1, e1, h1⟩ := hs 0 d ρ μ rfl h0
    have nx : ∀ ρ' μ', I (i + 0 + 1) ρ' μ' → Run (loopD G tg body ds ρ' μ') K := fun ρ' μ' q =>
      run_loop ds (i + 1) ρ' μ' q (fun j d ρ μ e hI => by
        have := hs (j + 1) d ρ μ e (by rw [show i + (j + 1) = i + 1 + j by omega]; exact hI)
        rw [show i + (j + 1) + 1 = i + 1 + j + 1 by omega] at this
        exact this) fun ρ μ hI => hf ρ μ (by rw [show i + (d :: ds).length = i + 1 + ds.length by rw [List.length_cons]; omega]; exact hI)
    unfold loopD
    rw [e1]
    refine run_bind (h1.mono fun fl μ1 q => ?_)
    cases fl with
    | next ρ' => exact nx ρ' μ1 q
    | cont ρ' => exact nx ρ' μ1 q
    | brk ρ' => exact q
    | ret d => exact q
    | exc e ρ' => exact q
theorem rs_for {tg iter : Expr} {body : List Stmt} {p : Pos} {ds : List D} {μ1 : Sto} {I : Nat → Sl → Sto → Prop} (hc : G.hot = false ∧ notSet iter = true) (hi : iD r G tg iter ρ μ = .ok ds μ1) (h0 : I 0 ρ μ1)
    (hs : ∀ j d ρ μ, ds[j]? = some d → I j ρ μ → ∃ ρ1, gD G tg d ρ = some ρ1 ∧ Run (r.s G body ρ1 μ) (LoopK (I (j + 1)) (ThenK (fun ρ' μ' => Run (sD r G rest ρ' μ') K) K))) (hf : ∀ ρ μ, I ds.length ρ μ → Run (sD r G rest ρ μ) K) : Run (sD r G (.For tg iter body [] p :: rest) ρ μ) K := by
  refine rs_cons ?_
  show Run (forD r G tg iter body ρ μ) _
  unfold forD
  rw [if_pos hc]
  refine run_with (run_ok hi (run_loop (I := I) ds 0 ρ μ1 h0 (fun j d ρ μ e hI => ?_) fun ρ μ hI => ?_))
  · rw [Nat.zero_add] at hI ⊢
    exact hs j d ρ μ e hI
  · rw [Nat.zero_add] at hI
    exact hf ρ μ hI
end
/-! ### comprehensions -/
section
variable {f : D → M (Option D)} {μ : Sto}
/-- every turn leaves the store as it is -/
theorem comp_pure {g : D → Option D} : ∀ (ds acc : List D), (∀ d ∈ ds, f d μ = .ok (g d) μ) → acc.length + ds.length ≤ sizeLine → compL f ds acc μ = .ok (acc ++ ds.filterMap g) μ
  | [], acc, _, _ => by rw [List.filterMap_nil, List.append_nil]; rfl
  | d :: ds, acc, h, hl => by
    rw [List.length_cons] at hl
    unfold compL
    refine bind_ok (h d List.mem_cons_self) ?_
    cases q : g d with
    | none =>
      rw [List.filterMap_cons_none q]
      exact comp_pure ds acc (fun d hd => h d (List.mem_cons_of_mem _ hd)) (by omega)
    | some z =>
      rw [List.filterMap_cons_some q]
      show (if acc.length < sizeLine then compL f ds (acc ++ [z]) else stuck) μ = _
      rw [if_pos (by omega), comp_pure ds (acc ++ [z]) (fun d hd => h d (List.mem_cons_of_mem _ hd)) (by rw [List.length_append]; simp only [List.length_singleton]; omega), List.append_assoc]
      rfl
/-- every turn gives one -/
theorem comp_map {g : D → D} (ds acc : List D) (h : ∀ d ∈ ds, f d μ = .ok (some (g d)) μ) (hl : acc.length + ds.length ≤ sizeLine) : compL f ds acc μ = .ok (acc ++ ds.map g) μ := by
  rw [comp_pure (g := fun d => some (g d)) ds acc h hl, List.filterMap_eq_map']
/-- with an invariant: the number of turns, the list so far, the store -/
theorem run_comp {I : Nat → List D → Sto → Prop} {Q : List D → Sto → Prop} : ∀ (ds : List D) (i : Nat) (acc : List D) (μ : Sto), I i acc μ → acc.length + ds.length ≤ sizeLine →
    (∀ j d acc μ, ds[j]? = some d → I (i + j) acc μ → Run (f d μ) fun y μ1 => match y with | some z => I (i + j + 1) (acc ++ [z]) μ1 | none => I (i + j + 1) acc μ1) → (∀ acc μ, I (i + ds.length) acc μ → Q acc μ) → Run (compL f ds acc μ) Q
  | [], i, acc, μ, h0, _, _, hf => hf acc μ h0
  | d :: ds, i, acc, μ, h0, hl, hs, hf => by
    rw [List.length_cons] at hl
    unfold compL
    refine run_bind ((hs 0 d acc μ rfl h0).mono fun y μ1 q => ?_)
    have nx : ∀ acc' μ', acc'.length ≤ acc.length + 1 → I (i + 0 + 1) acc' μ' → Run (compL f ds acc' μ') Q := fun acc' μ' hz q =>
      run_comp ds (i + 1) acc' μ' q (by omega) (fun j d acc μ e hI => by
        have := hs (j + 1) d acc μ e (by rw [show i + (j + 1) = i + 1 + j by omega]; exact hI)
        rw [show i + (j + 1) + 1 = i + 1 + j + 1 by omega] at this
        exact this) fun acc μ hI => hf acc μ (by rw [show i + (d :: ds).length = i + 1 + ds.length by rw [List.length_cons]; omega]; exact hI)
    cases y with
    | none => exact nx acc μ1 (Nat.le_succ _) q
    | some z =>
      show Run ((if acc.length < sizeLine then compL f ds (acc ++ [z]) else stuck) μ1) Q
      rw [if_pos (by omega)]
      exact nx (acc ++ [z]) μ1 (by rw [List.length_append]; exact Nat.le_refl _) q
theorem run_noX {α : Type} {x : M α} {Q : α → Sto → Prop} (h : Run (x μ) Q) : Run (noX x μ) Q := by
  obtain ⟨a, μ1, e, q⟩ := h.out
  unfold noX
  rw [e]
  exact q
theorem noX_ok {α : Type} {x : M α} {a : α} {μ' : Sto} (h : x μ = .ok a μ') : noX x μ = .ok a μ' := by
  unfold noX
  rw [h]
end
end Pu

set_option Elab.async false
set_option linter.all false
set_option maxRecDepth 100000
/-! Pu18: a table of defs. -/
namespace Pu
open PySem L2
/-- a name's def and its promise -/
def FnAt (P : Program) (w : World) (W : Wd) (mg : Str → Option Value) (base : Heap) (k : Nat) (e : Str × Nat × (List D → M D)) : Prop :=
  ∃ (f : Addr) (fd : FuncData) (ps : List Str), FnG P w W.K mg base k f fd ps (spOf W e.2.1 e.2.2) ∧ mg e.1 = some (.ref f) ∧ PySem.W.keepIn W.K (.ref f) = true ∧ Binds W.K fd ps []
theorem FnAt.mono {P : Program} {w : World} {W : Wd} {mg : Str → Option Value} {base : Heap} {j k : Nat} {e : Str × Nat × (List D → M D)} (h : FnAt P w W mg base j e) (hk : j ≤ k) : FnAt P w W mg base k e :=
  let ⟨f, fd, ps, h1, h2⟩ := h
  ⟨f, fd, ps, h1.mono hk, h2⟩
def AllAt (P : Program) (w : World) (W : Wd) (mg : Str → Option Value) (base : Heap) (k : Nat) : List (Str × Nat × (List D → M D)) → Prop
  | [] => True
  | e :: r => FnAt P w W mg base k e ∧ AllAt P w W mg base k r
theorem AllAt.get {P : Program} {w : World} {W : Wd} {mg : Str → Option Value} {base : Heap} {k : Nat} : ∀ {fs : List (Str × Nat × (List D → M D))}, AllAt P w W mg base k fs → ∀ x n F, fs.lookup x = some (n, F) → ∃ f fd ps, FnG P w W.K mg base k f fd ps (spOf W n F) ∧ mg x = some (.ref f) ∧ PySem.W.keepIn W.K (.ref f) = true ∧ Binds W.K fd ps []
  | [], _, x, n, F, h => by cases h
  | (y, e) :: r, ⟨h1, h2⟩, x, n, F, h => by
    rw [List.lookup_cons] at h
    cases q : x == y with
    | true =>
      rw [q] at h
      have e1 : x = y := beq_iff_eq.mp q
      have e2 : e = (n, F) := Option.some.inj h
      subst e1 e2
      exact h1
    | false =>
      rw [q] at h
      exact AllAt.get h2 x n F h
/-- the module's facts, but for its defs -/
structure GB (mg : Str → Option Value) (W : Wd) (G : Ctx) : Prop where
  glob : ∀ x d, G.glob x = some d → ∃ u v, mg x = some u ∧ RelV v u ∧ ∀ m, Den W m d v
  bl : ∀ x, G.isB x = true → mg x = none
  xc : ∀ x, G.xc x = true → mg x = some (.ref (W.ca x)) ∧ PySem.W.keepIn W.K (.ref (W.ca x)) = true ∧ PySem.W.excIn W.K (W.ca x) [.type "ValueError", .type "Exception", .type "BaseException", .type "object"] "ValueError.__new__" = true ∧
    PySem.W.subIn W.K (.ref (W.ca x)) (.type "BaseException") = some true ∧ PySem.W.typeIn W.K (.ref (W.ca x)) = some (.type "type")
  cat : ∀ c x b, G.cat c x = some b → mg c = some (.ref (W.ca c)) ∧ PySem.W.exmOne W.K (.ref (W.ca x)) (.ref (W.ca c)) = some b
theorem gok_of {P : Program} {w : World} {W : Wd} {mg : Str → Option Value} {base : Heap} {G : Ctx} {fs : List (Str × Nat × (List D → M D))} (B : GB mg W G) (hf : G.fn = fun x => fs.lookup x) (h : AllAt P w W mg base G.k fs) : GOk P w mg base W G :=
  ⟨B.glob, B.bl, fun x n F e => h.get x n F (by rw [hf] at e; exact e), B.xc, B.cat⟩
theorem mem_look {x : Str} {d : D} : ∀ {l : List (Str × D)}, l.lookup x = some d → (x, d) ∈ l
  | [], h => by cases h
  | (y, e) :: r, h => by
    rw [List.lookup_cons] at h
    cases q : x == y with
    | true =>
      rw [q] at h
      have e1 : x = y := beq_iff_eq.mp q
      have e2 : e = d := Option.some.inj h
      subst e1 e2
      exact List.mem_cons_self
    | false =>
      rw [q] at h
      exact List.mem_cons_of_mem _ (mem_look h)
theorem glob_int {mg : Str → Option Value} {W : Wd} {x : Str} {i : Int} {t : Tok} (h : mg x = some (.int i t)) : ∃ u v, mg x = some u ∧ RelV v u ∧ ∀ m, Den W m (.int i) v := ⟨_, .int i, h, ⟨t, rfl⟩, fun _ => .int i⟩
theorem exm_of {K : PySem.W.Frag} {C S : Addr} {b : Bool} (h1 : PySem.W.subIn K (.ref S) (.type "BaseException") = some true) (h2 : PySem.W.isClsIn K S = true) (h3 : PySem.W.typeIn K (.ref S) = some (.type "type")) (h4 : PySem.W.subIn K (.ref C) (.ref S) = some b) : PySem.W.exmOne K (.ref C) (.ref S) = some b := by
  have q : (PySem.W.clsIn K S).isSome = true := h2
  unfold PySem.W.exmOne PySem.W.kitCls
  rw [h1, if_pos (by decide)]
  simp only [q, h3, h4]
  rfl
end Pu

set_option Elab.async false
set_option linter.all false
set_option maxRecDepth 100000
/-! k00: the contexts and the dens of the law's defs (printed by lawgen.py). -/
namespace K00
open PySem L2 Pu
abbrev prog : Program := PySem.Challenge.pw_loneguess_k00_integers_names_letters_and
def top (i : Nat) : Stmt := prog.main.body.getD i (.Pass ⟨0, 0, 0, 0⟩)
def blts : List Str := ["abs", "all", "bool", "int", "isinstance", "len", "max", "min", "range", "repr", "set", "sorted", "str", "zip"]
def globs : List (Str × D) := [("MAX_LETTERS", .int 8), ("MAX_DIGITS", .int 200), ("MOST_LETTERS", .int 4), ("GREATEST", .int ((10 ^ 50) ^ 4 - 1))]
def hintOf (p : Pos) : Nat := if (p.line == 36 && p.col == 11) = true then 1 else 0
def xcs : List Str := ["InvalidLetters"]
def catOf (c x : Str) : Option Bool := if c = "InvalidLetters" ∧ x = "InvalidLetters" then some true else none
def cx (st : Stmt) (N : List Str) (k : Nat) (fs : List (Str × Nat × (List D → M D))) : Pu.Ctx :=
  { N := N, sc := defScope st, own := fun _ => true, glob := fun x => globs.lookup x, fn := fun x => fs.lookup x, isB := fun x => blts.contains x, xc := fun x => xcs.contains x, cat := catOf, hint := hintOf, k := k, hot := false }
abbrev s_is_integer : Stmt := top 8
abbrev g_is_integer : Pu.Ctx := cx s_is_integer ["value"] 0 []
def d_is_integer : List D → M D := defD 40 g_is_integer (defBody s_is_integer)
abbrev s_are_small : Stmt := top 9
abbrev g_are_small : Pu.Ctx := cx s_are_small ["text", "sign"] 0 []
def d_are_small : List D → M D := defD 40 g_are_small (defBody s_are_small)
abbrev s_is_ascending : Stmt := top 11
abbrev g_is_ascending : Pu.Ctx := cx s_is_ascending ["values", "one", "other"] 0 []
def d_is_ascending : List D → M D := defD 40 g_is_ascending (defBody s_is_ascending)
abbrev s_is_text_within : Stmt := top 13
abbrev g_is_text_within : Pu.Ctx := cx s_is_text_within ["letters", "value", "sign"] 0 []
def d_is_text_within : List D → M D := defD 40 g_is_text_within (defBody s_is_text_within)
abbrev s__law_pot : Stmt := top 17
abbrev g__law_pot : Pu.Ctx := cx s__law_pot ["_law_script", "_law_at", "_law_cell", "_law_great", "_law_blend"] 0 []
def d__law_pot : List D → M D := defD 40 g__law_pot (defBody s__law_pot)
abbrev s__law_bit : Stmt := top 18
abbrev g__law_bit : Pu.Ctx := cx s__law_bit ["_law_pot_here", "_law_much", "_law_first", "_law_later", "_law_found"] 0 []
def d__law_bit : List D → M D := defD 40 g__law_bit (defBody s__law_bit)
abbrev s__law_spelled : Stmt := top 21
abbrev g__law_spelled : Pu.Ctx := cx s__law_spelled ["_law_value", "_law_sign"] 0 []
def d__law_spelled : List D → M D := defD 40 g__law_spelled (defBody s__law_spelled)
abbrev s__law_is_long : Stmt := top 22
abbrev g__law_is_long : Pu.Ctx := cx s__law_is_long ["_law_value"] 0 []
def d__law_is_long : List D → M D := defD 40 g__law_is_long (defBody s__law_is_long)
abbrev s__law_is_in : Stmt := top 24
abbrev g__law_is_in : Pu.Ctx := cx s__law_is_in ["_law_signs", "_law_value", "_law_sign"] 0 []
def d__law_is_in : List D → M D := defD 40 g__law_is_in (defBody s__law_is_in)
abbrev s_is_name : Stmt := top 10
abbrev g_is_name : Pu.Ctx := cx s_is_name ["value"] 1 [("are_small", 1, d_are_small)]
def d_is_name : List D → M D := defD 40 g_is_name (defBody s_is_name)
abbrev s_is_letters : Stmt := top 12
abbrev g_is_letters : Pu.Ctx := cx s_is_letters ["value"] 1 [("are_small", 1, d_are_small), ("is_ascending", 1, d_is_ascending)]
def d_is_letters : List D → M D := defD 40 g_is_letters (defBody s_is_letters)
abbrev s__law_pick : Stmt := top 19
abbrev g__law_pick : Pu.Ctx := cx s__law_pick ["_law_pot_here", "_law_items"] 1 [("_law_bit", 2, d__law_bit)]
def d__law_pick : List D → M D := defD 40 g__law_pick (defBody s__law_pick)
abbrev s__law_letter : Stmt := top 20
abbrev g__law_letter : Pu.Ctx := cx s__law_letter ["_law_pot_here"] 1 [("_law_bit", 2, d__law_bit)]
def d__law_letter : List D → M D := defD 40 g__law_letter (defBody s__law_letter)
abbrev s__law_are_signs : Stmt := top 23
abbrev g__law_are_signs : Pu.Ctx := cx s__law_are_signs ["_law_value"] 1 [("_law_spelled", 1, d__law_spelled)]
def d__law_are_signs : List D → M D := defD 40 g__law_are_signs (defBody s__law_are_signs)
abbrev s__law_numbers : Stmt := top 25
abbrev g__law_numbers : Pu.Ctx := cx s__law_numbers ["_law_pot_here", "_law_cell", "_law_found", "_law_great", "_law_near", "_law_more", "_law_number"] 1 [("_law_bit", 2, d__law_bit)]
def d__law_numbers : List D → M D := defD 40 g__law_numbers (defBody s__law_numbers)
abbrev s_require_letters : Stmt := top 14
abbrev g_require_letters : Pu.Ctx := cx s_require_letters ["value"] 2 [("is_letters", 1, d_is_letters)]
def d_require_letters : List D → M D := defD 40 g_require_letters (defBody s_require_letters)
abbrev s__law_strings : Stmt := top 26
abbrev g__law_strings : Pu.Ctx := cx s__law_strings ["_law_pot_here", "_law_found", "_law_turn", "_law_word", "_law_spot", "_law_odd", "_law_at"] 2 [("_law_bit", 2, d__law_bit), ("_law_pick", 2, d__law_pick), ("_law_letter", 1, d__law_letter)]
def d__law_strings : List D → M D := defD 40 g__law_strings (defBody s__law_strings)
abbrev s_is_text : Stmt := top 15
abbrev g_is_text : Pu.Ctx := cx s_is_text ["letters", "value"] 3 [("require_letters", 1, d_require_letters), ("is_text_within", 2, d_is_text_within)]
def d_is_text : List D → M D := defD 40 g_is_text (defBody s_is_text)
abbrev s__law_refused : Stmt := top 27
abbrev g__law_refused : Pu.Ctx := cx s__law_refused ["_law_signs"] 4 [("is_text", 2, d_is_text)]
def d__law_refused : List D → M D := defD 40 g__law_refused (defBody s__law_refused)
abbrev s_law : Stmt := top 28
abbrev g_law : Pu.Ctx := cx s_law ["_law_script", "_law_at", "_law_pot_here", "_law_cell", "_law_words", "_law_some", "_law_signs", "_law_value", "_law_turn", "_law_told", "_law_due", "_law_word"] 5 [("_law_pot", 2, d__law_pot), ("_law_strings", 1, d__law_strings), ("_law_pick", 2, d__law_pick), ("_law_numbers", 2, d__law_numbers), ("_law_are_signs", 1, d__law_are_signs), ("is_integer", 1, d_is_integer), ("is_name", 1, d_is_name), ("is_letters", 1, d_is_letters), ("is_text", 2, d_is_text), ("_law_is_long", 1, d__law_is_long), ("_law_spelled", 1, d__law_spelled), ("_law_is_in", 2, d__law_is_in), ("_law_refused", 1, d__law_refused)]
def d_law : List D → M D := defD 40 g_law (defBody s_law)
end K00

set_option Elab.async false
set_option linter.all false
set_option maxRecDepth 100000
set_option maxHeartbeats 1000000
/-! k00: what the defs give. -/
namespace K00
open PySem L2 Pu
theorem end_ret {r : Dn} {G : Pu.Ctx} {ρ : Sl} {μ : Sto} {e : Expr} {p : Pos} {rest : List Stmt} : endD (sD r G (.Return (some e) p :: rest) ρ) μ = r.e G e ρ μ := by
  show endD (M.bind (withX ρ (r.e G e ρ) (fun d => yes (.ret d))) _) μ = _
  unfold endD M.bind withX
  cases r.e G e ρ μ <;> rfl
theorem chain_ok {op op' : CmpOp} {x y w : D} {c : M D} {μ : Sto} {b b' : Bool} (h1 : cmpD op x y μ = .ok (.bl b) μ) (h2 : c μ = .ok w μ) (h3 : cmpD op' y w μ = .ok (.bl b') μ) : chainD op op' x y c μ = .ok (.bl (b && b')) μ := by
  unfold chainD
  refine bind_ok h1 ?_
  cases b with
  | true => exact bind_ok h2 h3
  | false => rfl
def az (c : Nat) : Bool := decide (97 ≤ c) && decide (c ≤ 122)
abbrev sg (c : Nat) : Str := ⟨#[c]⟩
abbrev tl (x : Str) : List Nat := x.cps.toList
theorem bls_of : ∀ bs : List Bool, blsOf (bs.map D.bl) = some bs
  | [] => rfl
  | b :: r => by
    show (blsOf (r.map D.bl)).map (b :: ·) = _
    rw [bls_of r]
    rfl
theorem all_bls (μ : Sto) (bs : List Bool) : allD [.lst (bs.map D.bl)] μ = .ok (.bl (bs.all id)) μ := by
  unfold allD
  show (match (some (bs.map D.bl)).bind blsOf with | some bs => R.ok (D.bl (bs.all id)) μ | none => R.stuck) = _
  rw [Option.bind_some, bls_of]
theorem lt1 (a b : Nat) : decide (([a] : List Nat) < [b]) = decide (a < b) := by
  rw [decide_eq_decide, List.cons_lt_cons_iff]
  constructor
  · rintro (h | ⟨_, h⟩)
    · exact h
    · exact absurd h (by simp)
  · exact .inl
theorem le_sg1 (c : Nat) (μ : Sto) : cmpD .LtE (.str "a") (.str (sg c)) μ = .ok (.bl (decide (97 ≤ c))) μ := by
  show R.ok (D.bl (!decide ([c] < (Str.ofString "a").cps.toList))) μ = _
  rw [show (Str.ofString "a").cps.toList = [97] from rfl, lt1]
  congr 2
  by_cases h : c < 97
  · rw [decide_eq_true h, decide_eq_false (by omega)]; rfl
  · rw [decide_eq_false h, decide_eq_true (by omega)]; rfl
theorem le_sg2 (c : Nat) (μ : Sto) : cmpD .LtE (.str (sg c)) (.str "z") μ = .ok (.bl (decide (c ≤ 122))) μ := by
  show R.ok (D.bl (!decide ((Str.ofString "z").cps.toList < [c]))) μ = _
  rw [show (Str.ofString "z").cps.toList = [122] from rfl, lt1]
  congr 2
  by_cases h : 122 < c
  · rw [decide_eq_true h, decide_eq_false (by omega)]; rfl
  · rw [decide_eq_false h, decide_eq_true (by omega)]; rfl
theorem sg_map (x : Str) (g : D → D) : (signsL x).map g = (tl x).map fun c => g (.str (sg c)) := by
  unfold signsL
  rw [List.map_map]
  rfl
theorem sg_mem {x : Str} {d : D} (h : d ∈ signsL x) : ∃ c, d = .str (sg c) := by
  obtain ⟨c, _, e⟩ := List.mem_map.mp h
  exact ⟨c, e.symm⟩
theorem sg_len (x : Str) : (signsL x).length = x.cps.size := by
  unfold signsL
  rw [List.length_map, Array.length_toList]
def sgOf : D → Nat
  | .str x => x.cps.toList.headD 0
  | _ => 0
abbrev Short (x : Str) : Prop := x.cps.size ≤ 64
theorem Short.fits {x : Str} (h : Short x) : x.cps.size ≤ sizeLine := Nat.le_trans h (by decide)
theorem comp_sg {f : D → M (Option D)} {μ : Sto} {x : Str} {g : Nat → D} (hx : Short x) (h : ∀ c ∈ tl x, f (.str (sg c)) μ = .ok (some (g c)) μ) : compL f (signsL x) [] μ = .ok ((tl x).map g) μ := by
  have e := comp_pure (f := f) (μ := μ) (g := fun d => some (g (sgOf d))) (signsL x) [] (fun d hd => ?_) (by rw [List.length_nil, Nat.zero_add, sg_len]; exact hx.fits)
  · rw [List.nil_append, List.filterMap_eq_map', sg_map] at e
    exact e
  · obtain ⟨c, hc, rfl⟩ := List.mem_map.mp hd
    exact h c hc
theorem comp_sgF {f : D → M (Option D)} {μ : Sto} {x : Str} {p : Nat → Bool} (hx : Short x) (h : ∀ c ∈ tl x, f (.str (sg c)) μ = .ok (if p c then some (.str (sg c)) else none) μ) : compL f (signsL x) [] μ = .ok (((tl x).filter p).map fun c => .str (sg c)) μ := by
  have e := comp_pure (f := f) (μ := μ) (g := fun d => if p (sgOf d) then some d else none) (signsL x) [] (fun d hd => ?_) (by rw [List.length_nil, Nat.zero_add, sg_len]; exact hx.fits)
  · rw [List.nil_append] at e
    refine e.trans (congrArg (fun l => R.ok l μ) ?_)
    unfold signsL tl
    induction x.cps.toList with
    | nil => rfl
    | cons c r ih =>
      rw [List.map_cons, List.filterMap_cons, List.filter_cons]
      rw [show sgOf (D.str { cps := #[c] }) = c from rfl]
      cases p c with
      | true => exact congrArg (D.str (sg c) :: ·) ih
      | false => exact ih
  · obtain ⟨c, hc, rfl⟩ := List.mem_map.mp hd
    exact h c hc
theorem a_small {x : Str} (μ : Sto) (h : Short x) : d_are_small [.str x] μ = .ok (.bl ((tl x).all az)) μ := by
  refine end_ret.trans ?_
  refine bind_ok (b := [.lst ((tl x).map fun c => .bl (az c))]) (μ' := μ) (bind_ok (b := .lst ((tl x).map fun c => .bl (az c))) (μ' := μ) (bind_ok (b := signsL x) (μ' := μ) rfl (bind_ok (b := (tl x).map fun c => .bl (az c)) (μ' := μ) (noX_ok (comp_sg h fun c _ => ?_)) rfl)) rfl) ?_
  · exact bind_ok (b := true) (μ' := μ) rfl (bind_ok (b := .bl (az c)) (μ' := μ) (bind_ok (b := .str "a") (μ' := μ) rfl (bind_ok (b := .str (sg c)) (μ' := μ) rfl (chain_ok (le_sg1 c μ) rfl (le_sg2 c μ)))) rfl)
  · have e := all_bls μ ((tl x).map az)
    rw [List.map_map, List.all_map] at e
    exact e
theorem den_call {n : Nat} {G : Pu.Ctx} {f : Str} {p pos : Pos} {es : List Expr} {ρ : Sl} {μ : Sto} (hf : f ≠ "sorted") : (den (n + 1)).e G (.Call (.Name f p) es [] pos) ρ μ = callD (den n) G f es ρ μ := by
  have e : stepE2 (den n) G (.Call (.Name f p) es [] pos) ρ = callD (den n) G f es ρ := by
    unfold stepE2
    split
    · rename_i e
      cases e
      rw [if_neg fun z => hf z.1]
      rfl
    · rfl
  exact congrFun e μ
theorem call_ok {k n : Nat} {G : Pu.Ctx} {f : Str} {p pos : Pos} {es : List Expr} {ρ : Sl} {μ μ1 : Sto} {ds : List D} {o : R D} (F : List D → M D) (hf : f ≠ "sorted") (hfn : G.fn f = some (n, F)) (hc : okName f = true ∧ noStar es = true ∧ glB G.sc f = true ∧ G.hot = false)
    (ha : aD (den k) G es ρ μ = .ok ds μ1) (hl : ds.length = n) (h : F ds μ1 = o) : (den (k + 1)).e G (.Call (.Name f p) es [] pos) ρ μ = o := by
  rw [den_call hf]
  unfold callD
  rw [if_pos hc, hfn]
  refine bind_ok ha ?_
  show (if ds.length = n then F ds else stuck) μ1 = o
  rw [if_pos hl]
  exact h
theorem bool_one {n : Nat} {G : Pu.Ctx} {op : BoolOp} {a : Expr} {pos : Pos} {ρ : Sl} {μ : Sto} : (den (n + 1)).e G (.BoolOp op [a] pos) ρ μ = (den n).e G a ρ μ := rfl
/-! ### is_name, is_letters, is_text, the law's own ones -/
theorem bool_and {r : Dn} {G : Pu.Ctx} {ρ : Sl} {μ : Sto} {a b : Expr} {rest : List Expr} {pos : Pos} {k : Bool} {o : R D} (h1 : r.e G a ρ μ = .ok (.bl k) μ) (h2 : k = true → r.e G (.BoolOp .And (b :: rest) pos) ρ μ = o) (h3 : k = false → R.ok (D.bl false) μ = o) :
    boolE r G .And (a :: b :: rest) pos ρ μ = o := by
  unfold boolE
  refine bind_ok h1 (bind_ok (b := k) (μ' := μ) rfl ?_)
  cases k with
  | true => exact h2 rfl
  | false => exact h3 rfl
theorem bool_or {r : Dn} {G : Pu.Ctx} {ρ : Sl} {μ : Sto} {a b : Expr} {rest : List Expr} {pos : Pos} {k : Bool} {o : R D} (h1 : r.e G a ρ μ = .ok (.bl k) μ) (h2 : k = false → r.e G (.BoolOp .Or (b :: rest) pos) ρ μ = o) (h3 : k = true → R.ok (D.bl true) μ = o) :
    boolE r G .Or (a :: b :: rest) pos ρ μ = o := by
  unfold boolE
  refine bind_ok h1 (bind_ok (b := k) (μ' := μ) rfl ?_)
  cases k with
  | true => exact h3 rfl
  | false => exact h2 rfl
theorem len_str {x : Str} {μ : Sto} (h : Short x) : lenD [.str x] μ = .ok (.int x.cps.size) μ := by
  unfold lenD
  have e : x.length ≤ sizeLine := h.fits
  simp only [e, ↓reduceIte]
  rfl
theorem a_name {x : Str} (μ : Sto) (h : Short x) : d_is_name [.str x] μ = .ok (.bl (decide (1 ≤ x.cps.size) && decide (x.cps.size ≤ 8) && (tl x).all az)) μ := by
  refine end_ret.trans ?_
  refine bool_and (k := true) rfl (fun _ => ?_) (fun z => nomatch z)
  refine bool_and (k := decide ((1 : Int) ≤ x.cps.size) && decide ((x.cps.size : Int) ≤ 8)) (bind_ok (b := .int 1) (μ' := μ) rfl (bind_ok (b := .int x.cps.size) (μ' := μ) (bind_ok (b := [.str x]) (μ' := μ) rfl (len_str h)) (chain_ok (w := .int 8) rfl rfl rfl))) (fun z => ?_) (fun z => ?_)
  · refine bool_one.trans ?_
    refine Eq.trans (call_ok d_are_small (ds := [.str x]) (by decide +kernel) rfl ⟨rfl, rfl, rfl, rfl⟩ rfl rfl (a_small μ h)) ?_
    simp only [Bool.and_eq_true, decide_eq_true_eq] at z
    have z1 : 1 ≤ x.cps.size := by omega
    have z2 : x.cps.size ≤ 8 := by omega
    rw [decide_eq_true z1, decide_eq_true z2]
    rfl
  · have e : (decide (1 ≤ x.cps.size) && decide (x.cps.size ≤ 8)) = false := by
      rw [← z]
      congr 1
      · exact decide_eq_decide.mpr (by omega)
      · exact decide_eq_decide.mpr (by omega)
    rw [e]
    rfl
/-- short, of plain signs -/
structure Okt (x : Str) : Prop where
  sh : Short x
  lo : ∀ c ∈ tl x, c < 128
theorem tl_cut1 (x : Str) : tl (cutS x (some 1) none) = (tl x).drop 1 := by
  show ((((x.cps.toList.drop (HT.sIx x.length 0 (some 1))).take (HT.sIx x.length x.length none - HT.sIx x.length 0 (some 1))).toArray).toList) = x.cps.toList.drop 1
  rw [HT.sIx_none, show HT.sIx x.length 0 (some 1) = min 1 x.length from HT.sIx_nat x.length 0 1, List.toList_toArray]
  have e : x.length = x.cps.toList.length := rfl
  rw [e]
  cases h : x.cps.toList with
  | nil => rfl
  | cons c r =>
    rw [show min 1 (c :: r).length = 1 by rw [List.length_cons]; omega]
    show (r.take ((c :: r).length - 1)) = r
    rw [List.length_cons, Nat.add_sub_cancel, List.take_length]
def asc (l : List Nat) : Bool := (List.zipWith (fun c d => decide (c < d)) l (l.drop 1)).all id
theorem comp_zip {f : D → M (Option D)} {μ : Sto} {g : Nat → Nat → D} : ∀ (k l : List Nat), k.length ≤ 64 → (∀ c d, f (.tup [.str (sg c), .str (sg d)]) μ = .ok (some (g c d)) μ) →
    compL f (List.zipWith (fun p q => .tup [p, q]) (k.map fun c => .str (sg c)) (l.map fun c => .str (sg c))) [] μ = .ok (List.zipWith g k l) μ := by
  intro k l hk h
  let gg : D → D := fun d => match d with | .tup [.str a, .str b] => g (a.cps.toList.headD 0) (b.cps.toList.headD 0) | _ => .non
  have e := comp_map (f := f) (μ := μ) (g := gg) (List.zipWith (fun p q => D.tup [p, q]) (k.map fun c => D.str (sg c)) (l.map fun c => D.str (sg c))) [] (fun d hd => ?_) ?_
  · refine e.trans (congrArg (fun l => R.ok l μ) ?_)
    rw [List.nil_append, List.zipWith_map_left, List.zipWith_map_right, List.map_zipWith]
    rfl
  · rw [List.zipWith_map_left, List.zipWith_map_right] at hd
    obtain ⟨i, hi, e⟩ := List.mem_iff_getElem.mp hd
    rw [List.getElem_zipWith] at e
    rw [← e]
    exact h _ _
  · rw [List.length_nil, Nat.zero_add, List.length_zipWith, List.length_map]
    exact Nat.le_trans (Nat.min_le_left _ _) (Nat.le_trans hk (by decide))
theorem a_asc {x : Str} (μ : Sto) (h : Short x) : d_is_ascending [.str x] μ = .ok (.bl (asc (tl x))) μ := by
  have hf : x.length ≤ sizeLine := h.fits
  refine end_ret.trans ?_
  refine bind_ok (b := [.lst (List.zipWith (fun c d => .bl (decide (c < d))) (tl x) ((tl x).drop 1))]) (μ' := μ) (bind_ok (b := .lst (List.zipWith (fun c d => .bl (decide (c < d))) (tl x) ((tl x).drop 1))) (μ' := μ)
    (bind_ok (b := List.zipWith (fun p q => .tup [p, q]) ((tl x).map fun c => .str (sg c)) (((tl x).drop 1).map fun c => .str (sg c))) (μ' := μ)
      (bind_ok (b := .str x) (μ' := μ) rfl (bind_ok (b := .str (cutS x (some 1) none)) (μ' := μ) (bind_ok (b := .str x) (μ' := μ) rfl (bind_ok (b := some 1) (μ' := μ) rfl (bind_ok (b := none) (μ' := μ) rfl ?_))) ?_))
      (bind_ok (b := List.zipWith (fun c d => .bl (decide (c < d))) (tl x) ((tl x).drop 1)) (μ' := μ) (noX_ok (comp_zip _ _ (by rw [Array.length_toList]; exact h) fun c d => ?_)) rfl)) rfl) ?_
  · show (if x.length ≤ sizeLine then R.ok (D.str (cutS x (some 1) none)) μ else .stuck) = _
    rw [if_pos hf]
  · show R.ok (List.zipWith (fun p q => D.tup [p, q]) (signsL x) ((tl (cutS x (some 1) none)).map fun c => D.str (sg c))) μ = _
    rw [tl_cut1]
    rfl
  · refine bind_ok (b := true) (μ' := μ) rfl (bind_ok (b := .bl (decide (c < d))) (μ' := μ) (bind_ok (b := .str (sg c)) (μ' := μ) rfl (bind_ok (b := .str (sg d)) (μ' := μ) rfl ?_)) rfl)
    show R.ok (D.bl (decide ([c] < [d]))) μ = _
    rw [lt1]
  · have e := all_bls μ (List.zipWith (fun c d => decide (c < d)) (tl x) ((tl x).drop 1))
    rw [List.map_zipWith] at e
    exact e
theorem t_not {x : M Bool} {μ : Sto} {k : Bool} (h : x μ = .ok k μ) : (x >>= fun b => yes (!b)) μ = .ok (!k) μ := bind_ok h rfl
theorem t_or {r : Dn} {G : Pu.Ctx} {ρ : Sl} {μ : Sto} {a b : Expr} {rest : List Expr} {pos : Pos} {k : Bool} {o : R Bool} (h1 : r.t G a ρ μ = .ok k μ) (h2 : k = false → r.t G (.BoolOp .Or (b :: rest) pos) ρ μ = o) (h3 : k = true → R.ok true μ = o) : boolT r G .Or (a :: b :: rest) pos ρ μ = o := by
  refine bind_ok h1 ?_
  cases k with
  | true => exact h3 rfl
  | false => exact h2 rfl
/-- if c: return e; rest -/
theorem end_if {r : Dn} {G : Pu.Ctx} {ρ : Sl} {μ : Sto} {c : Expr} {a rest : List Stmt} {p : Pos} {k : Bool} {o : R D} (h : r.t G c ρ μ = .ok k μ) (h1 : k = true → ∃ d, r.s G a ρ μ = .ok (.ret d) μ ∧ R.ok d μ = o) (h2 : k = false → endD (sD r G rest ρ) μ = o) (h3 : r.s G [] ρ μ = .ok (.next ρ) μ) :
    endD (sD r G (.If c a [] p :: rest) ρ) μ = o := by
  show endD (M.bind (withX ρ (r.t G c ρ) (fun k => match k with | true => r.s G a ρ | false => r.s G [] ρ)) _) μ = _
  unfold endD M.bind withX
  rw [h]
  cases k with
  | true =>
    obtain ⟨d, e1, e2⟩ := h1 rfl
    simp only
    rw [e1]
    exact e2
  | false =>
    simp only
    rw [h3]
    exact h2 rfl
def lts (x : Str) : Bool := decide (1 ≤ x.cps.size) && decide (x.cps.size ≤ 4) && ((tl x).all az && asc (tl x))
theorem bind_okT {α β : Type} {x : M β} {f : β → M α} {μ μ' : Sto} {b : β} {r : R α} (e : x μ = .ok b μ') (h : f b μ' = r) : (x >>= f) μ = r := bind_ok e h
theorem a_letters {x : Str} (μ : Sto) (h : Short x) : d_is_letters [.str x] μ = .ok (.bl (lts x)) μ := by
  refine end_if (k := !(decide ((1 : Int) ≤ x.cps.size) && decide ((x.cps.size : Int) ≤ 4))) (t_or (k := false) (t_not (k := true) rfl) (fun _ => t_not (k := decide ((1 : Int) ≤ x.cps.size) && decide ((x.cps.size : Int) ≤ 4)) ?_) (fun z => nomatch z)) (fun z => ⟨.bl false, rfl, ?_⟩) (fun z => ?_) rfl
  · refine bind_ok (b := .bl (decide ((1 : Int) ≤ x.cps.size) && decide ((x.cps.size : Int) ≤ 4))) (μ' := μ) (bind_ok (b := .int 1) (μ' := μ) rfl (bind_ok (b := .int x.cps.size) (μ' := μ) (bind_ok (b := [.str x]) (μ' := μ) rfl (len_str h)) (chain_ok (w := .int 4) rfl rfl rfl))) rfl
  · unfold lts
    have e : (decide (1 ≤ x.cps.size) && decide (x.cps.size ≤ 4)) = false := by
      have z' : (decide ((1 : Int) ≤ x.cps.size) && decide ((x.cps.size : Int) ≤ 4)) = false := by
        cases q : (decide ((1 : Int) ≤ x.cps.size) && decide ((x.cps.size : Int) ≤ 4)) with
        | false => rfl
        | true => rw [q] at z; cases z
      rw [← z']
      congr 1
      · exact decide_eq_decide.mpr (by omega)
      · exact decide_eq_decide.mpr (by omega)
    rw [e]
    rfl
  · have z' : (decide ((1 : Int) ≤ x.cps.size) && decide ((x.cps.size : Int) ≤ 4)) = true := by
      cases q : (decide ((1 : Int) ≤ x.cps.size) && decide ((x.cps.size : Int) ≤ 4)) with
      | true => rfl
      | false => rw [q] at z; cases z
    simp only [Bool.and_eq_true, decide_eq_true_eq] at z'
    have e : lts x = ((tl x).all az && asc (tl x)) := by
      unfold lts
      rw [decide_eq_true (show 1 ≤ x.cps.size by omega), decide_eq_true (show x.cps.size ≤ 4 by omega)]
      rfl
    rw [e]
    refine end_ret.trans ?_
    refine bool_and (k := (tl x).all az) (call_ok d_are_small (ds := [.str x]) (by decide +kernel) rfl ⟨rfl, rfl, rfl, rfl⟩ rfl rfl (a_small μ h)) (fun z => ?_) (fun z => ?_)
    · rw [z]
      refine bool_one.trans ?_
      exact call_ok d_is_ascending (ds := [.str x]) (by decide +kernel) rfl ⟨rfl, rfl, rfl, rfl⟩ rfl rfl (a_asc μ h)
    · rw [z]
      rfl
end K00

set_option Elab.async false
set_option linter.all false
set_option maxRecDepth 100000
set_option maxHeartbeats 1000000
/-! k00: the law's own questions; what is refused. -/
namespace K00
open PySem L2 Pu
/-- no text, no int -/
inductive Odd : D → Prop
  | non : Odd .non
  | bl (b) : Odd (.bl b)
  | tup (l) : Odd (.tup l)
  | lst (l) : Odd (.lst l)
  | dic (l) : Odd (.dic l)
theorem in_sg (y : Str) (c : Nat) (μ : Sto) : cmpD .In (.str (sg c)) (.str y) μ = .ok (.bl (decide (c ∈ tl y))) μ := rfl
theorem nin_sg (y : Str) (c : Nat) (μ : Sto) : cmpD .NotIn (.str (sg c)) (.str y) μ = .ok (.bl (!decide (c ∈ tl y))) μ := rfl
def wi (y x : Str) : Bool := (tl x).all fun c => decide (c ∈ tl y)
theorem a_within {y x : Str} (μ : Sto) (h : Short x) : d_is_text_within [.str y, .str x] μ = .ok (.bl (wi y x)) μ := by
  refine end_ret.trans ?_
  refine bool_and (k := true) rfl (fun _ => ?_) (fun z => nomatch z)
  refine bool_one.trans ?_
  refine bind_ok (b := [.lst ((tl x).map fun c => .bl (decide (c ∈ tl y)))]) (μ' := μ) (bind_ok (b := .lst ((tl x).map fun c => .bl (decide (c ∈ tl y)))) (μ' := μ) (bind_ok (b := signsL x) (μ' := μ) rfl (bind_ok (b := (tl x).map fun c => .bl (decide (c ∈ tl y))) (μ' := μ) (noX_ok (comp_sg h fun c _ => ?_)) rfl)) rfl) ?_
  · exact bind_ok (b := true) (μ' := μ) rfl (bind_ok (b := .bl (decide (c ∈ tl y))) (μ' := μ) (bind_ok (b := .str (sg c)) (μ' := μ) rfl (bind_ok (b := .str y) (μ' := μ) rfl (in_sg y c μ))) rfl)
  · have e := all_bls μ ((tl x).map fun c => decide (c ∈ tl y))
    rw [List.map_map, List.all_map] at e
    exact e
theorem o_within {y : Str} {v : D} (μ : Sto) (h : Odd v) : d_is_text_within [.str y, v] μ = .ok (.bl false) μ := by cases h <;> rfl
theorem i_within {y : Str} {i : Int} (μ : Sto) : d_is_text_within [.str y, .int i] μ = .ok (.bl false) μ := rfl
theorem o_letters {v : D} (μ : Sto) (h : Odd v) : d_is_letters [v] μ = .ok (.bl false) μ := by cases h <;> rfl
theorem i_letters {i : Int} (μ : Sto) : d_is_letters [.int i] μ = .ok (.bl false) μ := rfl
theorem o_name {v : D} (μ : Sto) (h : Odd v) : d_is_name [v] μ = .ok (.bl false) μ := by cases h <;> rfl
theorem i_name {i : Int} (μ : Sto) : d_is_name [.int i] μ = .ok (.bl false) μ := rfl
theorem o_integer {v : D} (μ : Sto) (h : Odd v) : d_is_integer [v] μ = .ok (.bl false) μ := by cases h <;> rfl
theorem s_integer {x : Str} (μ : Sto) : d_is_integer [.str x] μ = .ok (.bl false) μ := rfl
theorem o_long {v : D} (μ : Sto) (h : Odd v) : d__law_is_long [v] μ = .ok (.bl false) μ := by cases h <;> rfl
theorem s_long {x : Str} (μ : Sto) : d__law_is_long [.str x] μ = .ok (.bl false) μ := rfl
theorem o_spelled {v : D} (μ : Sto) (h : Odd v) : d__law_spelled [v] μ = .ok (.bl false) μ := by cases h <;> rfl
theorem i_spelled {i : Int} (μ : Sto) : d__law_spelled [.int i] μ = .ok (.bl false) μ := rfl
theorem o_signs {v : D} (μ : Sto) (h : Odd v) : d__law_are_signs [v] μ = .ok (.bl false) μ := by cases h <;> rfl
theorem i_signs {i : Int} (μ : Sto) : d__law_are_signs [.int i] μ = .ok (.bl false) μ := rfl
theorem o_isin {y : Str} {v : D} (μ : Sto) (h : Odd v) : d__law_is_in [.str y, v] μ = .ok (.bl false) μ := by cases h <;> rfl
theorem i_isin {y : Str} {i : Int} (μ : Sto) : d__law_is_in [.str y, .int i] μ = .ok (.bl false) μ := rfl
/-! ### statements -/
section
variable {r : Dn} {G : Pu.Ctx} {ρ ρ' : Sl} {μ μ1 μ2 : Sto} {c e : Expr} {a b rest : List Stmt} {p : Pos} {x : Ex} {d : D}
theorem end_ifX (h : r.t G c ρ μ = .ok true μ1) (h1 : r.s G a ρ μ1 = .ok (.exc x ρ') μ2) : endD (sD r G (.If c a b p :: rest) ρ) μ = .exc x μ2 := by
  show endD (M.bind (withX ρ (r.t G c ρ) (fun k => match k with | true => r.s G a ρ | false => r.s G b ρ)) _) μ = _
  unfold endD M.bind withX
  rw [h]
  simp only
  rw [h1]
  rfl
theorem end_if0 (h : r.t G c ρ μ = .ok false μ1) (h1 : r.s G b ρ μ1 = .ok (.next ρ') μ2) : endD (sD r G (.If c a b p :: rest) ρ) μ = endD (sD r G rest ρ') μ2 := by
  show endD (M.bind (withX ρ (r.t G c ρ) (fun k => match k with | true => r.s G a ρ | false => r.s G b ρ)) _) μ = _
  unfold endD M.bind withX
  rw [h]
  simp only
  rw [h1]
theorem end_expr (hc : isComp e = false) (h : r.e G e ρ μ = .ok d μ1) : endD (sD r G (.Expr e p :: rest) ρ) μ = endD (sD r G rest ρ) μ1 := by
  show endD (M.bind (if isComp e = false then withX ρ (r.e G e ρ) (fun _ => yes (.next ρ)) else stuck) _) μ = _
  rw [if_pos hc]
  unfold endD M.bind withX
  rw [h]
  rfl
theorem end_exprX (hc : isComp e = false) (h : r.e G e ρ μ = .exc x μ1) : endD (sD r G (.Expr e p :: rest) ρ) μ = .exc x μ1 := by
  show endD (M.bind (if isComp e = false then withX ρ (r.e G e ρ) (fun _ => yes (.next ρ)) else stuck) _) μ = _
  rw [if_pos hc]
  unfold endD M.bind withX
  rw [h]
  rfl
theorem s_exprX (hc : isComp e = false) (h : r.e G e ρ μ = .exc x μ1) : sD r G (.Expr e p :: rest) ρ μ = .ok (.exc x ρ) μ1 := by
  show M.bind (if isComp e = false then withX ρ (r.e G e ρ) (fun _ => yes (.next ρ)) else stuck) _ μ = _
  rw [if_pos hc]
  unfold M.bind withX
  rw [h]
  rfl
end
abbrev bad : Ex := ⟨"InvalidLetters", []⟩
theorem req_of {v : D} {k : Bool} (μ : Sto) (h : d_is_letters [v] μ = .ok (.bl k) μ) : d_require_letters [v] μ = if k then .ok .non μ else .exc bad μ := by
  have ht : (den 39).t g_require_letters (match defBody s_require_letters with | .If c _ _ _ :: _ => c | _ => .Constant .none 0 ⟨0, 0, 0, 0⟩) [some v] μ = .ok (!k) μ :=
    t_not (bind_ok (b := D.bl k) (μ' := μ) (call_ok d_is_letters (ds := [v]) (by decide +kernel) rfl ⟨rfl, rfl, rfl, rfl⟩ rfl rfl h) rfl)
  cases k with
  | true => exact (end_if0 ht rfl).trans rfl
  | false => exact end_ifX ht rfl
theorem text_of {y : Str} {v : D} {b : Bool} (μ : Sto) (hy : d_is_letters [.str y] μ = .ok (.bl true) μ) (h : d_is_text_within [.str y, v] μ = .ok (.bl b) μ) : d_is_text [.str y, v] μ = .ok (.bl b) μ := by
  refine (end_expr rfl (call_ok d_require_letters (ds := [.str y]) (by decide +kernel) rfl ⟨rfl, rfl, rfl, rfl⟩ rfl rfl (req_of μ hy))).trans (end_ret.trans ?_)
  exact call_ok d_is_text_within (ds := [.str y, v]) (by decide +kernel) rfl ⟨rfl, rfl, rfl, rfl⟩ rfl rfl h
theorem text_no {v w : D} (μ : Sto) (hy : d_is_letters [v] μ = .ok (.bl false) μ) : d_is_text [v, w] μ = .exc bad μ :=
  end_exprX rfl (call_ok d_require_letters (ds := [v]) (by decide +kernel) rfl ⟨rfl, rfl, rfl, rfl⟩ rfl rfl (req_of μ hy))
theorem refused_of {v : D} (μ : Sto) (hy : d_is_letters [v] μ = .ok (.bl false) μ) : d__law_refused [v] μ = .ok (.bl true) μ := by
  have hb : (den 39).s g__law_refused (match defBody s__law_refused with | .Try b _ _ _ _ :: _ => b | _ => []) [some v] μ = .ok (.exc bad [some v]) μ :=
    s_exprX rfl (call_ok d_is_text (ds := [v, .str "a"]) (by decide +kernel) rfl ⟨rfl, rfl, rfl, rfl⟩ rfl rfl (text_no μ hy))
  show endD (M.bind (catchD ((den 39).s g__law_refused (match defBody s__law_refused with | .Try b _ _ _ _ :: _ => b | _ => []) [some v]) _) _) μ = _
  unfold endD M.bind catchD
  rw [hb]
  rfl
end K00

set_option Elab.async false
set_option linter.all false
set_option maxRecDepth 100000
set_option maxHeartbeats 1000000
/-! k00: numbers; the law's own spelling. -/
namespace K00
open PySem L2 Pu
def big : Int := ((10 : Int) ^ 50) ^ 4
def isl (i : Int) : Bool := decide (-(big - 1) ≤ i) && decide (i ≤ big - 1)
theorem a_integer (i : Int) (μ : Sto) : d_is_integer [.int i] μ = .ok (.bl (isl i)) μ := by
  refine end_ret.trans ?_
  refine bool_and (k := true) rfl (fun _ => ?_) (fun z => nomatch z)
  refine bool_and (k := true) rfl (fun _ => ?_) (fun z => nomatch z)
  refine bool_one.trans ?_
  exact bind_ok (b := .int (-(big - 1))) (μ' := μ) rfl (bind_ok (b := .int i) (μ' := μ) rfl (chain_ok (w := .int (big - 1)) rfl rfl rfl))
theorem long_eq (i : Int) : decide ((if i < 0 then -i else i) < big) = isl i := by
  unfold isl
  generalize big = N
  rw [← Bool.decide_and, decide_eq_decide]
  split <;> omega
theorem a_long (i : Int) (μ : Sto) : d__law_is_long [.int i] μ = .ok (.bl (isl i)) μ := by
  show endD (sD (den 39) g__law_is_long (defBody s__law_is_long) [some (.int i)]) μ = _
  refine end_if (k := false) ?_ ?_ ?_ ?_
  · refine t_or (k := false) (t_not (k := true) rfl) (fun _ => ?_) (fun z => nomatch z)
    rfl
  · exact fun z => nomatch z
  · intro _
    refine end_ret.trans ?_
    refine bind_ok (b := .int (if i < 0 then -i else i)) (μ' := μ) rfl (bind_ok (b := .int big) (μ' := μ) rfl ?_)
    show R.ok (D.bl (decide ((if i < 0 then -i else i) < big))) μ = _
    rw [long_eq]
  · rfl
/-! ### spelled -/
theorem toPy_sgs : ∀ cs : List Nat, toPyL (cs.map fun c => D.str (sg c)) = some (cs.map fun c => PyData.str (sg c))
  | [] => rfl
  | c :: r => by
    show (match toPy (D.str (sg c)), toPyL (r.map fun c => D.str (sg c)) with | some p, some ps => some (p :: ps) | _, _ => none) = _
    rw [toPy_sgs r]
    rfl
theorem lay_sgs : ∀ cs : List Nat, (∀ c ∈ cs, c < 128) → PyData.canLayAll0 (cs.map fun c => PyData.str (sg c)) = true
  | [], _ => by simp [PyData.canLayAll0]
  | c :: r, h => by
    have hc := h c List.mem_cons_self
    rw [List.map_cons]
    unfold PyData.canLayAll0
    rw [lay_sgs r fun d hd => h d (List.mem_cons_of_mem _ hd), Bool.and_true]
    unfold PyData.canLay0 PyData.strOk
    simp
    omega
theorem depth_sgs : ∀ cs : List Nat, PyData.depthAll (cs.map fun c => PyData.str (sg c)) = 0
  | [] => by simp [PyData.depthAll]
  | c :: r => by
    rw [List.map_cons]
    unfold PyData.depthAll
    rw [depth_sgs r]
    simp [PyData.depth]
theorem eq_nil (cs : List Nat) (h : ∀ c ∈ cs, c < 128) (μ : Sto) : cmpD .Eq (.lst (cs.map fun c => .str (sg c))) (.lst []) μ = .ok (.bl cs.isEmpty) μ := by
  show (match (match (toPyL (cs.map fun c => D.str (sg c))).map PyData.list, (toPyL []).map PyData.list with
    | some p, some q => if SeqAt.shaped p = true ∧ SeqAt.shaped q = true then some (PyData.eqv p q) else none
    | _, _ => none) with
    | some k => R.ok (D.bl (if false then !k else k)) μ
    | none => .stuck) = _
  rw [toPy_sgs]
  have s1 : SeqAt.shaped (PyData.list (cs.map fun c => PyData.str (sg c))) = true := by
    unfold SeqAt.shaped
    rw [show (PyData.list (cs.map fun c => PyData.str (sg c))).canLay0 = PyData.canLayAll0 (cs.map fun c => PyData.str (sg c)) by simp [PyData.canLay0], lay_sgs cs h]
    rw [show (PyData.list (cs.map fun c => PyData.str (sg c))).depth = PyData.depthAll (cs.map fun c => PyData.str (sg c)) + 1 by simp [PyData.depth], depth_sgs]
    rfl
  have s2 : SeqAt.shaped (PyData.list []) = true := by decide +kernel
  show (match (if SeqAt.shaped (PyData.list (cs.map fun c => PyData.str (sg c))) = true ∧ SeqAt.shaped (PyData.list []) = true then some (PyData.eqv (PyData.list (cs.map fun c => PyData.str (sg c))) (PyData.list [])) else none) with
    | some k => R.ok (D.bl (if false then !k else k)) μ
    | none => .stuck) = _
  rw [if_pos ⟨s1, s2⟩]
  show R.ok (D.bl (PyData.eqv (PyData.list (cs.map fun c => PyData.str (sg c))) (PyData.list []))) μ = _
  congr 2
  cases cs with
  | nil => simp [PyData.eqv, PyData.eqvAll]
  | cons c r => simp [PyData.eqv, PyData.eqvAll]
theorem alphabet : tl ("abcdefghijklmnopqrstuvwxyz" : Str) = List.range' 97 26 := by decide +kernel
theorem in_az (c : Nat) : decide (c ∈ tl ("abcdefghijklmnopqrstuvwxyz" : Str)) = az c := by
  unfold az
  rw [alphabet, ← Bool.decide_and, decide_eq_decide, List.mem_range'_1]
  omega
theorem filter_all : ∀ (l : List Nat) (p : Nat → Bool), (l.filter fun c => !p c).isEmpty = l.all p
  | [], p => rfl
  | c :: r, p => by
    rw [List.filter_cons, List.all_cons]
    cases h : p c with
    | true => simp [filter_all r p]
    | false => simp
/-- [s for s in x if s not in y] == [] -/
theorem none_out {G : Pu.Ctx} {μ : Sto} {x : Str} (h : Okt x) {p : Nat → Bool} : cmpD .Eq (.lst (((tl x).filter fun c => !p c).map fun c => .str (sg c))) (.lst []) μ = .ok (.bl ((tl x).all p)) μ := by
  rw [eq_nil _ (fun c hc => h.lo c (List.mem_filter.mp hc).1), filter_all]
def spl (x : Str) : Bool := decide (1 ≤ x.cps.size) && decide (x.cps.size ≤ 8) && (tl x).all az
theorem turn_f {G : Pu.Ctx} {μ : Sto} {b : Bool} {c : Nat} {x : M Bool} {y : M D} (h1 : x μ = .ok b μ) (h2 : y μ = .ok (.str (sg c)) μ) : (x >>= fun b => if b = true then (y >>= fun y => yes (some y)) else yes none) μ = .ok (if b then some (.str (sg c)) else none) μ := by
  refine bind_ok h1 ?_
  cases b with
  | true => exact bind_ok h2 rfl
  | false => rfl
theorem a_spelled {x : Str} (μ : Sto) (h : Okt x) : d__law_spelled [.str x] μ = .ok (.bl (spl x)) μ := by
  have hl := len_str (μ := μ) h.sh
  refine end_if (k := decide ((x.cps.size : Int) = 0) || decide ((x.cps.size : Int) > 8)) (t_or (k := false) (t_not (k := true) rfl) (fun _ => ?_) (fun z => nomatch z)) (fun z => ⟨.bl false, rfl, ?_⟩) (fun z => ?_) rfl
  · refine t_or (k := decide ((x.cps.size : Int) = 0)) (bind_ok (b := .bl (decide ((x.cps.size : Int) = 0))) (μ' := μ) (bind_ok (b := .int x.cps.size) (μ' := μ) (bind_ok (b := [.str x]) (μ' := μ) rfl hl) (bind_ok (b := .int 0) (μ' := μ) rfl rfl)) rfl) (fun z => ?_) (fun z => ?_)
    · rw [z]
      exact bind_ok (b := .bl (decide ((x.cps.size : Int) > 8))) (μ' := μ) (bind_ok (b := .int x.cps.size) (μ' := μ) (bind_ok (b := [.str x]) (μ' := μ) rfl hl) (bind_ok (b := .int 8) (μ' := μ) rfl rfl)) rfl
    · rw [z]
      rfl
  · simp only [Bool.or_eq_true, decide_eq_true_eq] at z
    unfold spl
    have e : (decide (1 ≤ x.cps.size) && decide (x.cps.size ≤ 8)) = false := by
      rw [Bool.and_eq_false_iff, decide_eq_false_iff_not, decide_eq_false_iff_not]
      omega
    rw [e]
    rfl
  · simp only [Bool.or_eq_false_iff, decide_eq_false_iff_not] at z
    have e : spl x = (tl x).all az := by
      unfold spl
      rw [decide_eq_true (show 1 ≤ x.cps.size by omega), decide_eq_true (show x.cps.size ≤ 8 by omega)]
      rfl
    rw [e]
    refine end_ret.trans ?_
    refine bind_ok (b := .lst (((tl x).filter fun c => !az c).map fun c => .str (sg c))) (μ' := μ) (bind_ok (b := signsL x) (μ' := μ) rfl (bind_ok (b := ((tl x).filter fun c => !az c).map fun c => .str (sg c)) (μ' := μ) (noX_ok (comp_sgF h.sh fun c _ => ?_)) rfl)) (bind_ok (b := .lst []) (μ' := μ) rfl (none_out (G := g__law_spelled) h))
    refine turn_f (G := g__law_spelled) (bind_ok (b := .bl (!az c)) (μ' := μ) (bind_ok (b := .str (sg c)) (μ' := μ) rfl (bind_ok (b := .str "abcdefghijklmnopqrstuvwxyz") (μ' := μ) rfl ?_)) rfl) rfl
    rw [nin_sg, in_az]
theorem a_isin {y x : Str} (μ : Sto) (h : Okt x) : d__law_is_in [.str y, .str x] μ = .ok (.bl (wi y x)) μ := by
  refine end_ret.trans ?_
  refine bool_and (k := true) rfl (fun _ => ?_) (fun z => nomatch z)
  refine bool_one.trans ?_
  refine bind_ok (b := .lst (((tl x).filter fun c => !decide (c ∈ tl y)).map fun c => .str (sg c))) (μ' := μ) (bind_ok (b := signsL x) (μ' := μ) rfl (bind_ok (b := ((tl x).filter fun c => !decide (c ∈ tl y)).map fun c => .str (sg c)) (μ' := μ) (noX_ok (comp_sgF h.sh fun c _ => ?_)) rfl)) (bind_ok (b := .lst []) (μ' := μ) rfl (none_out (G := g__law_spelled) h))
  exact turn_f (G := g__law_spelled) (bind_ok (b := .bl (!decide (c ∈ tl y))) (μ' := μ) (bind_ok (b := .str (sg c)) (μ' := μ) rfl (bind_ok (b := .str y) (μ' := μ) rfl (nin_sg y c μ))) rfl) rfl
end K00

set_option Elab.async false
set_option linter.all false
set_option maxRecDepth 100000
set_option maxHeartbeats 1000000
/-! k00: letters in order, by the law's own sort. -/
namespace K00
open PySem L2 Pu
theorem asc_pw : ∀ l : List Nat, asc l = true ↔ l.Pairwise (· < ·)
  | [] => by simp [asc]
  | [c] => by simp [asc]
  | c :: d :: r => by
    have ih := asc_pw (d :: r)
    have e : asc (c :: d :: r) = (decide (c < d) && asc (d :: r)) := rfl
    rw [e, Bool.and_eq_true, decide_eq_true_eq, ih, List.pairwise_cons (a := c)]
    constructor
    · rintro ⟨h1, h2⟩
      obtain ⟨p1, _⟩ := List.pairwise_cons.mp h2
      exact ⟨fun y hy => (List.mem_cons.mp hy).elim (fun e => e ▸ h1) fun e => Nat.lt_trans h1 (p1 y e), h2⟩
    · rintro ⟨h1, h2⟩
      exact ⟨h1 d List.mem_cons_self, h2⟩
theorem asc_sort (l : List Nat) : asc l = decide (l = sortN l) := by
  rw [Bool.eq_iff_iff, asc_pw, decide_eq_true_eq]
  constructor
  · intro h
    exact ris_uniq l _ h (ris_sortN l) fun k => (mem_sortN l).symm
  · intro h
    rw [h]
    exact ris_sortN l
theorem glue_go : ∀ (ps : List Str) (a : Array Nat), ((ps.foldl (fun acc p => acc ++ (Str.ofString "").cps ++ p.cps) a).toList) = a.toList ++ ps.flatMap fun p => p.cps.toList
  | [], a => by simp
  | p :: ps, a => by
    rw [List.foldl_cons, glue_go ps, List.flatMap_cons, show (Str.ofString "").cps = #[] from rfl]
    simp
theorem tl_join (ps : List Str) : tl (Txt.join "" ps) = ps.flatMap fun p => p.cps.toList := by
  show (((ps.drop 1).foldl (fun acc p => acc ++ (Str.ofString "").cps ++ p.cps) (ps.headD Str.empty).cps).toList) = _
  rw [glue_go]
  cases ps with
  | nil => rfl
  | cons p r => rfl
theorem flat_sg (l : List Nat) : (l.map sg).flatMap (fun p => p.cps.toList) = l := by
  induction l with
  | nil => rfl
  | cons c r ih =>
    rw [List.map_cons, List.flatMap_cons, ih]
    rfl
theorem tl_inj {x y : Str} (h : tl x = tl y) : x = y := by
  cases x with
  | mk a =>
    cases y with
    | mk b =>
      congr 1
      exact Array.toList_inj.mp h
theorem strs_sg : ∀ l : List Nat, strsOf (l.map fun c => D.str (Froz.sing c)) = some (l.map sg)
  | [] => rfl
  | c :: r => by
    show (strsOf (r.map fun c => D.str (Froz.sing c))).map (_ :: ·) = _
    rw [strs_sg r]
    rfl
theorem sum_sg : ∀ l : List Nat, ((l.map sg).map (·.length)).sum = l.length
  | [] => rfl
  | c :: r => by
    rw [List.map_cons, List.map_cons, List.sum_cons, sum_sg r, List.length_cons]
    show 1 + r.length = r.length + 1
    omega
/-- ''.join of signs -/
theorem join_sg {l : List Nat} {μ : Sto} (h : l.length ≤ 64) : joinD "" (.lst (l.map fun c => D.str (Froz.sing c))) μ = .ok (.str (Txt.join "" (l.map sg))) μ := by
  unfold joinD
  show (match (some (l.map fun c => D.str (Froz.sing c))).bind strsOf with | some ys => if (ys.map fun z : Str => Str.length z).sum + ys.length * (Str.ofString "").length ≤ 16777216 then R.ok (D.str (Txt.join "" ys)) μ else R.stuck | none => R.stuck) = _
  rw [Option.bind_some, strs_sg]
  show (if ((l.map sg).map fun z : Str => Str.length z).sum + (l.map sg).length * (Str.ofString "").length ≤ 16777216 then R.ok (D.str (Txt.join "" (l.map sg))) μ else R.stuck) = _
  rw [if_pos]
  rw [sum_sg, show (Str.ofString "").length = 0 from rfl]
  omega
theorem a_signs {x : Str} (μ : Sto) (h : Okt x) : d__law_are_signs [.str x] μ = .ok (.bl (lts x)) μ := by
  show endD (sD (den 39) g__law_are_signs (defBody s__law_are_signs) [some (.str x)]) μ = _
  refine end_if (k := !(decide ((1 : Int) ≤ x.cps.size) && decide ((x.cps.size : Int) ≤ 4))) ?_ ?_ ?_ ?_
  · refine t_or (k := false) (t_not (k := true) rfl) (fun _ => ?_) (fun z => nomatch z)
    refine t_not (k := decide ((1 : Int) ≤ x.cps.size) && decide ((x.cps.size : Int) ≤ 4)) ?_
    refine bind_ok (b := .bl (decide ((1 : Int) ≤ x.cps.size) && decide ((x.cps.size : Int) ≤ 4))) (μ' := μ) (bind_ok (b := .int 1) (μ' := μ) rfl (bind_ok (b := .int x.cps.size) (μ' := μ) (bind_ok (b := [.str x]) (μ' := μ) rfl (len_str h.sh)) (chain_ok (w := .int 4) rfl rfl rfl))) rfl
  · refine fun z => ⟨.bl false, rfl, ?_⟩
    unfold lts
    have e : (decide (1 ≤ x.cps.size) && decide (x.cps.size ≤ 4)) = false := by
      rw [Bool.not_eq_true', Bool.and_eq_false_iff, decide_eq_false_iff_not, decide_eq_false_iff_not] at z
      rw [Bool.and_eq_false_iff, decide_eq_false_iff_not, decide_eq_false_iff_not]
      omega
    rw [e]
    rfl
  · intro z
    rw [Bool.not_eq_false', Bool.and_eq_true, decide_eq_true_eq, decide_eq_true_eq] at z
    have e1 : lts x = ((tl x).all az && asc (tl x)) := by
      unfold lts
      rw [decide_eq_true (show 1 ≤ x.cps.size by omega), decide_eq_true (show x.cps.size ≤ 4 by omega)]
      rfl
    have e2 : spl x = (tl x).all az := by
      unfold spl
      rw [decide_eq_true (show 1 ≤ x.cps.size by omega), decide_eq_true (show x.cps.size ≤ 8 by omega)]
      rfl
    rw [e1]
    refine end_ret.trans ?_
    refine bool_and (k := (tl x).all az) (call_ok d__law_spelled (ds := [.str x]) (by decide +kernel) rfl ⟨rfl, rfl, rfl, rfl⟩ rfl rfl (by rw [← e2]; exact a_spelled μ h)) (fun z => ?_) (fun z => ?_)
    · rw [z]
      refine bool_one.trans ?_
      refine bind_ok (b := .str x) (μ' := μ) rfl (bind_ok (b := .str (Txt.join "" ((sortN (tl x)).map sg))) (μ' := μ) (bind_ok (b := .str "") (μ' := μ) rfl (bind_ok (b := ("" : Str)) (μ' := μ) rfl (bind_ok (b := .lst ((sortN (tl x)).map fun c => .str (Froz.sing c))) (μ' := μ) (bind_ok (b := .str x) (μ' := μ) rfl ?_) (join_sg ?_)))) ?_)
      · show (if x.cps.size < 64 then R.ok (D.lst ((sortN x.cps.toList).map fun c => D.str (Froz.sing c))) μ else R.stuck) = _
        rw [if_pos (by omega)]
      · refine Nat.le_trans (len_sortN _) ?_
        rw [Array.length_toList]
        omega
      · show R.ok (D.bl (decide (x = Txt.join "" ((sortN (tl x)).map sg)))) μ = _
        rw [Bool.true_and, asc_sort]
        congr 2
        rw [decide_eq_decide]
        constructor
        · intro e
          have := congrArg tl e
          rw [tl_join, flat_sg] at this
          exact this
        · intro e
          refine tl_inj ?_
          rw [tl_join, flat_sg]
          exact e
    · rw [z]
      rfl
  · rfl
end K00

set_option Elab.async false
set_option linter.all false
set_option maxRecDepth 100000
set_option maxHeartbeats 1000000
/-! k00: the pot, and what is drawn from it. -/
namespace K00
open PySem L2 Pu
/-- the pot in cell c, at most n times drawn beyond its number -/
def PotAt (μ : Sto) (c : Nat) (n : Int) : Prop := ∃ a b k : Int, μ[c]? = some (.lst [.int a, .int b, .int k]) ∧ 0 ≤ k ∧ k ≤ n
theorem asS_cell {μ : Sto} {c : Nat} {xs : List D} (h : μ[c]? = some (.lst xs)) : asS μ (.cell c) = some xs := by
  show (match μ[c]? with | some (MO.lst ds) => some ds | _ => none) = _
  rw [h]
theorem ix_cell {μ : Sto} {c : Nat} {xs : List D} {j : Int} {d : D} (h : μ[c]? = some (.lst xs)) (e : L2.atI xs j = some d) : ixD (.cell c) (.int j) μ = .ok d μ := by
  show (match (asS μ (.cell c)).bind (fun xs => L2.atI xs j) with | some d => R.ok d μ | none => R.stuck) = _
  rw [asS_cell h, Option.bind_some, e]
theorem set_cell {μ : Sto} {c : Nat} {xs : List D} {j : Int} {i : Nat} {v : D} (h : μ[c]? = some (.lst xs)) (e : ixN xs.length j = some i) : setD (.cell c) (.int j) v μ = .ok () (μ.set c (.lst (xs.set i v))) := by
  show (match μ[c]? with | some (MO.lst xs) => (match ixN xs.length j with | some i => R.ok () (μ.set c (.lst (xs.set i v))) | none => R.stuck) | _ => R.stuck) = _
  rw [h]
  show (match ixN xs.length j with | some i => R.ok () (μ.set c (.lst (xs.set i v))) | none => R.stuck) = _
  rw [e]
theorem at_set {μ : Sto} {c : Nat} {o o' : MO} (h : μ[c]? = some o) : (μ.set c o')[c]? = some o' := by
  have := (List.getElem?_eq_some_iff.mp h).1
  rw [List.getElem?_set_self this]
theorem log_lt {i : Int} (h1 : 0 ≤ i) (h2 : i < 2 ^ 70) : i.natAbs.log2 < 1000 := by
  by_cases e : i.natAbs = 0
  · rw [e]; decide
  · refine Nat.lt_of_lt_of_le ((Nat.log2_lt e).mpr (?_ : i.natAbs < 2 ^ 70)) (by decide)
    omega
theorem mul_ok {i j : Int} {μ : Sto} (h1 : 0 ≤ i) (h2 : i < 2 ^ 70) (h3 : 0 ≤ j) (h4 : j < 2 ^ 70) : binD .Mult (.int i) (.int j) μ = .ok (.int (i * j)) μ := by
  show (if i.natAbs.log2 + j.natAbs.log2 < 1000000 then R.ok (D.int (i * j)) μ else R.stuck) = _
  have := log_lt h1 h2
  have := log_lt h3 h4
  rw [if_pos (by omega)]
theorem mod_ok {i j : Int} {μ : Sto} (h : 0 < j) : binD .Mod (.int i) (.int j) μ = .ok (.int (i % j)) μ := by
  show (if 0 < j then R.ok (D.int (i % j)) μ else R.stuck) = _
  rw [if_pos h]
theorem div_ok {i j : Int} {μ : Sto} (h : 0 < j) (h2 : j < 2 ^ 70) : binD .FloorDiv (.int i) (.int j) μ = .ok (.int (i / j)) μ := by
  show (if 0 < j ∧ j.natAbs.log2 < 9000 then R.ok (D.int (i / j)) μ else R.stuck) = _
  have := log_lt (Int.le_of_lt h) h2
  rw [if_pos ⟨h, by omega⟩]
/-- o[i] = e -/
theorem rs_sub {r : Dn} {G : Pu.Ctx} {ρ : Sl} {μ : Sto} {K : Fl → Sto → Prop} {rest : List Stmt} {o i e : Expr} {p pos : Pos} (hc : isComp e = false ∧ isSlice i = false) (h : Run ((do let v ← r.e G e ρ; let x ← r.e G o ρ; let k ← r.e G i ρ; setD x k v : M Unit) μ) fun _ μ1 => Run (sD r G rest ρ μ1) K) : Run (sD r G (.Assign [.Subscript o i p] e pos :: rest) ρ μ) K := by
  refine rs_cons ?_
  show Run ((if isComp e = false ∧ isSlice i = false then withX ρ (do let v ← r.e G e ρ; let x ← r.e G o ρ; let k ← r.e G i ρ; setD x k v) (fun _ => yes (.next ρ)) else stuck) μ) _
  rw [if_pos hc]
  exact run_with (h.mono fun _ _ q => q)
theorem bit {μ : Sto} {c : Nat} {n m : Int} (hp : PotAt μ c n) (hn : n ≤ 1000000) (h0 : 0 < m) (h1 : m < 2 ^ 70) : Run (d__law_bit [.cell c, .int m] μ) fun d μ' => ∃ r, d = .int r ∧ 0 ≤ r ∧ r < m ∧ PotAt μ' c (n + 1) ∧ μ'.length = μ.length := by
  obtain ⟨a, b, k, hc, k0, k1⟩ := hp
  refine run_def ?_
  show Run (sD (den 39) g__law_bit (defBody s__law_bit) [some (.cell c), some (.int m), none, none, none] μ) _
  refine rs_if (run_ok (a := decide (a > 0)) (μ := μ) ?_ ⟨fun z => ?_, fun z => ?_⟩)
  · exact bind_ok (b := .bl (decide (a > 0))) (μ' := μ) (bind_ok (b := .int a) (μ' := μ) (bind_ok (b := .cell c) (μ' := μ) rfl (bind_ok (b := .int 0) (μ' := μ) rfl (ix_cell hc rfl))) (bind_ok (b := .int 0) (μ' := μ) rfl rfl)) rfl
  · -- drawn from the number
    refine rs_set (X := (den 38).e g__law_bit _ _) rfl (run_ok (a := .int (a % m)) (μ := μ) (bind_ok (b := .int a) (μ' := μ) (bind_ok (b := [.int a]) (μ' := μ) (bind_ok (b := .int a) (μ' := μ) (bind_ok (b := .cell c) (μ' := μ) rfl (bind_ok (b := .int 0) (μ' := μ) rfl (ix_cell hc rfl))) rfl) rfl) (bind_ok (b := .int m) (μ' := μ) rfl (mod_ok h0))) ⟨_, rfl, ?_⟩)
    refine rs_sub ⟨rfl, rfl⟩ (run_ok (bind_ok (b := .int (a / m)) (μ' := μ) (bind_ok (b := .int a) (μ' := μ) (bind_ok (b := .cell c) (μ' := μ) rfl (bind_ok (b := .int 0) (μ' := μ) rfl (ix_cell hc rfl))) (bind_ok (b := .int m) (μ' := μ) rfl (div_ok h0 h1))) (bind_ok (b := .cell c) (μ' := μ) rfl (bind_ok (b := .int 0) (μ' := μ) rfl (set_cell hc (i := 0) rfl)))) ?_)
    exact rs_ret (run_ok (a := .int (a % m)) rfl ⟨_, rfl, Int.emod_nonneg _ (by omega), Int.emod_lt_of_pos _ h0, ⟨_, _, _, at_set hc, k0, by omega⟩, List.length_set ..⟩)
  · show Run (sD (den 39) g__law_bit ((defBody s__law_bit).drop 1) [some (.cell c), some (.int m), none, none, none] μ) _
    refine rs_sub ⟨rfl, rfl⟩ (run_ok (a := ()) (μ := μ.set c (.lst [.int a, .int b, .int (k + 1)])) (bind_ok (b := .int (k + 1)) (μ' := μ) (bind_ok (b := .int k) (μ' := μ) (bind_ok (b := .cell c) (μ' := μ) rfl (bind_ok (b := .int 2) (μ' := μ) rfl (ix_cell hc rfl))) (bind_ok (b := .int 1) (μ' := μ) rfl rfl)) (bind_ok (b := .cell c) (μ' := μ) rfl (bind_ok (b := .int 2) (μ' := μ) rfl (set_cell hc (i := 2) rfl)))) ?_)
    have hc2 : (μ.set c (.lst [.int a, .int b, .int (k + 1)]))[c]? = some (.lst [.int a, .int b, .int (k + 1)]) := at_set hc
    have hl : (μ.set c (.lst [.int a, .int b, .int (k + 1)])).length = μ.length := List.length_set ..
    generalize (μ.set c (.lst [.int a, .int b, .int (k + 1)])) = μ1 at hc2 hl
    show Run (sD (den 39) g__law_bit ((defBody s__law_bit).drop 2) [some (.cell c), some (.int m), none, none, none] μ1) _
    refine rs_set (X := (den 39).e g__law_bit _ _) rfl (run_ok (a := .int ((b + 1000453 * (k + 1)) % 2305843009213693951)) (μ := μ1) (bind_ok (b := .int (b + 1000453 * (k + 1))) (μ' := μ1) (bind_ok (b := [.int (b + 1000453 * (k + 1))]) (μ' := μ1) (bind_ok (b := .int (b + 1000453 * (k + 1))) (μ' := μ1)
      (bind_ok (b := .int b) (μ' := μ1) (bind_ok (b := .cell c) (μ' := μ1) rfl (bind_ok (b := .int 1) (μ' := μ1) rfl (ix_cell hc2 rfl))) (bind_ok (b := .int (1000453 * (k + 1))) (μ' := μ1) (bind_ok (b := .int 1000453) (μ' := μ1) rfl (bind_ok (b := .int (k + 1)) (μ' := μ1) (bind_ok (b := .cell c) (μ' := μ1) rfl (bind_ok (b := .int 2) (μ' := μ1) rfl (ix_cell hc2 rfl))) (mul_ok (by decide) (by decide) (by omega) (by omega)))) rfl)) rfl) rfl) (bind_ok (b := .int 2305843009213693951) (μ' := μ1) rfl (mod_ok (by decide)))) ⟨_, rfl, ?_⟩)
    have f0 : 0 ≤ (b + 1000453 * (k + 1)) % 2305843009213693951 := Int.emod_nonneg _ (by decide)
    have f1 : (b + 1000453 * (k + 1)) % 2305843009213693951 < 2305843009213693951 := Int.emod_lt_of_pos _ (by decide)
    generalize (b + 1000453 * (k + 1)) % 2305843009213693951 = f at f0 f1
    have g0 : 0 ≤ f * f % 2305843009213693921 := Int.emod_nonneg _ (by decide)
    have g1 : f * f % 2305843009213693921 < 2305843009213693921 := Int.emod_lt_of_pos _ (by decide)
    refine rs_set (X := (den 39).e g__law_bit _ _) rfl (run_ok (a := .int (f * f % 2305843009213693921 * f + 9103 * (k + 1))) (μ := μ1) (bind_ok (b := .int (f * f % 2305843009213693921 * f)) (μ' := μ1)
      (bind_ok (b := .int (f * f % 2305843009213693921)) (μ' := μ1) (bind_ok (b := .int (f * f)) (μ' := μ1) (bind_ok (b := [.int (f * f)]) (μ' := μ1) (bind_ok (b := .int (f * f)) (μ' := μ1) (bind_ok (b := .int f) (μ' := μ1) rfl (bind_ok (b := .int f) (μ' := μ1) rfl (mul_ok f0 (by omega) f0 (by omega)))) rfl) rfl) (bind_ok (b := .int 2305843009213693921) (μ' := μ1) rfl (mod_ok (by decide)))) (bind_ok (b := .int f) (μ' := μ1) rfl (mul_ok g0 (by omega) f0 (by omega))))
      (bind_ok (b := .int (9103 * (k + 1))) (μ' := μ1) (bind_ok (b := .int 9103) (μ' := μ1) rfl (bind_ok (b := .int (k + 1)) (μ' := μ1) (bind_ok (b := .cell c) (μ' := μ1) rfl (bind_ok (b := .int 2) (μ' := μ1) rfl (ix_cell hc2 rfl))) (mul_ok (by decide) (by decide) (by omega) (by omega)))) rfl)) ⟨_, rfl, ?_⟩)
    generalize f * f % 2305843009213693921 * f + 9103 * (k + 1) = l
    refine rs_ret (run_ok (a := .int (l % 2305843009213693907 / 16384 % m)) (μ := μ1) ?_ ⟨_, rfl, Int.emod_nonneg _ (by omega), Int.emod_lt_of_pos _ h0, ⟨_, _, _, hc2, by omega, by omega⟩, hl⟩)
    exact bind_ok (b := .int (l % 2305843009213693907 / 16384)) (μ' := μ1) (bind_ok (b := [.int (l % 2305843009213693907 / 16384)]) (μ' := μ1) (bind_ok (b := .int (l % 2305843009213693907 / 16384)) (μ' := μ1) (bind_ok (b := .int (l % 2305843009213693907)) (μ' := μ1) (bind_ok (b := .int l) (μ' := μ1) (bind_ok (b := [.int l]) (μ' := μ1) rfl rfl) (bind_ok (b := .int 2305843009213693907) (μ' := μ1) rfl (mod_ok (by decide)))) (bind_ok (b := .int 16384) (μ' := μ1) rfl (div_ok (by decide) (by decide)))) rfl) rfl) (bind_ok (b := .int m) (μ' := μ1) rfl (mod_ok h0))
end K00

set_option Elab.async false
set_option linter.all false
set_option maxRecDepth 100000
set_option maxHeartbeats 1000000
/-! k00: the pot made; picks, letters, numbers. -/
namespace K00
open PySem L2 Pu
theorem run_call {k n : Nat} {G : Pu.Ctx} {f : Str} {p pos : Pos} {es : List Expr} {ρ : Sl} {μ μ1 : Sto} {ds : List D} {Q : D → Sto → Prop} (F : List D → M D) (hf : f ≠ "sorted") (hfn : G.fn f = some (n, F)) (hc : okName f = true ∧ noStar es = true ∧ glB G.sc f = true ∧ G.hot = false)
    (ha : aD (den k) G es ρ μ = .ok ds μ1) (hl : ds.length = n) (h : Run (F ds μ1) Q) : Run ((den (k + 1)).e G (.Call (.Name f p) es [] pos) ρ μ) Q := by
  obtain ⟨d, μ2, e, q⟩ := h.out
  exact run_ok (call_ok F hf hfn hc ha hl e) q
theorem rs_asg {r : Dn} {G : Pu.Ctx} {ρ : Sl} {μ : Sto} {K : Fl → Sto → Prop} {rest : List Stmt} {x : Str} {p pos : Pos} {e : Expr} (hc : isComp e = false ∧ canN G x = true) (h : Run (r.e G e ρ μ) fun d μ1 => ∃ ρ', gN G x d ρ = some ρ' ∧ Run (sD r G rest ρ' μ1) K) : Run (sD r G (.Assign [.Name x p] e pos :: rest) ρ μ) K := by
  refine rs_set (X := r.e G e ρ) ?_ h
  unfold asgN
  rw [if_pos hc.2]
  unfold asgN1
  cases e <;> first | rfl | cases hc.1
theorem if_val {r : Dn} {G : Pu.Ctx} {ρ : Sl} {μ : Sto} {c a b : Expr} {k : Bool} {Q : D → Sto → Prop} (h : r.t G c ρ μ = .ok k μ) (h1 : k = true → Run (r.e G a ρ μ) Q) (h2 : k = false → Run (r.e G b ρ μ) Q) : Run (ifE r G c a b ρ μ) Q := by
  refine run_bind (run_ok h ?_)
  cases k with
  | true => exact h1 rfl
  | false => exact h2 rfl
theorem ix_ints {ns : List Int} {i : Nat} {μ : Sto} (h : i < ns.length) : ixD (.frz (ns.map D.int)) (.int i) μ = .ok (.int ns[i]) μ := by
  show (match (some (ns.map D.int)).bind (fun xs => L2.atI xs (i : Int)) with | some d => R.ok d μ | none => R.stuck) = _
  rw [Option.bind_some, L2.atI_nat (v := D.int ns[i]) (by rw [List.getElem?_map, List.getElem?_eq_getElem h]; rfl)]
def gr : Int := ((10 : Int) ^ 61) ^ 11
theorem gr_pos : 0 < gr := by decide +kernel
theorem pot_made {ns : List Int} {i : Nat} {μ : Sto} (hi : i < 64) : Run (d__law_pot [.frz (ns.map D.int), .int i] μ) fun d μ' => d = .cell μ.length ∧ ∃ a b : Int, μ' = μ ++ [.lst [.int a, .int b, .int 0]] := by
  refine run_def ?_
  show Run (sD (den 39) g__law_pot (defBody s__law_pot) [some (.frz (ns.map D.int)), some (.int i), none, none, none] μ) _
  refine rs_asg ⟨rfl, rfl⟩ (Run.mono (Q := fun d μ1 => ∃ v : Int, d = .int v ∧ μ = μ1) ?_ ?_)
  · refine if_val (k := decide ((i : Int) < (ns.map D.int).length)) (bind_ok (b := D.bl (decide ((i : Int) < (ns.map D.int).length))) (μ' := μ) (bind_ok (b := D.int i) (μ' := μ) rfl (bind_ok (b := D.int (ns.map D.int).length) (μ' := μ) rfl rfl)) rfl) (fun z => ?_) (fun z => ?_)
    · have z' : i < ns.length := by
        have := of_decide_eq_true z
        rw [List.length_map] at this
        omega
      exact run_ok (bind_ok (b := D.frz (ns.map D.int)) (μ' := μ) rfl (bind_ok (b := D.int i) (μ' := μ) rfl (ix_ints z'))) ⟨_, rfl, rfl⟩
    · exact run_ok (bind_ok (b := D.int (67 * i)) (μ' := μ) (bind_ok (b := D.int 67) (μ' := μ) rfl (bind_ok (b := D.int i) (μ' := μ) rfl (mul_ok (by decide) (by decide) (by omega) (by omega)))) (bind_ok (b := D.int 37) (μ' := μ) rfl rfl)) ⟨_, rfl, rfl⟩
  · rintro d _ ⟨v, rfl, rfl⟩
    refine ⟨_, rfl, ?_⟩
    show Run (sD (den 39) g__law_pot ((defBody s__law_pot).drop 1) [some (.frz (ns.map D.int)), some (.int i), some (.int v), none, none] μ) _
    refine rs_asg ⟨rfl, rfl⟩ ?_
    refine run_ok (a := .int ((if v < 0 then -v else v) % gr)) (μ := μ) (bind_ok (b := D.int (if v < 0 then -v else v)) (μ' := μ) (bind_ok (b := [D.int (if v < 0 then -v else v)]) (μ' := μ) rfl rfl) (bind_ok (b := D.int gr) (μ' := μ) rfl (mod_ok gr_pos))) ⟨_, rfl, ?_⟩
    generalize (if v < 0 then -v else v) % gr = g
    have m0 : 0 ≤ g % 2147483249 := Int.emod_nonneg _ (by decide)
    have m1 : g % 2147483249 < 2147483249 := Int.emod_lt_of_pos _ (by decide)
    have hn : (0 : Int) ≤ (if (decide (v < 0)) = true then 1 else 0) ∧ (if (decide (v < 0)) = true then (1 : Int) else 0) < 2 := by split <;> decide
    refine rs_asg ⟨rfl, rfl⟩ (run_ok (a := .int (g % 2147483249 * 96293 + 9413 * i + 47 * (if (decide (v < 0)) = true then 1 else 0) + 73)) (μ := μ) ?_ ⟨_, rfl, ?_⟩)
    · refine bind_ok (b := D.int (g % 2147483249 * 96293 + 9413 * i + 47 * (if (decide (v < 0)) = true then 1 else 0))) (μ' := μ) (bind_ok (b := D.int (g % 2147483249 * 96293 + 9413 * i)) (μ' := μ) (bind_ok (b := D.int (g % 2147483249 * 96293)) (μ' := μ) (bind_ok (b := D.int (g % 2147483249)) (μ' := μ) (bind_ok (b := D.int g) (μ' := μ) (bind_ok (b := [D.int g]) (μ' := μ) rfl rfl) (bind_ok (b := D.int 2147483249) (μ' := μ) rfl (mod_ok (by decide)))) (bind_ok (b := D.int 96293) (μ' := μ) rfl (mul_ok m0 (by omega) (by decide) (by decide))))
        (bind_ok (b := D.int (9413 * i)) (μ' := μ) (bind_ok (b := D.int 9413) (μ' := μ) rfl (bind_ok (b := D.int i) (μ' := μ) rfl (mul_ok (by decide) (by decide) (by omega) (by omega)))) rfl))
        (bind_ok (b := D.int (47 * (if (decide (v < 0)) = true then 1 else 0))) (μ' := μ) (bind_ok (b := D.int 47) (μ' := μ) rfl (bind_ok (b := D.int (if (decide (v < 0)) = true then 1 else 0)) (μ' := μ) (bind_ok (b := [D.bl (decide (v < 0))]) (μ' := μ) rfl rfl) (mul_ok (by decide) (by decide) hn.1 (by omega)))) rfl)) (bind_ok (b := D.int 73) (μ' := μ) rfl rfl)
    · generalize g % 2147483249 * 96293 + 9413 * i + 47 * (if (decide (v < 0)) = true then 1 else 0) + 73 = bl
      refine rs_ret (run_ok (a := .cell μ.length) (μ := μ ++ [.lst [.int (if g - 10 ^ 18 > 0 then g - 10 ^ 18 else 0), .int (bl % 2305843009213693907), .int 0]]) ?_ ⟨rfl, _, _, rfl⟩)
      refine bind_ok (b := [D.int (if g - 10 ^ 18 > 0 then g - 10 ^ 18 else 0), .int (bl % 2305843009213693907), .int 0]) (μ' := μ) (bind_ok (b := D.int (if g - 10 ^ 18 > 0 then g - 10 ^ 18 else 0)) (μ' := μ) (bind_ok (b := [D.int 0, .int (g - 10 ^ 18)]) (μ' := μ) rfl rfl) (bind_ok (b := [D.int (bl % 2305843009213693907), .int 0]) (μ' := μ) (bind_ok (b := D.int (bl % 2305843009213693907)) (μ' := μ) (bind_ok (b := D.int bl) (μ' := μ) (bind_ok (b := [D.int bl]) (μ' := μ) rfl rfl) (bind_ok (b := D.int 2305843009213693907) (μ' := μ) rfl (mod_ok (by decide)))) rfl) rfl)) rfl
theorem at_int {xs : List D} {r : Int} (h0 : 0 ≤ r) (h1 : r < xs.length) : ∃ d ∈ xs, L2.atI xs r = some d := by
  obtain ⟨k, rfl⟩ := Int.eq_ofNat_of_zero_le h0
  have hk : k < xs.length := by omega
  exact ⟨xs[k], List.getElem_mem hk, L2.atI_nat (List.getElem?_eq_getElem hk)⟩
theorem pick {μ : Sto} {c : Nat} {n : Int} {xs : List D} (hp : PotAt μ c n) (hn : n ≤ 1000000) (h0 : xs ≠ []) (h1 : xs.length < 1000) : Run (d__law_pick [.cell c, .lst xs] μ) fun d μ' => d ∈ xs ∧ PotAt μ' c (n + 1) ∧ μ'.length = μ.length := by
  have hl : 0 < xs.length := List.length_pos_iff.mpr h0
  refine run_def ?_
  show Run (sD (den 39) g__law_pick (defBody s__law_pick) [some (.cell c), some (.lst xs)] μ) _
  refine rs_ret ?_
  refine run_bind (run_ok (a := .lst xs) (μ := μ) rfl (run_bind ?_))
  refine run_call d__law_bit (ds := [.cell c, .int xs.length]) (by decide +kernel) rfl ⟨rfl, rfl, rfl, rfl⟩ rfl rfl ((bit hp hn (by omega) (by omega)).mono ?_)
  rintro d μ1 ⟨r, rfl, r0, r1, hp1, hl1⟩
  obtain ⟨d, hd, e⟩ := at_int r0 r1
  refine run_ok (a := d) (μ := μ1) ?_ ⟨hd, hp1, hl1⟩
  show (match (some xs).bind (fun xs => L2.atI xs r) with | some d => R.ok d μ1 | none => R.stuck) = _
  rw [Option.bind_some, e]
theorem letter {μ : Sto} {c : Nat} {n : Int} (hp : PotAt μ c n) (hn : n ≤ 1000000) : Run (d__law_letter [.cell c] μ) fun d μ' => (∃ k, d = .str (sg k) ∧ az k = true) ∧ PotAt μ' c (n + 1) ∧ μ'.length = μ.length := by
  refine run_def ?_
  show Run (sD (den 39) g__law_letter (defBody s__law_letter) [some (.cell c)] μ) _
  refine rs_ret ?_
  refine run_bind (run_ok (a := .str "abcdefghijklmnopqrstuvwxyz") (μ := μ) rfl (run_bind ?_))
  refine run_call d__law_bit (ds := [.cell c, .int 26]) (by decide +kernel) rfl ⟨rfl, rfl, rfl, rfl⟩ rfl rfl ((bit hp hn (by decide) (by decide)).mono ?_)
  rintro d μ1 ⟨r, rfl, r0, r1, hp1, hl1⟩
  obtain ⟨k, rfl⟩ := Int.eq_ofNat_of_zero_le r0
  have hk : k < 26 := by omega
  refine run_ok (a := .str (sg (97 + k))) (μ := μ1) ?_ ⟨⟨97 + k, rfl, ?_⟩, hp1, hl1⟩
  · show (if ("abcdefghijklmnopqrstuvwxyz" : Str).length ≤ sizeLine then match L2.atI (tl "abcdefghijklmnopqrstuvwxyz") (k : Int) with | some c => R.ok (D.str ⟨#[c]⟩) μ1 | none => R.stuck else R.stuck) = _
    rw [if_pos (by decide +kernel), alphabet, L2.atI_nat (v := 97 + k) (by rw [List.getElem?_range' hk, Nat.one_mul])]
  · unfold az
    rw [decide_eq_true (by omega), decide_eq_true (by omega)]
    rfl
end K00

set_option Elab.async false
set_option linter.all false
set_option maxRecDepth 100000
set_option maxHeartbeats 1000000
/-! k00: the numbers and the texts that are asked. -/
namespace K00
open PySem L2 Pu
theorem rs_tup {r : Dn} {G : Pu.Ctx} {ρ : Sl} {μ : Sto} {K : Fl → Sto → Prop} {rest : List Stmt} {ts vs : List Expr} {p p2 pos : Pos} {k k2 : Nat} (h0 : G.hot = false) (h1 : swKind G.sc ts vs = 0)
    (h : Run (r.e G (.Tuple vs k2 p2) ρ μ) fun d μ1 => ∃ ρ', gD G (.Tuple ts k p) d ρ = some ρ' ∧ Run (sD r G rest ρ' μ1) K) : Run (sD r G (.Assign [.Tuple ts k p] (.Tuple vs k2 p2) pos :: rest) ρ μ) K := by
  refine rs_cons ?_
  show Run ((if G.hot = false then (if swKind G.sc ts vs = 0 then withX ρ (r.e G (.Tuple vs k2 p2) ρ) (fun d => storeT G (.Tuple ts k p) d ρ) else if swKind G.sc ts vs = 1 then swapD r G ts vs ρ else stuck) else stuck) μ) _
  rw [if_pos h0, if_pos h1]
  refine run_with (h.mono fun d μ1 q => ?_)
  obtain ⟨ρ', e, q⟩ := q
  unfold storeT
  rw [e]
  exact q
def most : Int := big * 10 ^ 10
theorem numbers {μ : Sto} {c : Nat} {n v : Int} (hp : PotAt μ c n) (hn : n ≤ 1000000) : Run (d__law_numbers [.cell c, .int v] μ) fun d μ' => (∃ L : List Int, d = .lst (L.map D.int) ∧ L.length = 14) ∧ PotAt μ' c (n + 1) ∧ μ'.length = μ.length := by
  refine run_def ?_
  show Run (sD (den 39) g__law_numbers (defBody s__law_numbers) [some (.cell c), some (.int v), none, none, none, none, none] μ) _
  refine rs_tup rfl (by decide +kernel) (run_ok (a := .tup [.int (v % most), .int big]) (μ := μ) (bind_ok (b := [D.int (v % most), .int big]) (μ' := μ) ?_ rfl) ⟨[some (.cell c), some (.int v), none, some (.int (v % most)), some (.int big), none, none], rfl, ?_⟩)
  · refine bind_ok (b := D.int (v % most)) (μ' := μ) (bind_ok (b := D.int v) (μ' := μ) (bind_ok (b := [D.int v]) (μ' := μ) rfl rfl) (bind_ok (b := D.int most) (μ' := μ) rfl (mod_ok (by decide +kernel)))) rfl
  · show Run (sD (den 39) g__law_numbers ((defBody s__law_numbers).drop 1) [some (.cell c), some (.int v), none, some (.int (v % most)), some (.int big), none, none] μ) _
    generalize v % most = g
    refine rs_asg ⟨rfl, rfl⟩ ?_
    refine run_bind (run_ok (a := .lst [.int (big + (0 - 2)), .int (big + (0 - 1)), .int (big + 0), .int (big + 1)]) (μ := μ) rfl (run_bind ?_))
    refine run_bind (run_bind (run_ok (a := .int g) (μ := μ) rfl (run_bind (run_bind ?_))))
    refine run_call d__law_bit (ds := [.cell c, .int 1000]) (by decide +kernel) rfl ⟨rfl, rfl, rfl, rfl⟩ rfl rfl ((bit hp hn (by decide) (by decide)).mono ?_)
    rintro d μ1 ⟨r, rfl, r0, r1, hp1, hl1⟩
    refine run_ok (a := [.int r, .int 0]) (μ := μ1) rfl ?_
    refine run_ok (a := [.int g, .int r, .int 0]) (μ := μ1) rfl ?_
    refine run_ok (a := .lst [.int g, .int r, .int 0]) (μ := μ1) rfl ?_
    refine run_ok (a := .lst [.int (big + (0 - 2)), .int (big + (0 - 1)), .int (big + 0), .int (big + 1), .int g, .int r, .int 0]) (μ := μ1) rfl ⟨_, rfl, ?_⟩
    show Run (sD (den 39) g__law_numbers ((defBody s__law_numbers).drop 2) [some (.cell c), some (.int v), some (.lst [.int (big + (0 - 2)), .int (big + (0 - 1)), .int (big + 0), .int (big + 1), .int g, .int r, .int 0]), some (.int g), some (.int big), none, none] μ1) _
    generalize big + (0 - 2) = n1
    generalize big + (0 - 1) = n2
    generalize big + 0 = n3
    generalize big + 1 = n4
    refine rs_ret ?_
    refine run_ok (a := .lst (([n1, n2, n3, n4, g, r, 0, 0 - n1, 0 - n2, 0 - n3, 0 - n4, 0 - g, 0 - r, 0 - 0] : List Int).map D.int)) (μ := μ1) rfl ⟨⟨_, rfl, rfl⟩, hp1, hl1⟩
end K00

set_option Elab.async false
set_option linter.all false
set_option maxRecDepth 100000
set_option maxHeartbeats 1000000
/-! k00: the texts that are asked. -/
namespace K00
open PySem L2 Pu
theorem tl_app (x y : Str) : tl (x ++ y) = tl x ++ tl y := by
  show (x.cps ++ y.cps).toList = _
  rw [Array.toList_append]
theorem size_tl (x : Str) : x.cps.size = (tl x).length := rfl
theorem tl_cut (z : Str) (lo hi : Option Int) : ∃ a b : Nat, tl (cutS z lo hi) = ((tl z).drop a).take b := ⟨_, _, List.toList_toArray⟩
theorem cut_mem {z : Str} {lo hi : Option Int} {c : Nat} (h : c ∈ tl (cutS z lo hi)) : c ∈ tl z := by
  obtain ⟨a, b, e⟩ := tl_cut z lo hi
  rw [e] at h
  exact List.mem_of_mem_drop (List.mem_of_mem_take h)
theorem cut_len (z : Str) (lo hi : Option Int) : (cutS z lo hi).cps.size ≤ z.cps.size := by
  obtain ⟨a, b, e⟩ := tl_cut z lo hi
  rw [size_tl, e, List.length_take, List.length_drop, size_tl]
  omega
theorem sl_ok {z : Str} {lo hi : Option Int} {μ : Sto} (h : Short z) : slD (.str z) lo hi μ = .ok (.str (cutS z lo hi)) μ := by
  show (if z.length ≤ sizeLine then R.ok (D.str (cutS z lo hi)) μ else R.stuck) = _
  rw [if_pos (show z.length ≤ sizeLine from h.fits)]
theorem add_str {x y : Str} {μ : Sto} (h1 : Short x) (h2 : Short y) : binD .Add (.str x) (.str y) μ = .ok (.str (x ++ y)) μ := by
  show (if x.length + y.length ≤ sizeLine then R.ok (D.str (x ++ y)) μ else R.stuck) = _
  have a1 : x.length ≤ 64 := h1
  have a2 : y.length ≤ 64 := h2
  rw [if_pos (Nat.le_trans (by omega : x.length + y.length ≤ 128) (by decide))]
theorem add_lst {xs ys : List D} {μ : Sto} (h : xs.length + ys.length ≤ 1000) : binD .Add (.lst xs) (.lst ys) μ = .ok (.lst (xs ++ ys)) μ := by
  show (if xs.length + ys.length ≤ sizeLine then R.ok (D.lst (xs ++ ys)) μ else R.stuck) = _
  rw [if_pos (Nat.le_trans h (by decide))]
/-- a word of small letters -/
structure Word (w : Str) : Prop where
  sz : w.cps.size ≤ 10
  az : ∀ c ∈ tl w, az c = true
theorem az_lo {c : Nat} (h : az c = true) : c < 128 := by
  unfold az at h
  simp only [Bool.and_eq_true, decide_eq_true_eq] at h
  omega
theorem Word.okt {w : Str} (h : Word w) : Okt w := ⟨Nat.le_trans h.sz (by decide), fun c hc => az_lo (h.az c hc)⟩
theorem word_of {l : List Nat} (h1 : l.length ≤ 10) (h2 : ∀ c ∈ l, az c = true) : Word (Txt.join "" (l.map sg)) := by
  refine ⟨?_, ?_⟩
  · rw [size_tl, tl_join, flat_sg]; exact h1
  · rw [tl_join, flat_sg]; exact h2
/-- ''.join([letter(pot) for at in range(bit(pot, 11))]) -/
def wordX : Expr := match (match (defBody s__law_strings).getD 1 (.Pass ⟨0, 0, 0, 0⟩) with | .For _ _ b _ _ => b.getD 0 (.Pass ⟨0, 0, 0, 0⟩) | s => s) with
  | .Assign _ e _ => e
  | _ => .Constant .none 0 ⟨0, 0, 0, 0⟩
theorem word_run {μ : Sto} {c : Nat} {n : Int} {ρ : Sl} {a1 a2 a3 a4 a5 : Option D} (hρ : ρ = [some (.cell c), a1, a2, a3, a4, a5, none]) (hp : PotAt μ c n) (hn : n ≤ 1000) :
    Run ((den 38).e g__law_strings wordX ρ μ) fun d μ' => (∃ w, d = .str w ∧ Word w) ∧ PotAt μ' c (n + 11) ∧ μ'.length = μ.length := by
  subst hρ
  refine run_bind (run_ok (a := .str "") (μ := μ) rfl (run_bind (run_ok (a := ("" : Str)) (μ := μ) rfl (run_bind ?_))))
  refine run_bind (run_bind ?_)
  refine run_call d__law_bit (ds := [.cell c, .int 11]) (by decide +kernel) rfl ⟨rfl, rfl, rfl, rfl⟩ rfl rfl ((bit hp (by omega) (by decide) (by decide)).mono ?_)
  rintro d μ1 ⟨r, rfl, r0, r1, hp1, hl1⟩
  have hlen : (rangeL 0 r.toNat).length = r.toNat := by
    unfold rangeL
    rw [List.length_map, List.length_range]
  refine run_ok (a := rangeL 0 r.toNat) (μ := μ1) ?_ ?_
  · show (if -(2 ^ 62) ≤ r ∧ r < 2 ^ 62 then R.ok (rangeL 0 r.toNat) μ1 else R.stuck) = _
    rw [if_pos (by omega)]
  · refine run_bind (run_noX (run_comp (I := fun j acc μ' => ∃ l : List Nat, acc = (l.map fun c => D.str (Froz.sing c)) ∧ l.length = j ∧ (∀ c ∈ l, az c = true) ∧ PotAt μ' c (n + 1 + j) ∧ μ'.length = μ.length) (rangeL 0 r.toNat) 0 [] μ1 ?_ ?_ ?_ ?_))
    · exact ⟨[], rfl, rfl, (fun _ z => nomatch z), by simpa using hp1, hl1⟩
    · rw [hlen]
      exact Nat.le_trans (by show 0 + r.toNat ≤ 11; omega) (by decide)
    · rintro j d acc μ2 hd ⟨l, rfl, e1, e2, hp2, hl2⟩
      have hj : j < r.toNat := by rw [← hlen]; exact (List.getElem?_eq_some_iff.mp hd).1
      refine run_bind (run_ok (a := true) (μ := μ2) rfl (run_bind ?_))
      refine run_call d__law_letter (ds := [.cell c]) (by decide +kernel) rfl ⟨rfl, rfl, rfl, rfl⟩ rfl rfl ((letter hp2 (by omega)).mono ?_)
      rintro _ μ3 ⟨⟨k, rfl, hk⟩, hp3, hl3⟩
      refine run_ok (a := some (.str (sg k))) (μ := μ3) rfl ⟨l ++ [k], ?_, ?_, ?_, ?_, hl3.trans hl2⟩
      · rw [List.map_append]
        rfl
      · rw [List.length_append, e1]
        rfl
      · intro c hc
        rcases List.mem_append.mp hc with h | h
        · exact e2 c h
        · rw [List.mem_singleton.mp h]
          exact hk
      · obtain ⟨a, b, k, q1, q2, q3⟩ := hp3
        exact ⟨a, b, k, q1, q2, by omega⟩
    · rintro acc μ2 ⟨l, rfl, e1, e2, hp2, hl2⟩
      have h10 : l.length ≤ 10 := by omega
      refine run_ok (a := .lst (l.map fun c => D.str (Froz.sing c))) (μ := μ2) rfl ?_
      refine run_ok (join_sg (by omega)) ⟨⟨_, rfl, word_of h10 e2⟩, ?_, hl2⟩
      obtain ⟨a, b, k, q1, q2, q3⟩ := hp2
      exact ⟨a, b, k, q1, q2, by omega⟩
def oddsL : List Str := ["A", "Z", "7", " ", "_", "\n", "@", "{", "."]
theorem odds_ok : ∀ x ∈ oddsL, Okt x := by
  intro x hx
  have : (oddsL.all fun x => decide (x.cps.size ≤ 1) && (tl x).all fun c => decide (c < 128)) = true := by decide +kernel
  have h := List.all_eq_true.mp this x hx
  simp only [Bool.and_eq_true, decide_eq_true_eq, List.all_eq_true] at h
  exact ⟨Nat.le_trans h.1 (by decide), h.2⟩
theorem odds_sz : ∀ x ∈ oddsL, x.cps.size ≤ 1 := by
  intro x hx
  have : (oddsL.all fun x => decide (x.cps.size ≤ 1)) = true := by decide +kernel
  exact of_decide_eq_true (List.all_eq_true.mp this x hx)
def startL : List Str := ["", "abcdefgh", "abcdefghi", "abcd", "abcde", "aa", "ba", "az", "A", "a b"]
theorem start_ok : ∀ x ∈ startL, Okt x := by
  intro x hx
  have : (startL.all fun x => decide (x.cps.size ≤ 64) && (tl x).all fun c => decide (c < 128)) = true := by decide +kernel
  have h := List.all_eq_true.mp this x hx
  simp only [Bool.and_eq_true, decide_eq_true_eq, List.all_eq_true] at h
  exact ⟨h.1, h.2⟩
theorem PotAt.le {μ : Sto} {c : Nat} {n m : Int} (h : PotAt μ c n) (hm : n ≤ m) : PotAt μ c m := let ⟨a, b, k, q1, q2, q3⟩ := h; ⟨a, b, k, q1, q2, by omega⟩
theorem strings {μ : Sto} {c : Nat} {n : Int} (hp : PotAt μ c n) (hn : n ≤ 100) : Run (d__law_strings [.cell c] μ) fun d μ' => (∃ L : List Str, d = .lst (L.map D.str) ∧ (∀ x ∈ L, Okt x) ∧ ("abcd" : Str) ∈ L ∧ L.length = 25) ∧ PotAt μ' c (n + 100) ∧ μ'.length = μ.length := by
  refine run_def ?_
  show Run (sD (den 39) g__law_strings (defBody s__law_strings) [some (.cell c), none, none, none, none, none, none] μ) _
  refine rs_asg ⟨rfl, rfl⟩ (run_ok (a := .lst (startL.map D.str)) (μ := μ) rfl ⟨[some (.cell c), some (.lst (startL.map D.str)), none, none, none, none, none], rfl, ?_⟩)
  refine rs_for (I := fun j ρ μ' => ∃ (L : List Str) (a2 a3 a4 a5 : Option D), ρ = [some (.cell c), some (.lst (L.map D.str)), a2, a3, a4, a5, none] ∧ (∀ x ∈ L, Okt x) ∧ ("abcd" : Str) ∈ L ∧ L.length = 10 + 3 * j ∧ PotAt μ' c (n + 20 * j) ∧ μ'.length = μ.length) (ds := rangeL 0 5) (μ1 := μ) ⟨rfl, rfl⟩ rfl
    ⟨startL, none, none, none, none, rfl, start_ok, by decide +kernel, rfl, by simpa using hp, rfl⟩ ?_ ?_
  · rintro j d _ μ1 hd ⟨L, a2, a3, a4, a5, rfl, hL, hA, hl, hp1, hl1⟩
    have hj : j < 5 := (List.getElem?_eq_some_iff.mp hd).1
    refine ⟨[some (.cell c), some (.lst (L.map D.str)), some d, a3, a4, a5, none], rfl, ?_⟩
    refine rs_asg ⟨rfl, rfl⟩ ((word_run (a1 := some (.lst (L.map D.str))) (a2 := some d) (a3 := a3) (a4 := a4) (a5 := a5) rfl hp1 (by omega)).mono ?_)
    rintro _ μ2 ⟨⟨w, rfl, hw⟩, hp2, hl2⟩
    refine ⟨[some (.cell c), some (.lst (L.map D.str)), some d, some (.str w), a4, a5, none], rfl, ?_⟩
    have ws := hw.okt.sh
    refine rs_asg ⟨rfl, rfl⟩ ?_
    refine run_call d__law_bit (ds := [.cell c, .int ((w.cps.size : Int) + 1)]) (by decide +kernel) rfl ⟨rfl, rfl, rfl, rfl⟩ (bind_ok (b := D.cell c) (μ' := μ2) rfl (bind_ok (b := [D.int ((w.cps.size : Int) + 1)]) (μ' := μ2) (bind_ok (b := D.int ((w.cps.size : Int) + 1)) (μ' := μ2) (bind_ok (b := D.int w.cps.size) (μ' := μ2) (bind_ok (b := [D.str w]) (μ' := μ2) rfl (len_str ws)) (bind_ok (b := D.int 1) (μ' := μ2) rfl rfl)) rfl) rfl)) rfl ((bit hp2 (by omega) (by omega) (by have := hw.sz; omega)).mono ?_)
    rintro _ μ3 ⟨r, rfl, r0, r1, hp3, hl3⟩
    refine ⟨[some (.cell c), some (.lst (L.map D.str)), some d, some (.str w), some (.int r), a5, none], rfl, ?_⟩
    refine rs_asg ⟨rfl, rfl⟩ ?_
    refine run_call d__law_pick (ds := [.cell c, .lst (oddsL.map D.str)]) (by decide +kernel) rfl ⟨rfl, rfl, rfl, rfl⟩ rfl rfl ((pick (xs := oddsL.map D.str) hp3 (by omega) (by intro z; cases z) (by decide)).mono ?_)
    rintro o μ4 ⟨ho, hp4, hl4⟩
    obtain ⟨od, hod, rfl⟩ := List.mem_map.mp ho
    have os := odds_ok od hod
    refine ⟨[some (.cell c), some (.lst (L.map D.str)), some d, some (.str w), some (.int r), some (.str od), none], rfl, ?_⟩
    refine rs_asg ⟨rfl, rfl⟩ ?_
    have c1 : Short (cutS w none (some r)) := Nat.le_trans (cut_len w none (some r)) ws
    have c2 : Short (cutS w (some r) none) := Nat.le_trans (cut_len w (some r) none) ws
    have sz12 : (cutS w none (some r) ++ od).cps.size ≤ 11 := by
      rw [size_tl, tl_app, List.length_append, ← size_tl, ← size_tl]
      have := cut_len w none (some r)
      have := hw.sz
      have := odds_sz od hod
      omega
    have c3 : Short (cutS w none (some r) ++ od) := Nat.le_trans sz12 (by decide)
    have okM : Okt ((cutS w none (some r) ++ od) ++ cutS w (some r) none) := by
      refine ⟨?_, fun k hk => ?_⟩
      · show ((cutS w none (some r) ++ od) ++ cutS w (some r) none).cps.size ≤ 64
        rw [size_tl, tl_app, List.length_append, ← size_tl, ← size_tl]
        have := cut_len w (some r) none
        have := hw.sz
        omega
      · rw [tl_app, tl_app] at hk
        rcases List.mem_append.mp hk with h | h
        · rcases List.mem_append.mp h with h | h
          · exact hw.okt.lo k (cut_mem h)
          · exact os.lo k h
        · exact hw.okt.lo k (cut_mem h)
    have hsl : (sortN (tl w)).length ≤ 10 := Nat.le_trans (len_sortN _) hw.sz
    have wS : Word (Txt.join "" ((sortN (tl w)).map sg)) := word_of hsl fun k hk => hw.az k ((mem_sortN _).mp hk)
    refine run_bind (run_ok (a := .lst (L.map D.str)) (μ := μ4) rfl (run_bind ?_))
    refine run_bind (run_bind (run_ok (a := .str w) (μ := μ4) rfl (run_bind (run_bind (run_ok (a := .str ((cutS w none (some r) ++ od) ++ cutS w (some r) none)) (μ := μ4) ?_ (run_bind (run_bind ?_)))))))
    · exact bind_ok (b := D.str (cutS w none (some r) ++ od)) (μ' := μ4) (bind_ok (b := D.str (cutS w none (some r))) (μ' := μ4) (bind_ok (b := D.str w) (μ' := μ4) rfl (bind_ok (b := (none : Option Int)) (μ' := μ4) rfl (bind_ok (b := some r) (μ' := μ4) rfl (sl_ok ws)))) (bind_ok (b := D.str od) (μ' := μ4) rfl (add_str c1 os.sh))) (bind_ok (b := D.str (cutS w (some r) none)) (μ' := μ4) (bind_ok (b := D.str w) (μ' := μ4) rfl (bind_ok (b := some r) (μ' := μ4) rfl (bind_ok (b := (none : Option Int)) (μ' := μ4) rfl (sl_ok ws)))) (add_str c3 c2))
    · refine run_bind (run_ok (a := .str (Txt.join "" ((sortN (tl w)).map sg))) (μ := μ4) ?_ (run_bind (run_ok (a := (none : Option Int)) (μ := μ4) rfl (run_bind (run_bind ?_)))))
      · refine bind_ok (b := D.str "") (μ' := μ4) rfl (bind_ok (b := ("" : Str)) (μ' := μ4) rfl (bind_ok (b := D.lst ((sortN (tl w)).map fun c => .str (Froz.sing c))) (μ' := μ4) (bind_ok (b := D.str w) (μ' := μ4) rfl ?_) (join_sg (by omega))))
        show (if w.cps.size < 64 then R.ok (D.lst ((sortN w.cps.toList).map fun c => D.str (Froz.sing c))) μ4 else R.stuck) = _
        rw [if_pos (by have := hw.sz; omega)]
      · refine run_call d__law_bit (ds := [.cell c, .int 6]) (by decide +kernel) rfl ⟨rfl, rfl, rfl, rfl⟩ rfl rfl ((bit hp4 (by omega) (by decide) (by decide)).mono ?_)
        rintro _ μ5 ⟨r5, rfl, _, _, hp5, hl5⟩
        refine run_ok (a := some r5) (μ := μ5) rfl ?_
        have okC : Okt (cutS (Txt.join "" ((sortN (tl w)).map sg)) none (some r5)) := ⟨Nat.le_trans (cut_len _ _ _) wS.okt.sh, fun k hk => wS.okt.lo k (cut_mem hk)⟩
        refine run_ok (sl_ok wS.okt.sh) ?_
        refine run_ok (a := [.str (cutS (Txt.join "" ((sortN (tl w)).map sg)) none (some r5))]) (μ := μ5) rfl ?_
        refine run_ok (a := [.str ((cutS w none (some r) ++ od) ++ cutS w (some r) none), .str (cutS (Txt.join "" ((sortN (tl w)).map sg)) none (some r5))]) (μ := μ5) rfl ?_
        refine run_ok (a := [.str w, .str ((cutS w none (some r) ++ od) ++ cutS w (some r) none), .str (cutS (Txt.join "" ((sortN (tl w)).map sg)) none (some r5))]) (μ := μ5) rfl ?_
        refine run_ok (a := .lst [.str w, .str ((cutS w none (some r) ++ od) ++ cutS w (some r) none), .str (cutS (Txt.join "" ((sortN (tl w)).map sg)) none (some r5))]) (μ := μ5) rfl ?_
        refine run_ok (add_lst (by rw [List.length_map, hl]; show 10 + 3 * j + 3 ≤ 1000; omega)) ⟨_, rfl, ?_⟩
        refine ⟨L ++ [w, (cutS w none (some r) ++ od) ++ cutS w (some r) none, cutS (Txt.join "" ((sortN (tl w)).map sg)) none (some r5)], some d, some (.str w), some (.int r), some (.str od), ?_, fun x hx => ?_, List.mem_append_left _ hA, ?_, hp5.le (by omega), ?_⟩
        · rw [List.map_append]
          rfl
        · rcases List.mem_append.mp hx with h | h
          · exact hL x h
          · simp only [List.mem_cons, List.not_mem_nil, or_false] at h
            rcases h with rfl | rfl | rfl
            · exact hw.okt
            · exact okM
            · exact okC
        · rw [List.length_append, hl]
          show 10 + 3 * j + 3 = 10 + 3 * (j + 1)
          omega
        · rw [hl5, hl4, hl3, hl2, hl1]
  · rintro _ μ1 ⟨L, a2, a3, a4, a5, rfl, hL, hA, hl, hp1, hl1⟩
    refine rs_ret (run_ok (a := .lst (L.map D.str)) (μ := μ1) rfl ⟨⟨L, rfl, hL, hA, ?_⟩, hp1.le ?_, hl1⟩)
    · rw [hl]; rfl
    · have : (rangeL 0 5).length = 5 := rfl
      rw [this]
      omega
end K00

set_option Elab.async false
set_option linter.all false
set_option maxRecDepth 100000
set_option maxHeartbeats 2000000
/-! k00: the law itself. -/
namespace K00
open PySem L2 Pu
/-- the four answers, each by both -/
structure Both (y : Str) (d : D) (b1 b2 b3 b4 : Bool) : Prop where
  q1 : ∀ μ, d_is_integer [d] μ = .ok (.bl b1) μ
  r1 : ∀ μ, d__law_is_long [d] μ = .ok (.bl b1) μ
  q2 : ∀ μ, d_is_name [d] μ = .ok (.bl b2) μ
  r2 : ∀ μ, d__law_spelled [d] μ = .ok (.bl b2) μ
  q3 : ∀ μ, d_is_letters [d] μ = .ok (.bl b3) μ
  r3 : ∀ μ, d__law_are_signs [d] μ = .ok (.bl b3) μ
  q4 : ∀ μ, d_is_text [.str y, d] μ = .ok (.bl b4) μ
  r4 : ∀ μ, d__law_is_in [.str y, d] μ = .ok (.bl b4) μ
inductive Val : D → Prop
  | int (i) : Val (.int i)
  | str {x} : Okt x → Val (.str x)
  | odd {d} : Odd d → Val d
theorem both {y : Str} (hy : Okt y) (hl : lts y = true) : ∀ {d : D}, Val d → ∃ b1 b2 b3 b4, Both y d b1 b2 b3 b4
  | _, .int i => ⟨isl i, false, false, false, a_integer i, a_long i, (fun _ => i_name _), (fun _ => i_spelled _), (fun _ => i_letters _), (fun _ => i_signs _), (fun μ => text_of μ (by rw [← hl]; exact a_letters μ hy.sh) (i_within μ)), (fun _ => i_isin _)⟩
  | _, .str (x := x) h => ⟨false, spl x, lts x, wi y x, (fun _ => s_integer _), (fun _ => s_long _), (fun μ => a_name μ h.sh), (fun μ => a_spelled μ h), (fun μ => a_letters μ h.sh), (fun μ => a_signs μ h), (fun μ => text_of μ (by rw [← hl]; exact a_letters μ hy.sh) (a_within μ h.sh)), (fun μ => a_isin μ h)⟩
  | _, .odd h => ⟨false, false, false, false, (fun μ => o_integer μ h), (fun μ => o_long μ h), (fun μ => o_name μ h), (fun μ => o_spelled μ h), (fun μ => o_letters μ h), (fun μ => o_signs μ h), (fun μ => text_of μ (by rw [← hl]; exact a_letters μ hy.sh) (o_within μ h)), (fun μ => o_isin μ h)⟩
theorem repr_bls (b1 b2 b3 b4 : Bool) : ∃ s : Str, ∀ μ, reprD [.lst [.bl b1, .bl b2, .bl b3, .bl b4]] μ = .ok (.str s) μ := by
  cases b1 <;> cases b2 <;> cases b3 <;> cases b4 <;> exact ⟨_, fun _ => rfl⟩
theorem t_and {r : Dn} {G : Pu.Ctx} {ρ : Sl} {μ : Sto} {a b : Expr} {rest : List Expr} {pos : Pos} {k : Bool} {o : R Bool} (h1 : r.t G a ρ μ = .ok k μ) (h2 : k = true → r.t G (.BoolOp .And (b :: rest) pos) ρ μ = o) (h3 : k = false → R.ok false μ = o) : boolT r G .And (a :: b :: rest) pos ρ μ = o := by
  refine bind_ok h1 ?_
  cases k with
  | true => exact h2 rfl
  | false => exact h3 rfl
theorem comp_strF {f : D → M (Option D)} {μ : Sto} {p : Str → Bool} : ∀ (L : List Str), L.length ≤ 1000 → (∀ x ∈ L, f (.str x) μ = .ok (if p x then some (.str x) else none) μ) → compL f (L.map D.str) [] μ = .ok ((L.filter p).map D.str) μ := by
  intro L hL h
  have e := comp_pure (f := f) (μ := μ) (g := fun d => match d with | .str x => if p x then some d else none | _ => none) (L.map D.str) [] (fun d hd => ?_) (by rw [List.length_nil, Nat.zero_add, List.length_map]; exact Nat.le_trans hL (by decide))
  · refine e.trans (congrArg (fun l => R.ok l μ) ?_)
    rw [List.nil_append]
    clear e h hL
    induction L with
    | nil => rfl
    | cons x r ih =>
      rw [List.map_cons, List.filterMap_cons, List.filter_cons]
      cases q : p x with
      | true =>
        simp only [q, ↓reduceIte, List.map_cons]
        rw [ih]
      | false =>
        simp only [q, Bool.false_eq_true, ↓reduceIte]
        exact ih
  · obtain ⟨x, hx, rfl⟩ := List.mem_map.mp hd
    exact h x hx
def oddV : List D := [.bl true, .bl false, .non, .lst [], .dic [], .tup [], .tup [.str "a"], .lst [.str "a", .str "b"], .dic [(.inr "a", .int 1)], .tup [.int 1]]
theorem odd_val : ∀ d ∈ oddV, Val d := by
  intro d hd
  simp only [oddV, List.mem_cons, List.not_mem_nil, or_false] at hd
  rcases hd with rfl | rfl | rfl | rfl | rfl | rfl | rfl | rfl | rfl | rfl <;> exact .odd (by constructor)
theorem range_at {n j : Nat} {d : D} (h : (rangeL 0 n)[j]? = some d) : d = .int j ∧ j < n := by
  unfold rangeL at h
  rw [List.getElem?_map] at h
  cases q : (List.range n)[j]? with
  | none => rw [q] at h; cases h
  | some i =>
    rw [q] at h
    obtain ⟨h1, h2⟩ := List.getElem?_eq_some_iff.mp q
    rw [List.getElem_range] at h2
    rw [List.length_range] at h1
    subst h2
    refine ⟨?_, h1⟩
    have := (Option.some.inj h).symm
    rw [this]
    show D.int (0 + (j : Int)) = _
    rw [Int.zero_add]
theorem law_holds (ns : List Int) (hn : ns.length ≤ 63) : ∃ μ, d_law [.frz (ns.map D.int)] [] = .ok (.bl true) μ := by
  suffices h : Run (d_law [.frz (ns.map D.int)] []) fun d _ => d = .bl true by
    obtain ⟨d, μ, e, rfl⟩ := h.out
    exact ⟨μ, e⟩
  refine run_def ?_
  show Run (sD (den 39) g_law (defBody s_law) [some (.frz (ns.map D.int)), none, none, none, none, none, none, none, none, none, none, none] []) _
  let m : Int := if ((ns.map D.int).length : Int) < 8 then ((ns.map D.int).length : Int) else 8
  let t : Int := if m > 1 then m else 1
  have hm : m ≤ 8 := by show (if ((ns.map D.int).length : Int) < 8 then ((ns.map D.int).length : Int) else 8) ≤ 8; split <;> omega
  have ht : 1 ≤ t ∧ t ≤ 8 := by show 1 ≤ (if m > 1 then m else 1) ∧ (if m > 1 then m else 1) ≤ 8; split <;> omega
  refine rs_for (I := fun j ρ _ => ∃ a1 a2 a3 a4 a5 a6 a7 a8 a9 a10 : Option D, ρ = [some (.frz (ns.map D.int)), a1, a2, a3, a4, a5, a6, a7, a8, a9, a10, none]) (ds := rangeL 0 t.toNat) (μ1 := []) ⟨rfl, rfl⟩ ?_ ⟨none, none, none, none, none, none, none, none, none, none, rfl⟩ ?_ ?_
  · refine bind_ok (b := D.int t) (μ' := []) (bind_ok (b := [D.int 1, D.int m]) (μ' := []) (bind_ok (b := D.int 1) (μ' := []) rfl (bind_ok (b := [D.int m]) (μ' := []) (bind_ok (b := D.int m) (μ' := []) (bind_ok (b := [D.int 8, D.int (ns.map D.int).length]) (μ' := []) rfl rfl) rfl) rfl)) rfl) ?_
    show (if -(2 ^ 62) ≤ t ∧ t < 2 ^ 62 then R.ok (rangeL 0 t.toNat) [] else R.stuck) = _
    rw [if_pos (by omega)]
  · rintro j d _ μ hd ⟨a1, a2, a3, a4, a5, a6, a7, a8, a9, a10, rfl⟩
    obtain ⟨rfl, hj⟩ := range_at hd
    have hj64 : j < 64 := by omega
    refine ⟨[some (.frz (ns.map D.int)), some (.int j), a2, a3, a4, a5, a6, a7, a8, a9, a10, none], rfl, ?_⟩
    -- the pot
    refine rs_asg ⟨rfl, rfl⟩ ?_
    refine run_call d__law_pot (ds := [.frz (ns.map D.int), .int j]) (by decide +kernel) rfl ⟨rfl, rfl, rfl, rfl⟩ rfl rfl ((pot_made hj64).mono ?_)
    rintro _ _ ⟨rfl, pa, pb, rfl⟩
    refine ⟨[some (.frz (ns.map D.int)), some (.int j), some (.cell μ.length), a3, a4, a5, a6, a7, a8, a9, a10, none], rfl, ?_⟩
    have hp : PotAt (μ ++ [.lst [.int pa, .int pb, .int 0]]) μ.length 0 := ⟨pa, pb, 0, by simp, Int.le_refl _, Int.le_refl _⟩
    generalize hc : List.length μ = c at hp ⊢
    generalize (μ ++ [MO.lst [.int pa, .int pb, .int 0]]) = μ1 at hp ⊢
    -- the cell
    refine rs_asg ⟨rfl, rfl⟩ (Run.mono (Q := fun d μ' => ∃ v : Int, d = .int v ∧ μ1 = μ') ?_ ?_)
    · refine if_val (k := decide ((j : Int) < (ns.map D.int).length)) (bind_ok (b := D.bl (decide ((j : Int) < (ns.map D.int).length))) (μ' := μ1) (bind_ok (b := D.int j) (μ' := μ1) rfl (bind_ok (b := D.int (ns.map D.int).length) (μ' := μ1) rfl rfl)) rfl) (fun z => ?_) (fun z => ?_)
      · have z' : j < ns.length := by
          have := of_decide_eq_true z
          rw [List.length_map] at this
          omega
        exact run_ok (bind_ok (b := D.frz (ns.map D.int)) (μ' := μ1) rfl (bind_ok (b := D.int j) (μ' := μ1) rfl (ix_ints z'))) ⟨_, rfl, rfl⟩
      · exact run_ok (a := .int 7) (μ := μ1) rfl ⟨_, rfl, rfl⟩
    rintro _ _ ⟨v, rfl, rfl⟩
    refine ⟨[some (.frz (ns.map D.int)), some (.int j), some (.cell c), some (.int v), a4, a5, a6, a7, a8, a9, a10, none], rfl, ?_⟩
    -- the words
    refine rs_asg ⟨rfl, rfl⟩ ?_
    refine run_call d__law_strings (ds := [.cell c]) (by decide +kernel) rfl ⟨rfl, rfl, rfl, rfl⟩ rfl rfl ((strings hp (by decide)).mono ?_)
    rintro _ μ2 ⟨⟨L, rfl, hL, hA, hL25⟩, hp2, _⟩
    refine ⟨[some (.frz (ns.map D.int)), some (.int j), some (.cell c), some (.int v), some (.lst (L.map D.str)), a5, a6, a7, a8, a9, a10, none], rfl, ?_⟩
    -- all values
    refine rs_asg ⟨rfl, rfl⟩ ?_
    refine run_bind (run_bind ?_)
    refine run_call d__law_numbers (ds := [.cell c, .int v]) (by decide +kernel) rfl ⟨rfl, rfl, rfl, rfl⟩ rfl rfl ((numbers hp2 (by decide)).mono ?_)
    rintro _ μ3 ⟨⟨N, rfl, hN⟩, hp3, _⟩
    refine run_bind (run_ok (a := .lst (L.map D.str)) (μ := μ3) rfl ?_)
    refine run_ok (add_lst (by rw [List.length_map, List.length_map, hN, hL25]; decide)) ?_
    refine run_bind (run_ok (a := .lst oddV) (μ := μ3) rfl ?_)
    refine run_ok (add_lst (by rw [List.length_append, List.length_map, List.length_map, hN, hL25]; decide)) ?_
    have hV : ∀ d ∈ (N.map D.int ++ L.map D.str) ++ oddV, Val d := by
      intro d hd
      rcases List.mem_append.mp hd with h | h
      · rcases List.mem_append.mp h with h | h
        · obtain ⟨i, _, rfl⟩ := List.mem_map.mp h
          exact .int i
        · obtain ⟨x, hx, rfl⟩ := List.mem_map.mp h
          exact .str (hL x hx)
      · exact odd_val d h
    generalize (N.map D.int ++ L.map D.str) ++ oddV = A at hV ⊢
    refine ⟨[some (.frz (ns.map D.int)), some (.int j), some (.cell c), some (.int v), some (.lst (L.map D.str)), some (.lst A), a6, a7, a8, a9, a10, none], rfl, ?_⟩
    -- the letters
    refine rs_asg ⟨rfl, rfl⟩ ?_
    have hne : (L.filter lts).map D.str ≠ [] := by
      intro z
      have h1 : ("abcd" : Str) ∈ L.filter lts := List.mem_filter.mpr ⟨hA, by decide +kernel⟩
      rw [List.map_eq_nil_iff.mp z] at h1
      cases h1
    have hfl : ((L.filter lts).map D.str).length < 1000 := by
      rw [List.length_map]
      have := List.length_filter_le lts L
      omega
    refine run_call d__law_pick (ds := [.cell c, .lst ((L.filter lts).map D.str)]) (by decide +kernel) rfl ⟨rfl, rfl, rfl, rfl⟩ (bind_ok (b := D.cell c) (μ' := μ3) rfl (bind_ok (b := [D.lst ((L.filter lts).map D.str)]) (μ' := μ3) (bind_ok (b := D.lst ((L.filter lts).map D.str)) (μ' := μ3) (bind_ok (b := L.map D.str) (μ' := μ3) rfl (bind_ok (b := (L.filter lts).map D.str) (μ' := μ3) (noX_ok (comp_strF L (by omega) fun x hx => ?_)) rfl)) rfl) rfl)) rfl ((pick hp3 (by decide) hne hfl).mono ?_)
    · refine bind_ok (b := lts x) (μ' := μ3) (bind_ok (b := D.bl (lts x)) (μ' := μ3) (call_ok d__law_are_signs (ds := [.str x]) (by decide +kernel) rfl ⟨rfl, rfl, rfl, rfl⟩ rfl rfl (a_signs μ3 (hL x hx))) rfl) ?_
      cases lts x <;> rfl
    rintro dy μ4 ⟨hdy, _, _⟩
    obtain ⟨y, hy, rfl⟩ := List.mem_map.mp hdy
    obtain ⟨hyL, hyl⟩ := List.mem_filter.mp hy
    have oy := hL y hyL
    refine ⟨[some (.frz (ns.map D.int)), some (.int j), some (.cell c), some (.int v), some (.lst (L.map D.str)), some (.lst A), some (.str y), a7, a8, a9, a10, none], rfl, ?_⟩
    -- every value
    refine rs_for (I := fun _ ρ _ => ∃ b7 b8 b9 b10 : Option D, ρ = [some (.frz (ns.map D.int)), some (.int j), some (.cell c), some (.int v), some (.lst (L.map D.str)), some (.lst A), some (.str y), b7, b8, b9, b10, none]) (ds := A) (μ1 := μ4) ⟨rfl, rfl⟩ rfl ⟨_, _, _, _, rfl⟩ ?_ ?_
    · rintro j2 d _ μ5 hd ⟨b7, b8, b9, b10, rfl⟩
      obtain ⟨k1, k2, k3, k4, B⟩ := both oy hyl (hV d (List.mem_of_getElem? hd))
      refine ⟨[some (.frz (ns.map D.int)), some (.int j), some (.cell c), some (.int v), some (.lst (L.map D.str)), some (.lst A), some (.str y), some d, b8, b9, b10, none], rfl, ?_⟩
      refine rs_for (I := fun _ ρ _ => ∃ b8 b9 b10 : Option D, ρ = [some (.frz (ns.map D.int)), some (.int j), some (.cell c), some (.int v), some (.lst (L.map D.str)), some (.lst A), some (.str y), some d, b8, b9, b10, none]) (ds := rangeL 0 2) (μ1 := μ5) ⟨rfl, rfl⟩ rfl ⟨_, _, _, rfl⟩ ?_ ?_
      · rintro j3 d3 _ μ6 hd3 ⟨b8, b9, b10, rfl⟩
        refine ⟨[some (.frz (ns.map D.int)), some (.int j), some (.cell c), some (.int v), some (.lst (L.map D.str)), some (.lst A), some (.str y), some d, some d3, b9, b10, none], rfl, ?_⟩
        obtain ⟨s, hs⟩ := repr_bls k1 k2 k3 k4
        refine rs_asg ⟨rfl, rfl⟩ (run_ok (a := .lst [.bl k1, .bl k2, .bl k3, .bl k4]) (μ := μ6) ?_ ⟨[some (.frz (ns.map D.int)), some (.int j), some (.cell c), some (.int v), some (.lst (L.map D.str)), some (.lst A), some (.str y), some d, some d3, some (.lst [.bl k1, .bl k2, .bl k3, .bl k4]), b10, none], rfl, ?_⟩)
        · exact bind_ok (b := [D.bl k1, .bl k2, .bl k3, .bl k4]) (μ' := μ6) (bind_ok (b := D.bl k1) (μ' := μ6) (call_ok d_is_integer (ds := [d]) (by decide +kernel) rfl ⟨rfl, rfl, rfl, rfl⟩ rfl rfl (B.q1 μ6)) (bind_ok (b := [D.bl k2, .bl k3, .bl k4]) (μ' := μ6) (bind_ok (b := D.bl k2) (μ' := μ6) (call_ok d_is_name (ds := [d]) (by decide +kernel) rfl ⟨rfl, rfl, rfl, rfl⟩ rfl rfl (B.q2 μ6)) (bind_ok (b := [D.bl k3, .bl k4]) (μ' := μ6) (bind_ok (b := D.bl k3) (μ' := μ6) (call_ok d_is_letters (ds := [d]) (by decide +kernel) rfl ⟨rfl, rfl, rfl, rfl⟩ rfl rfl (B.q3 μ6)) (bind_ok (b := [D.bl k4]) (μ' := μ6) (bind_ok (b := D.bl k4) (μ' := μ6) (call_ok d_is_text (ds := [.str y, d]) (by decide +kernel) rfl ⟨rfl, rfl, rfl, rfl⟩ rfl rfl (B.q4 μ6)) rfl) rfl)) rfl)) rfl)) rfl
        refine rs_asg ⟨rfl, rfl⟩ (run_ok (a := .lst [.bl k1, .bl k2, .bl k3, .bl k4]) (μ := μ6) ?_ ⟨[some (.frz (ns.map D.int)), some (.int j), some (.cell c), some (.int v), some (.lst (L.map D.str)), some (.lst A), some (.str y), some d, some d3, some (.lst [.bl k1, .bl k2, .bl k3, .bl k4]), some (.lst [.bl k1, .bl k2, .bl k3, .bl k4]), none], rfl, ?_⟩)
        · exact bind_ok (b := [D.bl k1, .bl k2, .bl k3, .bl k4]) (μ' := μ6) (bind_ok (b := D.bl k1) (μ' := μ6) (call_ok d__law_is_long (ds := [d]) (by decide +kernel) rfl ⟨rfl, rfl, rfl, rfl⟩ rfl rfl (B.r1 μ6)) (bind_ok (b := [D.bl k2, .bl k3, .bl k4]) (μ' := μ6) (bind_ok (b := D.bl k2) (μ' := μ6) (call_ok d__law_spelled (ds := [d]) (by decide +kernel) rfl ⟨rfl, rfl, rfl, rfl⟩ rfl rfl (B.r2 μ6)) (bind_ok (b := [D.bl k3, .bl k4]) (μ' := μ6) (bind_ok (b := D.bl k3) (μ' := μ6) (call_ok d__law_are_signs (ds := [d]) (by decide +kernel) rfl ⟨rfl, rfl, rfl, rfl⟩ rfl rfl (B.r3 μ6)) (bind_ok (b := [D.bl k4]) (μ' := μ6) (bind_ok (b := D.bl k4) (μ' := μ6) (call_ok d__law_is_in (ds := [.str y, d]) (by decide +kernel) rfl ⟨rfl, rfl, rfl, rfl⟩ rfl rfl (B.r4 μ6)) rfl) rfl)) rfl)) rfl)) rfl
        refine rs_if (run_ok (a := false) (μ := μ6) ?_ ⟨(fun z => nomatch z), fun _ => ⟨_, _, _, rfl⟩⟩)
        refine bind_ok (b := D.bl false) (μ' := μ6) (bind_ok (b := D.str s) (μ' := μ6) (bind_ok (b := [D.lst [.bl k1, .bl k2, .bl k3, .bl k4]]) (μ' := μ6) rfl (hs μ6)) (bind_ok (b := D.str s) (μ' := μ6) (bind_ok (b := [D.lst [.bl k1, .bl k2, .bl k3, .bl k4]]) (μ' := μ6) rfl (hs μ6)) ?_)) rfl
        show R.ok (D.bl (!decide (s = s))) μ6 = _
        rw [decide_eq_true rfl]
        rfl
      · rintro _ μ6 ⟨b8, b9, b10, rfl⟩
        refine rs_if (run_ok (a := false) (μ := μ6) ?_ ⟨(fun z => nomatch z), fun _ => ⟨_, _, _, _, rfl⟩⟩)
        refine t_and (k := !k3) (t_not (k := k3) (bind_ok (b := D.bl k3) (μ' := μ6) (call_ok d__law_are_signs (ds := [d]) (by decide +kernel) rfl ⟨rfl, rfl, rfl, rfl⟩ rfl rfl (B.r3 μ6)) rfl)) (fun z => ?_) (fun z => rfl)
        have k30 : k3 = false := by cases k3 with | true => cases z | false => rfl
        exact t_not (k := true) (bind_ok (b := D.bl true) (μ' := μ6) (call_ok d__law_refused (ds := [d]) (by decide +kernel) rfl ⟨rfl, rfl, rfl, rfl⟩ rfl rfl (refused_of μ6 (by rw [← k30]; exact B.q3 μ6))) rfl)
    · rintro _ μ5 ⟨b7, b8, b9, b10, rfl⟩
      exact ⟨_, _, _, _, _, _, _, _, _, _, rfl⟩
  · rintro _ μ ⟨a1, a2, a3, a4, a5, a6, a7, a8, a9, a10, rfl⟩
    exact rs_ret (run_ok (a := .bl true) (μ := μ) rfl rfl)
end K00

set_option Elab.async false
set_option linter.all false
set_option maxRecDepth 100000
/-! k00: every def by its den; the law's own head (printed by lawgen.py). -/
namespace K00
open PySem L2 Pu
section
variable {P : Program} {w : World} {W : Wd} {mg : Str → Option Value} {base : Heap} {f : Addr} {fd : FuncData}
theorem ok_is_integer (B : GB mg W g_is_integer) (F : Fun W.K "is_integer" "is_integer" s_is_integer f fd) (m : mg "is_integer" = some (.ref f)) (b : Binds W.K fd ["value"] []) : FnAt P w W mg base 1 ("is_integer", 1, d_is_integer) :=
  ⟨f, fd, ["value"], fn_den (G := g_is_integer) 40 F ⟨rfl, rfl, rfl, by decide +kernel, rfl, by decide +kernel, by decide +kernel⟩ rfl rfl rfl (gok_of B rfl trivial), m, F.kp, b⟩
theorem ok_are_small (B : GB mg W g_are_small) (F : Fun W.K "are_small" "are_small" s_are_small f fd) (m : mg "are_small" = some (.ref f)) (b : Binds W.K fd ["text"] []) : FnAt P w W mg base 1 ("are_small", 1, d_are_small) :=
  ⟨f, fd, ["text"], fn_den (G := g_are_small) 40 F ⟨rfl, rfl, rfl, by decide +kernel, rfl, by decide +kernel, by decide +kernel⟩ rfl rfl rfl (gok_of B rfl trivial), m, F.kp, b⟩
theorem ok_is_ascending (B : GB mg W g_is_ascending) (F : Fun W.K "is_ascending" "is_ascending" s_is_ascending f fd) (m : mg "is_ascending" = some (.ref f)) (b : Binds W.K fd ["values"] []) : FnAt P w W mg base 1 ("is_ascending", 1, d_is_ascending) :=
  ⟨f, fd, ["values"], fn_den (G := g_is_ascending) 40 F ⟨rfl, rfl, rfl, by decide +kernel, rfl, by decide +kernel, by decide +kernel⟩ rfl rfl rfl (gok_of B rfl trivial), m, F.kp, b⟩
theorem ok_is_text_within (B : GB mg W g_is_text_within) (F : Fun W.K "is_text_within" "is_text_within" s_is_text_within f fd) (m : mg "is_text_within" = some (.ref f)) (b : Binds W.K fd ["letters", "value"] []) : FnAt P w W mg base 1 ("is_text_within", 2, d_is_text_within) :=
  ⟨f, fd, ["letters", "value"], fn_den (G := g_is_text_within) 40 F ⟨rfl, rfl, rfl, by decide +kernel, rfl, by decide +kernel, by decide +kernel⟩ rfl rfl rfl (gok_of B rfl trivial), m, F.kp, b⟩
theorem ok__law_pot (B : GB mg W g__law_pot) (F : Fun W.K "_law_pot" "_law_pot" s__law_pot f fd) (m : mg "_law_pot" = some (.ref f)) (b : Binds W.K fd ["_law_script", "_law_at"] []) : FnAt P w W mg base 1 ("_law_pot", 2, d__law_pot) :=
  ⟨f, fd, ["_law_script", "_law_at"], fn_den (G := g__law_pot) 40 F ⟨rfl, rfl, rfl, by decide +kernel, rfl, by decide +kernel, by decide +kernel⟩ rfl rfl rfl (gok_of B rfl trivial), m, F.kp, b⟩
theorem ok__law_bit (B : GB mg W g__law_bit) (F : Fun W.K "_law_bit" "_law_bit" s__law_bit f fd) (m : mg "_law_bit" = some (.ref f)) (b : Binds W.K fd ["_law_pot_here", "_law_much"] []) : FnAt P w W mg base 1 ("_law_bit", 2, d__law_bit) :=
  ⟨f, fd, ["_law_pot_here", "_law_much"], fn_den (G := g__law_bit) 40 F ⟨rfl, rfl, rfl, by decide +kernel, rfl, by decide +kernel, by decide +kernel⟩ rfl rfl rfl (gok_of B rfl trivial), m, F.kp, b⟩
theorem ok__law_spelled (B : GB mg W g__law_spelled) (F : Fun W.K "_law_spelled" "_law_spelled" s__law_spelled f fd) (m : mg "_law_spelled" = some (.ref f)) (b : Binds W.K fd ["_law_value"] []) : FnAt P w W mg base 1 ("_law_spelled", 1, d__law_spelled) :=
  ⟨f, fd, ["_law_value"], fn_den (G := g__law_spelled) 40 F ⟨rfl, rfl, rfl, by decide +kernel, rfl, by decide +kernel, by decide +kernel⟩ rfl rfl rfl (gok_of B rfl trivial), m, F.kp, b⟩
theorem ok__law_is_long (B : GB mg W g__law_is_long) (F : Fun W.K "_law_is_long" "_law_is_long" s__law_is_long f fd) (m : mg "_law_is_long" = some (.ref f)) (b : Binds W.K fd ["_law_value"] []) : FnAt P w W mg base 1 ("_law_is_long", 1, d__law_is_long) :=
  ⟨f, fd, ["_law_value"], fn_den (G := g__law_is_long) 40 F ⟨rfl, rfl, rfl, by decide +kernel, rfl, by decide +kernel, by decide +kernel⟩ rfl rfl rfl (gok_of B rfl trivial), m, F.kp, b⟩
theorem ok__law_is_in (B : GB mg W g__law_is_in) (F : Fun W.K "_law_is_in" "_law_is_in" s__law_is_in f fd) (m : mg "_law_is_in" = some (.ref f)) (b : Binds W.K fd ["_law_signs", "_law_value"] []) : FnAt P w W mg base 1 ("_law_is_in", 2, d__law_is_in) :=
  ⟨f, fd, ["_law_signs", "_law_value"], fn_den (G := g__law_is_in) 40 F ⟨rfl, rfl, rfl, by decide +kernel, rfl, by decide +kernel, by decide +kernel⟩ rfl rfl rfl (gok_of B rfl trivial), m, F.kp, b⟩
theorem ok_is_name (B : GB mg W g_is_name) (F : Fun W.K "is_name" "is_name" s_is_name f fd) (m : mg "is_name" = some (.ref f)) (b : Binds W.K fd ["value"] []) (h0 : FnAt P w W mg base 1 ("are_small", 1, d_are_small)) : FnAt P w W mg base 2 ("is_name", 1, d_is_name) :=
  ⟨f, fd, ["value"], fn_den (G := g_is_name) 40 F ⟨rfl, rfl, rfl, by decide +kernel, rfl, by decide +kernel, by decide +kernel⟩ rfl rfl rfl (gok_of B rfl ⟨h0.mono (by decide), trivial⟩), m, F.kp, b⟩
theorem ok_is_letters (B : GB mg W g_is_letters) (F : Fun W.K "is_letters" "is_letters" s_is_letters f fd) (m : mg "is_letters" = some (.ref f)) (b : Binds W.K fd ["value"] []) (h0 : FnAt P w W mg base 1 ("are_small", 1, d_are_small)) (h1 : FnAt P w W mg base 1 ("is_ascending", 1, d_is_ascending)) : FnAt P w W mg base 2 ("is_letters", 1, d_is_letters) :=
  ⟨f, fd, ["value"], fn_den (G := g_is_letters) 40 F ⟨rfl, rfl, rfl, by decide +kernel, rfl, by decide +kernel, by decide +kernel⟩ rfl rfl rfl (gok_of B rfl ⟨h0.mono (by decide), h1.mono (by decide), trivial⟩), m, F.kp, b⟩
theorem ok__law_pick (B : GB mg W g__law_pick) (F : Fun W.K "_law_pick" "_law_pick" s__law_pick f fd) (m : mg "_law_pick" = some (.ref f)) (b : Binds W.K fd ["_law_pot_here", "_law_items"] []) (h0 : FnAt P w W mg base 1 ("_law_bit", 2, d__law_bit)) : FnAt P w W mg base 2 ("_law_pick", 2, d__law_pick) :=
  ⟨f, fd, ["_law_pot_here", "_law_items"], fn_den (G := g__law_pick) 40 F ⟨rfl, rfl, rfl, by decide +kernel, rfl, by decide +kernel, by decide +kernel⟩ rfl rfl rfl (gok_of B rfl ⟨h0.mono (by decide), trivial⟩), m, F.kp, b⟩
theorem ok__law_letter (B : GB mg W g__law_letter) (F : Fun W.K "_law_letter" "_law_letter" s__law_letter f fd) (m : mg "_law_letter" = some (.ref f)) (b : Binds W.K fd ["_law_pot_here"] []) (h0 : FnAt P w W mg base 1 ("_law_bit", 2, d__law_bit)) : FnAt P w W mg base 2 ("_law_letter", 1, d__law_letter) :=
  ⟨f, fd, ["_law_pot_here"], fn_den (G := g__law_letter) 40 F ⟨rfl, rfl, rfl, by decide +kernel, rfl, by decide +kernel, by decide +kernel⟩ rfl rfl rfl (gok_of B rfl ⟨h0.mono (by decide), trivial⟩), m, F.kp, b⟩
theorem ok__law_are_signs (B : GB mg W g__law_are_signs) (F : Fun W.K "_law_are_signs" "_law_are_signs" s__law_are_signs f fd) (m : mg "_law_are_signs" = some (.ref f)) (b : Binds W.K fd ["_law_value"] []) (h0 : FnAt P w W mg base 1 ("_law_spelled", 1, d__law_spelled)) : FnAt P w W mg base 2 ("_law_are_signs", 1, d__law_are_signs) :=
  ⟨f, fd, ["_law_value"], fn_den (G := g__law_are_signs) 40 F ⟨rfl, rfl, rfl, by decide +kernel, rfl, by decide +kernel, by decide +kernel⟩ rfl rfl rfl (gok_of B rfl ⟨h0.mono (by decide), trivial⟩), m, F.kp, b⟩
theorem ok__law_numbers (B : GB mg W g__law_numbers) (F : Fun W.K "_law_numbers" "_law_numbers" s__law_numbers f fd) (m : mg "_law_numbers" = some (.ref f)) (b : Binds W.K fd ["_law_pot_here", "_law_cell"] []) (h0 : FnAt P w W mg base 1 ("_law_bit", 2, d__law_bit)) : FnAt P w W mg base 2 ("_law_numbers", 2, d__law_numbers) :=
  ⟨f, fd, ["_law_pot_here", "_law_cell"], fn_den (G := g__law_numbers) 40 F ⟨rfl, rfl, rfl, by decide +kernel, rfl, by decide +kernel, by decide +kernel⟩ rfl rfl rfl (gok_of B rfl ⟨h0.mono (by decide), trivial⟩), m, F.kp, b⟩
theorem ok_require_letters (B : GB mg W g_require_letters) (F : Fun W.K "require_letters" "require_letters" s_require_letters f fd) (m : mg "require_letters" = some (.ref f)) (b : Binds W.K fd ["value"] []) (h0 : FnAt P w W mg base 2 ("is_letters", 1, d_is_letters)) : FnAt P w W mg base 3 ("require_letters", 1, d_require_letters) :=
  ⟨f, fd, ["value"], fn_den (G := g_require_letters) 40 F ⟨rfl, rfl, rfl, by decide +kernel, rfl, by decide +kernel, by decide +kernel⟩ rfl rfl rfl (gok_of B rfl ⟨h0.mono (by decide), trivial⟩), m, F.kp, b⟩
theorem ok__law_strings (B : GB mg W g__law_strings) (F : Fun W.K "_law_strings" "_law_strings" s__law_strings f fd) (m : mg "_law_strings" = some (.ref f)) (b : Binds W.K fd ["_law_pot_here"] []) (h0 : FnAt P w W mg base 1 ("_law_bit", 2, d__law_bit)) (h1 : FnAt P w W mg base 2 ("_law_pick", 2, d__law_pick)) (h2 : FnAt P w W mg base 2 ("_law_letter", 1, d__law_letter)) : FnAt P w W mg base 3 ("_law_strings", 1, d__law_strings) :=
  ⟨f, fd, ["_law_pot_here"], fn_den (G := g__law_strings) 40 F ⟨rfl, rfl, rfl, by decide +kernel, rfl, by decide +kernel, by decide +kernel⟩ rfl rfl rfl (gok_of B rfl ⟨h0.mono (by decide), h1.mono (by decide), h2.mono (by decide), trivial⟩), m, F.kp, b⟩
theorem ok_is_text (B : GB mg W g_is_text) (F : Fun W.K "is_text" "is_text" s_is_text f fd) (m : mg "is_text" = some (.ref f)) (b : Binds W.K fd ["letters", "value"] []) (h0 : FnAt P w W mg base 3 ("require_letters", 1, d_require_letters)) (h1 : FnAt P w W mg base 1 ("is_text_within", 2, d_is_text_within)) : FnAt P w W mg base 4 ("is_text", 2, d_is_text) :=
  ⟨f, fd, ["letters", "value"], fn_den (G := g_is_text) 40 F ⟨rfl, rfl, rfl, by decide +kernel, rfl, by decide +kernel, by decide +kernel⟩ rfl rfl rfl (gok_of B rfl ⟨h0.mono (by decide), h1.mono (by decide), trivial⟩), m, F.kp, b⟩
theorem ok__law_refused (B : GB mg W g__law_refused) (F : Fun W.K "_law_refused" "_law_refused" s__law_refused f fd) (m : mg "_law_refused" = some (.ref f)) (b : Binds W.K fd ["_law_signs"] []) (h0 : FnAt P w W mg base 4 ("is_text", 2, d_is_text)) : FnAt P w W mg base 5 ("_law_refused", 1, d__law_refused) :=
  ⟨f, fd, ["_law_signs"], fn_den (G := g__law_refused) 40 F ⟨rfl, rfl, rfl, by decide +kernel, rfl, by decide +kernel, by decide +kernel⟩ rfl rfl rfl (gok_of B rfl ⟨h0.mono (by decide), trivial⟩), m, F.kp, b⟩
theorem ok_law (B : GB mg W g_law) (F : Fun W.K "law" "law" s_law f fd) (m : mg "law" = some (.ref f)) (b : Binds W.K fd ["_law_script"] []) (h0 : FnAt P w W mg base 1 ("_law_pot", 2, d__law_pot)) (h1 : FnAt P w W mg base 3 ("_law_strings", 1, d__law_strings)) (h2 : FnAt P w W mg base 2 ("_law_pick", 2, d__law_pick)) (h3 : FnAt P w W mg base 2 ("_law_numbers", 2, d__law_numbers)) (h4 : FnAt P w W mg base 2 ("_law_are_signs", 1, d__law_are_signs)) (h5 : FnAt P w W mg base 1 ("is_integer", 1, d_is_integer)) (h6 : FnAt P w W mg base 2 ("is_name", 1, d_is_name)) (h7 : FnAt P w W mg base 2 ("is_letters", 1, d_is_letters)) (h8 : FnAt P w W mg base 4 ("is_text", 2, d_is_text)) (h9 : FnAt P w W mg base 1 ("_law_is_long", 1, d__law_is_long)) (h10 : FnAt P w W mg base 1 ("_law_spelled", 1, d__law_spelled)) (h11 : FnAt P w W mg base 1 ("_law_is_in", 2, d__law_is_in)) (h12 : FnAt P w W mg base 5 ("_law_refused", 1, d__law_refused)) : FnAt P w W mg base 6 ("law", 1, d_law) :=
  ⟨f, fd, ["_law_script"], fn_den (G := g_law) 40 F ⟨rfl, rfl, rfl, by decide +kernel, rfl, by decide +kernel, by decide +kernel⟩ rfl rfl rfl (gok_of B rfl ⟨h0.mono (by decide), h1.mono (by decide), h2.mono (by decide), h3.mono (by decide), h4.mono (by decide), h5.mono (by decide), h6.mono (by decide), h7.mono (by decide), h8.mono (by decide), h9.mono (by decide), h10.mono (by decide), h11.mono (by decide), h12.mono (by decide), trivial⟩), m, F.kp, b⟩
end
theorem all_mk {l : PySem.W.OpenLaw} {w : World} {K : PySem.W.Frag} {h : Heap} {mg : Str → Option Value} {fa : Addr} {od0 an0 od1 an1 od2 an2 od3 an3 od4 an4 od5 an5 od6 an6 od7 an7 od8 an8 od9 an9 od10 an10 od11 an11 od12 an12 od13 an13 od14 an14 od15 an15 od16 an16 od17 an17 od18 an18 od19 an19 : Option Addr} {sl0 sl1 sl2 sl3 sl4 sl5 sl6 sl7 sl8 sl9 sl10 sl11 sl12 sl13 sl14 sl15 sl16 sl17 sl18 sl19 : Array (Option Value)} {oc0 kV0 dc0 pm0 cd0 ct0 oc1 kV1 dc1 pm1 cd1 ct1 oc2 kV2 dc2 pm2 cd2 ct2 oc3 kV3 dc3 pm3 cd3 ct3 oc4 kV4 dc4 pm4 cd4 ct4 oc5 kV5 dc5 pm5 cd5 ct5 oc6 kV6 dc6 pm6 cd6 ct6 oc7 kV7 dc7 pm7 cd7 ct7 oc8 kV8 dc8 pm8 cd8 ct8 oc9 kV9 dc9 pm9 cd9 ct9 oc10 kV10 dc10 pm10 cd10 ct10 oc11 kV11 dc11 pm11 cd11 ct11 oc12 kV12 dc12 pm12 cd12 ct12 oc13 kV13 dc13 pm13 cd13 ct13 oc14 kV14 dc14 pm14 cd14 ct14 oc15 kV15 dc15 pm15 cd15 ct15 oc16 kV16 dc16 pm16 cd16 ct16 oc17 kV17 dc17 pm17 cd17 ct17 oc18 kV18 dc18 pm18 cd18 ct18 oc19 kV19 dc19 pm19 cd19 ct19 : Value} {f0 f1 f2 f3 f4 f5 f6 f7 f8 f9 f10 f11 f12 f13 f14 f15 f16 f17 f18 f19 C : Addr} {t0 t1 t2 t3 : Tok} (X : K.In h) (H : h.Ns mainGlobals mg) (hfa : mg "law" = some (.ref fa))
    (a0 : PySem.W.nsIn K mainGlobals "is_integer" = some (some (.ref f0))) (l0 : K.lookup f0 = some ⟨oc0, od0, .func (PySem.W.fnOf "is_integer" "is_integer" (defArgs s_is_integer) (defBody s_is_integer) (defScope s_is_integer) .none kV0 dc0 pm0 an0 cd0 ct0), sl0⟩) (c0 : PySem.W.codeIn K cd0 "is_integer" = true) (k0 : PySem.W.keepIn K (.ref f0) = true)
    (a1 : PySem.W.nsIn K mainGlobals "are_small" = some (some (.ref f1))) (l1 : K.lookup f1 = some ⟨oc1, od1, .func (PySem.W.fnOf "are_small" "are_small" (defArgs s_are_small) (defBody s_are_small) (defScope s_are_small) .none kV1 dc1 pm1 an1 cd1 ct1), sl1⟩) (c1 : PySem.W.codeIn K cd1 "are_small" = true) (k1 : PySem.W.keepIn K (.ref f1) = true)
    (a2 : PySem.W.nsIn K mainGlobals "is_ascending" = some (some (.ref f2))) (l2 : K.lookup f2 = some ⟨oc2, od2, .func (PySem.W.fnOf "is_ascending" "is_ascending" (defArgs s_is_ascending) (defBody s_is_ascending) (defScope s_is_ascending) .none kV2 dc2 pm2 an2 cd2 ct2), sl2⟩) (c2 : PySem.W.codeIn K cd2 "is_ascending" = true) (k2 : PySem.W.keepIn K (.ref f2) = true)
    (a3 : PySem.W.nsIn K mainGlobals "is_text_within" = some (some (.ref f3))) (l3 : K.lookup f3 = some ⟨oc3, od3, .func (PySem.W.fnOf "is_text_within" "is_text_within" (defArgs s_is_text_within) (defBody s_is_text_within) (defScope s_is_text_within) .none kV3 dc3 pm3 an3 cd3 ct3), sl3⟩) (c3 : PySem.W.codeIn K cd3 "is_text_within" = true) (k3 : PySem.W.keepIn K (.ref f3) = true)
    (a4 : PySem.W.nsIn K mainGlobals "_law_pot" = some (some (.ref f4))) (l4 : K.lookup f4 = some ⟨oc4, od4, .func (PySem.W.fnOf "_law_pot" "_law_pot" (defArgs s__law_pot) (defBody s__law_pot) (defScope s__law_pot) .none kV4 dc4 pm4 an4 cd4 ct4), sl4⟩) (c4 : PySem.W.codeIn K cd4 "_law_pot" = true) (k4 : PySem.W.keepIn K (.ref f4) = true)
    (a5 : PySem.W.nsIn K mainGlobals "_law_bit" = some (some (.ref f5))) (l5 : K.lookup f5 = some ⟨oc5, od5, .func (PySem.W.fnOf "_law_bit" "_law_bit" (defArgs s__law_bit) (defBody s__law_bit) (defScope s__law_bit) .none kV5 dc5 pm5 an5 cd5 ct5), sl5⟩) (c5 : PySem.W.codeIn K cd5 "_law_bit" = true) (k5 : PySem.W.keepIn K (.ref f5) = true)
    (a6 : PySem.W.nsIn K mainGlobals "_law_spelled" = some (some (.ref f6))) (l6 : K.lookup f6 = some ⟨oc6, od6, .func (PySem.W.fnOf "_law_spelled" "_law_spelled" (defArgs s__law_spelled) (defBody s__law_spelled) (defScope s__law_spelled) .none kV6 dc6 pm6 an6 cd6 ct6), sl6⟩) (c6 : PySem.W.codeIn K cd6 "_law_spelled" = true) (k6 : PySem.W.keepIn K (.ref f6) = true)
    (a7 : PySem.W.nsIn K mainGlobals "_law_is_long" = some (some (.ref f7))) (l7 : K.lookup f7 = some ⟨oc7, od7, .func (PySem.W.fnOf "_law_is_long" "_law_is_long" (defArgs s__law_is_long) (defBody s__law_is_long) (defScope s__law_is_long) .none kV7 dc7 pm7 an7 cd7 ct7), sl7⟩) (c7 : PySem.W.codeIn K cd7 "_law_is_long" = true) (k7 : PySem.W.keepIn K (.ref f7) = true)
    (a8 : PySem.W.nsIn K mainGlobals "_law_is_in" = some (some (.ref f8))) (l8 : K.lookup f8 = some ⟨oc8, od8, .func (PySem.W.fnOf "_law_is_in" "_law_is_in" (defArgs s__law_is_in) (defBody s__law_is_in) (defScope s__law_is_in) .none kV8 dc8 pm8 an8 cd8 ct8), sl8⟩) (c8 : PySem.W.codeIn K cd8 "_law_is_in" = true) (k8 : PySem.W.keepIn K (.ref f8) = true)
    (a9 : PySem.W.nsIn K mainGlobals "is_name" = some (some (.ref f9))) (l9 : K.lookup f9 = some ⟨oc9, od9, .func (PySem.W.fnOf "is_name" "is_name" (defArgs s_is_name) (defBody s_is_name) (defScope s_is_name) .none kV9 dc9 pm9 an9 cd9 ct9), sl9⟩) (c9 : PySem.W.codeIn K cd9 "is_name" = true) (k9 : PySem.W.keepIn K (.ref f9) = true)
    (a10 : PySem.W.nsIn K mainGlobals "is_letters" = some (some (.ref f10))) (l10 : K.lookup f10 = some ⟨oc10, od10, .func (PySem.W.fnOf "is_letters" "is_letters" (defArgs s_is_letters) (defBody s_is_letters) (defScope s_is_letters) .none kV10 dc10 pm10 an10 cd10 ct10), sl10⟩) (c10 : PySem.W.codeIn K cd10 "is_letters" = true) (k10 : PySem.W.keepIn K (.ref f10) = true)
    (a11 : PySem.W.nsIn K mainGlobals "_law_pick" = some (some (.ref f11))) (l11 : K.lookup f11 = some ⟨oc11, od11, .func (PySem.W.fnOf "_law_pick" "_law_pick" (defArgs s__law_pick) (defBody s__law_pick) (defScope s__law_pick) .none kV11 dc11 pm11 an11 cd11 ct11), sl11⟩) (c11 : PySem.W.codeIn K cd11 "_law_pick" = true) (k11 : PySem.W.keepIn K (.ref f11) = true)
    (a12 : PySem.W.nsIn K mainGlobals "_law_letter" = some (some (.ref f12))) (l12 : K.lookup f12 = some ⟨oc12, od12, .func (PySem.W.fnOf "_law_letter" "_law_letter" (defArgs s__law_letter) (defBody s__law_letter) (defScope s__law_letter) .none kV12 dc12 pm12 an12 cd12 ct12), sl12⟩) (c12 : PySem.W.codeIn K cd12 "_law_letter" = true) (k12 : PySem.W.keepIn K (.ref f12) = true)
    (a13 : PySem.W.nsIn K mainGlobals "_law_are_signs" = some (some (.ref f13))) (l13 : K.lookup f13 = some ⟨oc13, od13, .func (PySem.W.fnOf "_law_are_signs" "_law_are_signs" (defArgs s__law_are_signs) (defBody s__law_are_signs) (defScope s__law_are_signs) .none kV13 dc13 pm13 an13 cd13 ct13), sl13⟩) (c13 : PySem.W.codeIn K cd13 "_law_are_signs" = true) (k13 : PySem.W.keepIn K (.ref f13) = true)
    (a14 : PySem.W.nsIn K mainGlobals "_law_numbers" = some (some (.ref f14))) (l14 : K.lookup f14 = some ⟨oc14, od14, .func (PySem.W.fnOf "_law_numbers" "_law_numbers" (defArgs s__law_numbers) (defBody s__law_numbers) (defScope s__law_numbers) .none kV14 dc14 pm14 an14 cd14 ct14), sl14⟩) (c14 : PySem.W.codeIn K cd14 "_law_numbers" = true) (k14 : PySem.W.keepIn K (.ref f14) = true)
    (a15 : PySem.W.nsIn K mainGlobals "require_letters" = some (some (.ref f15))) (l15 : K.lookup f15 = some ⟨oc15, od15, .func (PySem.W.fnOf "require_letters" "require_letters" (defArgs s_require_letters) (defBody s_require_letters) (defScope s_require_letters) .none kV15 dc15 pm15 an15 cd15 ct15), sl15⟩) (c15 : PySem.W.codeIn K cd15 "require_letters" = true) (k15 : PySem.W.keepIn K (.ref f15) = true)
    (a16 : PySem.W.nsIn K mainGlobals "_law_strings" = some (some (.ref f16))) (l16 : K.lookup f16 = some ⟨oc16, od16, .func (PySem.W.fnOf "_law_strings" "_law_strings" (defArgs s__law_strings) (defBody s__law_strings) (defScope s__law_strings) .none kV16 dc16 pm16 an16 cd16 ct16), sl16⟩) (c16 : PySem.W.codeIn K cd16 "_law_strings" = true) (k16 : PySem.W.keepIn K (.ref f16) = true)
    (a17 : PySem.W.nsIn K mainGlobals "is_text" = some (some (.ref f17))) (l17 : K.lookup f17 = some ⟨oc17, od17, .func (PySem.W.fnOf "is_text" "is_text" (defArgs s_is_text) (defBody s_is_text) (defScope s_is_text) .none kV17 dc17 pm17 an17 cd17 ct17), sl17⟩) (c17 : PySem.W.codeIn K cd17 "is_text" = true) (k17 : PySem.W.keepIn K (.ref f17) = true)
    (a18 : PySem.W.nsIn K mainGlobals "_law_refused" = some (some (.ref f18))) (l18 : K.lookup f18 = some ⟨oc18, od18, .func (PySem.W.fnOf "_law_refused" "_law_refused" (defArgs s__law_refused) (defBody s__law_refused) (defScope s__law_refused) .none kV18 dc18 pm18 an18 cd18 ct18), sl18⟩) (c18 : PySem.W.codeIn K cd18 "_law_refused" = true) (k18 : PySem.W.keepIn K (.ref f18) = true)
    (a19 : PySem.W.nsIn K mainGlobals "law" = some (some (.ref f19))) (l19 : K.lookup f19 = some ⟨oc19, od19, .func (PySem.W.fnOf "law" "law" (defArgs s_law) (defBody s_law) (defScope s_law) .none kV19 dc19 pm19 an19 cd19 ct19), sl19⟩) (c19 : PySem.W.codeIn K cd19 "law" = true) (k19 : PySem.W.keepIn K (.ref f19) = true)
    (u0 : PySem.W.nsIn K mainGlobals "MAX_LETTERS" = some (some (.int 8 t0))) (u1 : PySem.W.nsIn K mainGlobals "MAX_DIGITS" = some (some (.int 200 t1))) (u2 : PySem.W.nsIn K mainGlobals "MOST_LETTERS" = some (some (.int 4 t2))) (u3 : PySem.W.nsIn K mainGlobals "GREATEST" = some (some (.int ((10 ^ 50) ^ 4 - 1) t3)))
    (z0 : PySem.W.nsIn K mainGlobals "abs" = some none) (z1 : PySem.W.nsIn K mainGlobals "all" = some none) (z2 : PySem.W.nsIn K mainGlobals "bool" = some none) (z3 : PySem.W.nsIn K mainGlobals "int" = some none) (z4 : PySem.W.nsIn K mainGlobals "isinstance" = some none) (z5 : PySem.W.nsIn K mainGlobals "len" = some none) (z6 : PySem.W.nsIn K mainGlobals "max" = some none) (z7 : PySem.W.nsIn K mainGlobals "min" = some none) (z8 : PySem.W.nsIn K mainGlobals "range" = some none) (z9 : PySem.W.nsIn K mainGlobals "repr" = some none) (z10 : PySem.W.nsIn K mainGlobals "set" = some none) (z11 : PySem.W.nsIn K mainGlobals "sorted" = some none) (z12 : PySem.W.nsIn K mainGlobals "str" = some none) (z13 : PySem.W.nsIn K mainGlobals "zip" = some none)
    (xa : PySem.W.nsIn K mainGlobals "InvalidLetters" = some (some (.ref C))) (xk : PySem.W.keepIn K (.ref C) = true) (xe : PySem.W.excIn K C [.type "ValueError", .type "Exception", .type "BaseException", .type "object"] "ValueError.__new__" = true) (xs : PySem.W.subIn K (.ref C) (.type "BaseException") = some true) (xt : PySem.W.typeIn K (.ref C) = some (.type "type")) (xi : PySem.W.isClsIn K C = true) (xm : PySem.W.subIn K (.ref C) (.ref C) = some true) :
    ∃ (W : Wd) (fd : FuncData), W.K = K ∧ (∀ (s : Shared) (u : Value), BindsTo s fd ⟨[u], []⟩ [("_law_script", u)]) ∧ ∀ base : Heap, FnG l.prog w K mg base 6 fa fd ["_law_script"] (spOf W 1 d_law) := by
  have e := hfa.symm.trans (PySem.W.mg_of X H a19)
  cases e
  let W : Wd := ⟨K, fun _ => C⟩
  have B : ∀ (st : Stmt) (N : List Str) (k : Nat) (fs : List (Str × Nat × (List D → M D))), GB mg W (cx st N k fs) := fun st N k fs => by
    refine ⟨fun x d hx => ?_, fun x hx => ?_, fun x hx => ?_, fun c x b hx => ?_⟩
    · have hm := mem_look (l := globs) hx
      simp only [globs, List.mem_cons, List.not_mem_nil, or_false, Prod.mk.injEq] at hm
      rcases hm with ⟨rfl, rfl⟩ | ⟨rfl, rfl⟩ | ⟨rfl, rfl⟩ | ⟨rfl, rfl⟩
      · exact glob_int (PySem.W.mg_of X H u0)
      · exact glob_int (PySem.W.mg_of X H u1)
      · exact glob_int (PySem.W.mg_of X H u2)
      · exact glob_int (PySem.W.mg_of X H u3)
    · have hm : x ∈ blts := List.contains_iff_mem.mp hx
      simp only [blts, List.mem_cons, List.not_mem_nil, or_false] at hm
      rcases hm with rfl | rfl | rfl | rfl | rfl | rfl | rfl | rfl | rfl | rfl | rfl | rfl | rfl | rfl
      · exact PySem.W.mg_none_of X H z0
      · exact PySem.W.mg_none_of X H z1
      · exact PySem.W.mg_none_of X H z2
      · exact PySem.W.mg_none_of X H z3
      · exact PySem.W.mg_none_of X H z4
      · exact PySem.W.mg_none_of X H z5
      · exact PySem.W.mg_none_of X H z6
      · exact PySem.W.mg_none_of X H z7
      · exact PySem.W.mg_none_of X H z8
      · exact PySem.W.mg_none_of X H z9
      · exact PySem.W.mg_none_of X H z10
      · exact PySem.W.mg_none_of X H z11
      · exact PySem.W.mg_none_of X H z12
      · exact PySem.W.mg_none_of X H z13
    · have hm : x ∈ xcs := List.contains_iff_mem.mp hx
      simp only [xcs, List.mem_cons, List.not_mem_nil, or_false] at hm
      subst hm
      exact ⟨PySem.W.mg_of X H xa, xk, xe, xs, xt⟩
    · have hx2 : catOf c x = some b := hx
      unfold catOf at hx2
      split at hx2
      · rename_i q
        obtain ⟨rfl, rfl⟩ := q
        cases hx2
        exact ⟨PySem.W.mg_of X H xa, exm_of xs xi xt xm⟩
      · cases hx2
  have F0 := fun_mk (st := s_is_integer) l0 c0 k0
  have b0 := F0.binds (ps := ["value"]) fun _ _ _ _ _ _ us hl => match us, hl with | [_], _ => rfl
  have F1 := fun_mk (st := s_are_small) l1 c1 k1
  have b1 := F1.binds (ps := ["text"]) fun _ _ _ _ _ _ us hl => match us, hl with | [_], _ => rfl
  have F2 := fun_mk (st := s_is_ascending) l2 c2 k2
  have b2 := F2.binds (ps := ["values"]) fun _ _ _ _ _ _ us hl => match us, hl with | [_], _ => rfl
  have F3 := fun_mk (st := s_is_text_within) l3 c3 k3
  have b3 := F3.binds (ps := ["letters", "value"]) fun _ _ _ _ _ _ us hl => match us, hl with | [_, _], _ => rfl
  have F4 := fun_mk (st := s__law_pot) l4 c4 k4
  have b4 := F4.binds (ps := ["_law_script", "_law_at"]) fun _ _ _ _ _ _ us hl => match us, hl with | [_, _], _ => rfl
  have F5 := fun_mk (st := s__law_bit) l5 c5 k5
  have b5 := F5.binds (ps := ["_law_pot_here", "_law_much"]) fun _ _ _ _ _ _ us hl => match us, hl with | [_, _], _ => rfl
  have F6 := fun_mk (st := s__law_spelled) l6 c6 k6
  have b6 := F6.binds (ps := ["_law_value"]) fun _ _ _ _ _ _ us hl => match us, hl with | [_], _ => rfl
  have F7 := fun_mk (st := s__law_is_long) l7 c7 k7
  have b7 := F7.binds (ps := ["_law_value"]) fun _ _ _ _ _ _ us hl => match us, hl with | [_], _ => rfl
  have F8 := fun_mk (st := s__law_is_in) l8 c8 k8
  have b8 := F8.binds (ps := ["_law_signs", "_law_value"]) fun _ _ _ _ _ _ us hl => match us, hl with | [_, _], _ => rfl
  have F9 := fun_mk (st := s_is_name) l9 c9 k9
  have b9 := F9.binds (ps := ["value"]) fun _ _ _ _ _ _ us hl => match us, hl with | [_], _ => rfl
  have F10 := fun_mk (st := s_is_letters) l10 c10 k10
  have b10 := F10.binds (ps := ["value"]) fun _ _ _ _ _ _ us hl => match us, hl with | [_], _ => rfl
  have F11 := fun_mk (st := s__law_pick) l11 c11 k11
  have b11 := F11.binds (ps := ["_law_pot_here", "_law_items"]) fun _ _ _ _ _ _ us hl => match us, hl with | [_, _], _ => rfl
  have F12 := fun_mk (st := s__law_letter) l12 c12 k12
  have b12 := F12.binds (ps := ["_law_pot_here"]) fun _ _ _ _ _ _ us hl => match us, hl with | [_], _ => rfl
  have F13 := fun_mk (st := s__law_are_signs) l13 c13 k13
  have b13 := F13.binds (ps := ["_law_value"]) fun _ _ _ _ _ _ us hl => match us, hl with | [_], _ => rfl
  have F14 := fun_mk (st := s__law_numbers) l14 c14 k14
  have b14 := F14.binds (ps := ["_law_pot_here", "_law_cell"]) fun _ _ _ _ _ _ us hl => match us, hl with | [_, _], _ => rfl
  have F15 := fun_mk (st := s_require_letters) l15 c15 k15
  have b15 := F15.binds (ps := ["value"]) fun _ _ _ _ _ _ us hl => match us, hl with | [_], _ => rfl
  have F16 := fun_mk (st := s__law_strings) l16 c16 k16
  have b16 := F16.binds (ps := ["_law_pot_here"]) fun _ _ _ _ _ _ us hl => match us, hl with | [_], _ => rfl
  have F17 := fun_mk (st := s_is_text) l17 c17 k17
  have b17 := F17.binds (ps := ["letters", "value"]) fun _ _ _ _ _ _ us hl => match us, hl with | [_, _], _ => rfl
  have F18 := fun_mk (st := s__law_refused) l18 c18 k18
  have b18 := F18.binds (ps := ["_law_signs"]) fun _ _ _ _ _ _ us hl => match us, hl with | [_], _ => rfl
  have F19 := fun_mk (st := s_law) l19 c19 k19
  have b19 := F19.binds (ps := ["_law_script"]) fun _ _ _ _ _ _ us hl => match us, hl with | [_], _ => rfl
  refine ⟨W, PySem.W.fnOf "law" "law" (defArgs s_law) (defBody s_law) (defScope s_law) .none kV19 dc19 pm19 an19 cd19 ct19, rfl, fun s u => .of_eq rfl, fun base => ?_⟩
  have o0 : FnAt l.prog w W mg base 1 ("is_integer", 1, d_is_integer) := ok_is_integer (B _ _ _ _) F0 (PySem.W.mg_of X H a0) b0
  have o1 : FnAt l.prog w W mg base 1 ("are_small", 1, d_are_small) := ok_are_small (B _ _ _ _) F1 (PySem.W.mg_of X H a1) b1
  have o2 : FnAt l.prog w W mg base 1 ("is_ascending", 1, d_is_ascending) := ok_is_ascending (B _ _ _ _) F2 (PySem.W.mg_of X H a2) b2
  have o3 : FnAt l.prog w W mg base 1 ("is_text_within", 2, d_is_text_within) := ok_is_text_within (B _ _ _ _) F3 (PySem.W.mg_of X H a3) b3
  have o4 : FnAt l.prog w W mg base 1 ("_law_pot", 2, d__law_pot) := ok__law_pot (B _ _ _ _) F4 (PySem.W.mg_of X H a4) b4
  have o5 : FnAt l.prog w W mg base 1 ("_law_bit", 2, d__law_bit) := ok__law_bit (B _ _ _ _) F5 (PySem.W.mg_of X H a5) b5
  have o6 : FnAt l.prog w W mg base 1 ("_law_spelled", 1, d__law_spelled) := ok__law_spelled (B _ _ _ _) F6 (PySem.W.mg_of X H a6) b6
  have o7 : FnAt l.prog w W mg base 1 ("_law_is_long", 1, d__law_is_long) := ok__law_is_long (B _ _ _ _) F7 (PySem.W.mg_of X H a7) b7
  have o8 : FnAt l.prog w W mg base 1 ("_law_is_in", 2, d__law_is_in) := ok__law_is_in (B _ _ _ _) F8 (PySem.W.mg_of X H a8) b8
  have o9 : FnAt l.prog w W mg base 2 ("is_name", 1, d_is_name) := ok_is_name (B _ _ _ _) F9 (PySem.W.mg_of X H a9) b9 o1
  have o10 : FnAt l.prog w W mg base 2 ("is_letters", 1, d_is_letters) := ok_is_letters (B _ _ _ _) F10 (PySem.W.mg_of X H a10) b10 o1 o2
  have o11 : FnAt l.prog w W mg base 2 ("_law_pick", 2, d__law_pick) := ok__law_pick (B _ _ _ _) F11 (PySem.W.mg_of X H a11) b11 o5
  have o12 : FnAt l.prog w W mg base 2 ("_law_letter", 1, d__law_letter) := ok__law_letter (B _ _ _ _) F12 (PySem.W.mg_of X H a12) b12 o5
  have o13 : FnAt l.prog w W mg base 2 ("_law_are_signs", 1, d__law_are_signs) := ok__law_are_signs (B _ _ _ _) F13 (PySem.W.mg_of X H a13) b13 o6
  have o14 : FnAt l.prog w W mg base 2 ("_law_numbers", 2, d__law_numbers) := ok__law_numbers (B _ _ _ _) F14 (PySem.W.mg_of X H a14) b14 o5
  have o15 : FnAt l.prog w W mg base 3 ("require_letters", 1, d_require_letters) := ok_require_letters (B _ _ _ _) F15 (PySem.W.mg_of X H a15) b15 o10
  have o16 : FnAt l.prog w W mg base 3 ("_law_strings", 1, d__law_strings) := ok__law_strings (B _ _ _ _) F16 (PySem.W.mg_of X H a16) b16 o5 o11 o12
  have o17 : FnAt l.prog w W mg base 4 ("is_text", 2, d_is_text) := ok_is_text (B _ _ _ _) F17 (PySem.W.mg_of X H a17) b17 o15 o3
  have o18 : FnAt l.prog w W mg base 5 ("_law_refused", 1, d__law_refused) := ok__law_refused (B _ _ _ _) F18 (PySem.W.mg_of X H a18) b18 o17
  exact fn_den (G := g_law) 40 F19 ⟨rfl, rfl, rfl, by decide +kernel, rfl, by decide +kernel, by decide +kernel⟩ rfl rfl rfl (gok_of (B _ _ _ _) rfl ⟨o4.mono (by decide), o16.mono (by decide), o11.mono (by decide), o14.mono (by decide), o13.mono (by decide), o0.mono (by decide), o9.mono (by decide), o10.mono (by decide), o17.mono (by decide), o7.mono (by decide), o6.mono (by decide), o8.mono (by decide), o18.mono (by decide), trivial⟩)
end K00
open PySem PySem.W PyProof.Rows
set_option maxHeartbeats 0 in
theorem PySem.Challenge.cw_loneguess_k00_integers_names_letters_and_holds : PySem.Challenge.rw_loneguess_k00_integers_names_letters_and.Holds := by
  w_on; o_law; k_head; (case hw => w_witness2)
  k_fill
  refine Pu.walk_D (l := PySem.Challenge.rw_loneguess_k00_integers_names_letters_and) (n := 63) (k := 6) (x := "_law_script") (L := K00.d_law) rfl (by decide) rfl ⟨rfl, by decide, by decide⟩ (fun w h Y => PySem.W.kIn_of Y) ?F K00.law_holds
  case F =>
    intro w mg fa h KX G hmg
    refine' K00.all_mk KX G hmg ?a0 ?l0 ?c0 ?k0 ?a1 ?l1 ?c1 ?k1 ?a2 ?l2 ?c2 ?k2 ?a3 ?l3 ?c3 ?k3 ?a4 ?l4 ?c4 ?k4 ?a5 ?l5 ?c5 ?k5 ?a6 ?l6 ?c6 ?k6 ?a7 ?l7 ?c7 ?k7 ?a8 ?l8 ?c8 ?k8 ?a9 ?l9 ?c9 ?k9 ?a10 ?l10 ?c10 ?k10 ?a11 ?l11 ?c11 ?k11 ?a12 ?l12 ?c12 ?k12 ?a13 ?l13 ?c13 ?k13 ?a14 ?l14 ?c14 ?k14 ?a15 ?l15 ?c15 ?k15 ?a16 ?l16 ?c16 ?k16 ?a17 ?l17 ?c17 ?k17 ?a18 ?l18 ?c18 ?k18 ?a19 ?l19 ?c19 ?k19 ?u0 ?u1 ?u2 ?u3 ?z0 ?z1 ?z2 ?z3 ?z4 ?z5 ?z6 ?z7 ?z8 ?z9 ?z10 ?z11 ?z12 ?z13 ?xa ?xk ?xe ?xs ?xt ?xi ?xm
    (case a0 => k_is); (case l0 => k_is); (case c0 => k_is); (case k0 => k_is); (case a1 => k_is); (case l1 => k_is); (case c1 => k_is); (case k1 => k_is); (case a2 => k_is); (case l2 => k_is); (case c2 => k_is); (case k2 => k_is); (case a3 => k_is); (case l3 => k_is); (case c3 => k_is); (case k3 => k_is); (case a4 => k_is); (case l4 => k_is); (case c4 => k_is); (case k4 => k_is); (case a5 => k_is); (case l5 => k_is); (case c5 => k_is); (case k5 => k_is); (case a6 => k_is); (case l6 => k_is); (case c6 => k_is); (case k6 => k_is); (case a7 => k_is); (case l7 => k_is); (case c7 => k_is); (case k7 => k_is); (case a8 => k_is); (case l8 => k_is); (case c8 => k_is); (case k8 => k_is); (case a9 => k_is); (case l9 => k_is); (case c9 => k_is); (case k9 => k_is); (case a10 => k_is); (case l10 => k_is); (case c10 => k_is); (case k10 => k_is); (case a11 => k_is); (case l11 => k_is); (case c11 => k_is); (case k11 => k_is); (case a12 => k_is); (case l12 => k_is); (case c12 => k_is); (case k12 => k_is); (case a13 => k_is); (case l13 => k_is); (case c13 => k_is); (case k13 => k_is); (case a14 => k_is); (case l14 => k_is); (case c14 => k_is); (case k14 => k_is); (case a15 => k_is); (case l15 => k_is); (case c15 => k_is); (case k15 => k_is); (case a16 => k_is); (case l16 => k_is); (case c16 => k_is); (case k16 => k_is); (case a17 => k_is); (case l17 => k_is); (case c17 => k_is); (case k17 => k_is); (case a18 => k_is); (case l18 => k_is); (case c18 => k_is); (case k18 => k_is); (case a19 => k_is); (case l19 => k_is); (case c19 => k_is); (case k19 => k_is); (case u0 => k_is); (case u1 => k_is); (case u2 => k_is); (case u3 => k_is); (case z0 => k_is); (case z1 => k_is); (case z2 => k_is); (case z3 => k_is); (case z4 => k_is); (case z5 => k_is); (case z6 => k_is); (case z7 => k_is); (case z8 => k_is); (case z9 => k_is); (case z10 => k_is); (case z11 => k_is); (case z12 => k_is); (case z13 => k_is); (case xa => k_is); (case xk => k_is); (case xe => k_exc); (case xs => k_is); (case xt => k_is); (case xi => k_is); (case xm => first | rfl | k_is)

