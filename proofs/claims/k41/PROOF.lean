import PyProof.Rows.All
import Wide.All
import OpenK.AllK
import Wide.FinOn
import HandS.ForMost
import HandS.Walk
import HandS.Flow
import HandS.Exc
import HandS.ExcOwn
import HandS.TryOnly
import HandS.WordsExc
import HandS.Wide
import HandS.IsInst
import HandS.Property
import HandS.ClsMeth
import HandS.TupAny
import HandS.RaiseMore
import PyProof.ReprRoads
import HandS.SortInts
import HandS.More
import KE.KCallOwn
import KE.KSortTupAny
import HandS.Iter
import HandS.Zip
import KE.GoesMore
import KE.GoesEnum
import HandS.SetTxt0
import HandS.SetTxtIn
import HandS.TupSets
import HandS.Star
import HandS.FStr
import HandS.DictComp
import HandS.Style
import HandS.Ends
import HandS.EndBits
import PyProof.StrLawsRepr
import PyProof.FitsInt
import KE.DataCmp
import PySem.Challenge.RW_loneguess_k41_formulas_told
set_option Elab.async false
set_option linter.all false
set_option maxRecDepth 100000
/-! Pu1: plain data D over the abstract heap; a store of changing things; the monad M; what a run promises. -/
namespace Pu
open PySem L2

inductive D where
  | non | bl (b : Bool) | int (i : Int) | str (x : Str)
  | tup (xs : List D) | lst (xs : List D) | frz (xs : List D) | dic (kvs : List (Key × D))
  | obj (C : Str) (fs : List (Str × D))
  | cell (i : Nat) | ty (n : String) | adr (x : Str)
  deriving Inhabited

/-- what a cell holds -/
inductive MO where
  | lst (xs : List D) | dic (kvs : List (Key × D)) | obj (C : Str) (fs : List (Str × D)) | dead
  deriving Inhabited
abbrev Sto := List MO

/-- the abstract heap, the cells' addresses, the cells -/
structure Mem where
  H : Hp
  as : List Addr
  μ : Sto
  pv : List Addr
/-- what may still change: a cell, or a list that is being made -/
def Mem.live (m : Mem) (a : Addr) : Prop := (∃ (i : Nat) (o : MO), m.as[i]? = some a ∧ m.μ[i]? = some o ∧ o ≠ MO.dead) ∨ a ∈ m.pv

/-- the fixed part: what the top has written, where its classes and named objects stand -/
structure Wd where
  K : PySem.W.Frag
  ca : Str → Addr

def PurL (W : Wd) (m : Mem) (a : Addr) (vs : List V) : Prop := (Rd m.H a (.lst vs) ∧ ¬ m.live a) ∨ ∀ H, SqL W.K H a vs
def PurT (W : Wd) (m : Mem) (a : Addr) (vs : List V) : Prop := (Rd m.H a (.tup vs) ∧ ¬ m.live a) ∨ ∀ H, SqT W.K H a vs
theorem PurL.sq {W : Wd} {m : Mem} {a : Addr} {vs : List V} : PurL W m a vs → SqL W.K m.H a vs
  | .inl h => .inl h.1
  | .inr h => h _
theorem PurT.sq {W : Wd} {m : Mem} {a : Addr} {vs : List V} : PurT W m a vs → SqT W.K m.H a vs
  | .inl h => .inl h.1
  | .inr h => h _

mutual
inductive Den (W : Wd) (m : Mem) : D → V → Prop
  | non : Den W m .non .non
  | bl (b) : Den W m (.bl b) (.bl b)
  | int (i) : Den W m (.int i) (.int i)
  | str (x) : Den W m (.str x) (.str x)
  | ty (n) : Den W m (.ty n) (.ty n)
  | adr (x) : Den W m (.adr x) (.ref (W.ca x))
  | cell {i a} : m.as[i]? = some a → Den W m (.cell i) (.ref a)
  | tup {ds a vs} : PurT W m a vs → DenL W m ds vs → Den W m (.tup ds) (.ref a)
  | lst {ds a vs} : m.H a = some (.lst vs) → ¬ m.live a → DenL W m ds vs → Den W m (.lst ds) (.ref a)
  | frz {ds a vs} : PurL W m a vs → DenL W m ds vs → Den W m (.frz ds) (.ref a)
  | dic {kvs a kv' ob} : m.H a = some (.frz ob (.dK kv')) → ¬ m.live a → DenK W m kvs kv' → Den W m (.dic kvs) (.ref a)
  | obj {C fs a dx fv} : m.H a = some (.ins (W.ca C) dx fv) → ¬ m.live a → DenF W m fs fv → Den W m (.obj C fs) (.ref a)
inductive DenL (W : Wd) (m : Mem) : List D → List V → Prop
  | nil : DenL W m [] []
  | cons {d v ds vs} : Den W m d v → DenL W m ds vs → DenL W m (d :: ds) (v :: vs)
inductive DenK (W : Wd) (m : Mem) : List (Key × D) → List (Key × V) → Prop
  | nil : DenK W m [] []
  | cons {k d v ds vs} : Den W m d v → DenK W m ds vs → DenK W m ((k, d) :: ds) ((k, v) :: vs)
inductive DenF (W : Wd) (m : Mem) : List (Str × D) → List (Str × V) → Prop
  | nil : DenF W m [] []
  | cons {k d v ds vs} : Den W m d v → DenF W m ds vs → DenF W m ((k, d) :: ds) ((k, v) :: vs)
end

def CellOk (W : Wd) (m : Mem) : MO → Addr → Prop
  | .lst ds, a => ∃ vs, m.H a = some (.lst vs) ∧ DenL W m ds vs
  | .dic kvs, a => ∃ kv', m.H a = some (.dK kv') ∧ DenK W m kvs kv'
  | .obj C fs, a => ∃ dx fv, m.H a = some (.ins (W.ca C) dx fv) ∧ DenF W m fs fv
  | .dead, _ => True
structure Okm (W : Wd) (m : Mem) : Prop where
  len : m.as.length = m.μ.length
  nd : m.as.Nodup
  tr : ∀ a ∈ m.as, ∃ o, m.H a = some o
  pvt : ∀ a ∈ m.pv, (∃ o, m.H a = some o) ∧ a ∉ m.as
  ok : ∀ (i : Nat) (o : MO) (a : Addr), m.μ[i]? = some o → m.as[i]? = some a → CellOk W m o a

structure Step (m m' : Mem) : Prop where
  ext : ∃ l, m'.as = m.as ++ l
  keep : ∀ a o, m.H a = some o → ¬ m.live a → m'.H a = some o
  live : ∀ a, m'.live a → m.live a ∨ m.H a = none
  pv : m'.pv = m.pv
  pvk : ∀ a ∈ m.pv, m'.H a = m.H a

theorem Step.refl (m : Mem) : Step m m := ⟨⟨[], by simp⟩, fun _ _ h _ => h, fun _ h => .inl h, rfl, fun _ _ => rfl⟩
theorem Step.dead {m m' : Mem} (s : Step m m') {a : Addr} {o : HO} (h : m.H a = some o) (n : ¬ m.live a) : ¬ m'.live a := fun l => by
  rcases s.live a l with l | l
  · exact n l
  · rw [h] at l; cases l
theorem Step.trans {m m1 m2 : Mem} (s : Step m m1) (t : Step m1 m2) : Step m m2 := by
  refine ⟨?_, fun a o h n => t.keep a o (s.keep a o h n) (s.dead h n), fun a l => ?_, t.pv.trans s.pv, fun a h => (t.pvk a (by rw [s.pv]; exact h)).trans (s.pvk a h)⟩
  · obtain ⟨l, e⟩ := s.ext
    obtain ⟨k, e'⟩ := t.ext
    exact ⟨l ++ k, by rw [e', e, List.append_assoc]⟩
  · by_cases h : m.live a
    · exact .inl h
    · right
      cases e : m.H a with
      | none => rfl
      | some o =>
        rcases t.live a l with l | l
        · exact absurd l (s.dead e h)
        · rw [s.keep a o e h] at l; cases l

/-- what stood still stands still -/
structure Up (m n : Mem) : Prop where
  as : ∀ (i : Nat) (a : Addr), m.as[i]? = some a → n.as[i]? = some a
  keep : ∀ a o, m.H a = some o → ¬ m.live a → n.H a = some o ∧ ¬ n.live a
theorem Step.as {m m' : Mem} (s : Step m m') {i : Nat} {a : Addr} (h : m.as[i]? = some a) : m'.as[i]? = some a := by
  obtain ⟨l, e⟩ := s.ext
  rw [e, List.getElem?_append_left (List.getElem?_eq_some_iff.mp h).1]
  exact h
theorem Step.up {m m' : Mem} (s : Step m m') : Up m m' := ⟨fun _ _ h => s.as h, fun a o h n => ⟨s.keep a o h n, s.dead h n⟩⟩
theorem Up.rd {m n : Mem} (s : Up m n) {a : Addr} {u : HO} (h : Rd m.H a u) (l : ¬ m.live a) : Rd n.H a u ∧ ¬ n.live a := by
  rcases h with h | ⟨o, h⟩
  · exact ⟨.inl (s.keep a _ h l).1, (s.keep a _ h l).2⟩
  · exact ⟨.inr ⟨o, (s.keep a _ h l).1⟩, (s.keep a _ h l).2⟩
theorem PurL.up {W : Wd} {m n : Mem} {a : Addr} {vs : List V} (s : Up m n) : PurL W m a vs → PurL W n a vs
  | .inl h => .inl (s.rd h.1 h.2)
  | .inr h => .inr h
theorem PurT.up {W : Wd} {m n : Mem} {a : Addr} {vs : List V} (s : Up m n) : PurT W m a vs → PurT W n a vs
  | .inl h => .inl (s.rd h.1 h.2)
  | .inr h => .inr h
theorem PurL.mono {W : Wd} {m m' : Mem} {a : Addr} {vs : List V} (s : Step m m') (h : PurL W m a vs) : PurL W m' a vs := h.up s.up
theorem PurT.mono {W : Wd} {m m' : Mem} {a : Addr} {vs : List V} (s : Step m m') (h : PurT W m a vs) : PurT W m' a vs := h.up s.up
mutual
theorem Den.up {W : Wd} {m m' : Mem} (s : Up m m') : ∀ {d : D} {v : V}, Den W m d v → Den W m' d v
  | _, _, .non => .non
  | _, _, .bl b => .bl b
  | _, _, .int i => .int i
  | _, _, .str x => .str x
  | _, _, .ty n => .ty n
  | _, _, .adr x => .adr x
  | _, _, .cell h => .cell (s.as _ _ h)
  | _, _, .tup h l => .tup (h.up s) (DenL.up s l)
  | _, _, .lst h n l => .lst (s.keep _ _ h n).1 (s.keep _ _ h n).2 (DenL.up s l)
  | _, _, .frz h l => .frz (h.up s) (DenL.up s l)
  | _, _, .dic h n l => .dic (s.keep _ _ h n).1 (s.keep _ _ h n).2 (DenK.up s l)
  | _, _, .obj h n l => .obj (s.keep _ _ h n).1 (s.keep _ _ h n).2 (DenF.up s l)
theorem DenL.up {W : Wd} {m m' : Mem} (s : Up m m') : ∀ {ds : List D} {vs : List V}, DenL W m ds vs → DenL W m' ds vs
  | _, _, .nil => .nil
  | _, _, .cons h t => .cons (Den.up s h) (DenL.up s t)
theorem DenK.up {W : Wd} {m m' : Mem} (s : Up m m') : ∀ {ds : List (Key × D)} {vs : List (Key × V)}, DenK W m ds vs → DenK W m' ds vs
  | _, _, .nil => .nil
  | _, _, .cons h t => .cons (Den.up s h) (DenK.up s t)
theorem DenF.up {W : Wd} {m m' : Mem} (s : Up m m') : ∀ {ds : List (Str × D)} {vs : List (Str × V)}, DenF W m ds vs → DenF W m' ds vs
  | _, _, .nil => .nil
  | _, _, .cons h t => .cons (Den.up s h) (DenF.up s t)
end
theorem Den.mono {W : Wd} {m m' : Mem} (s : Step m m') {d : D} {v : V} (h : Den W m d v) : Den W m' d v := h.up s.up
theorem DenL.mono {W : Wd} {m m' : Mem} (s : Step m m') {d : List D} {v : List V} (h : DenL W m d v) : DenL W m' d v := h.up s.up
theorem DenK.mono {W : Wd} {m m' : Mem} (s : Step m m') {d : List (Key × D)} {v : List (Key × V)} (h : DenK W m d v) : DenK W m' d v := h.up s.up
theorem DenF.mono {W : Wd} {m m' : Mem} (s : Step m m') {d : List (Str × D)} {v : List (Str × V)} (h : DenF W m d v) : DenF W m' d v := h.up s.up

section
variable {W : Wd} {m m' : Mem}
theorem DenL.length : ∀ {ds : List D} {vs : List V}, DenL W m ds vs → ds.length = vs.length
  | _, _, .nil => rfl
  | _, _, .cons _ t => by rw [List.length_cons, List.length_cons, DenL.length t]
theorem DenL.get : ∀ {ds : List D} {vs : List V} {i : Nat} {d : D}, DenL W m ds vs → ds[i]? = some d → ∃ v, vs[i]? = some v ∧ Den W m d v
  | _, _, _, _, .nil, e => by simp at e
  | _, _, 0, _, .cons h _, e => by
    have e' := Option.some.inj e
    subst e'
    exact ⟨_, rfl, h⟩
  | _, _, i + 1, d, .cons _ t, e => DenL.get (i := i) (d := d) t e
theorem DenL.getV : ∀ {ds : List D} {vs : List V} {i : Nat} {v : V}, DenL W m ds vs → vs[i]? = some v → ∃ d, ds[i]? = some d ∧ Den W m d v
  | _, _, _, _, .nil, e => by simp at e
  | _, _, 0, _, .cons h _, e => by
    have e' := Option.some.inj e
    subst e'
    exact ⟨_, rfl, h⟩
  | _, _, i + 1, d, .cons _ t, e => DenL.getV (i := i) (v := d) t e
theorem DenL.append : ∀ {ds es : List D} {vs ws : List V}, DenL W m ds vs → DenL W m es ws → DenL W m (ds ++ es) (vs ++ ws)
  | _, _, _, _, .nil, s => s
  | _, _, _, _, .cons r t, s => .cons r (DenL.append t s)
theorem DenL.take : ∀ {ds : List D} {vs : List V} (n : Nat), DenL W m ds vs → DenL W m (ds.take n) (vs.take n)
  | _, _, 0, _ => .nil
  | _, _, _ + 1, .nil => .nil
  | _, _, n + 1, .cons r t => .cons r (DenL.take n t)
theorem DenL.drop : ∀ {ds : List D} {vs : List V} (n : Nat), DenL W m ds vs → DenL W m (ds.drop n) (vs.drop n)
  | _, _, 0, r => r
  | _, _, _ + 1, .nil => .nil
  | _, _, n + 1, .cons _ t => DenL.drop n t
theorem DenL.set {d : D} {v : V} (r : Den W m d v) : ∀ {ds : List D} {vs : List V} (i : Nat), DenL W m ds vs → DenL W m (ds.set i d) (vs.set i v)
  | _, _, _, .nil => .nil
  | _, _, 0, .cons _ t => .cons r t
  | _, _, i + 1, .cons q t => .cons q (DenL.set r i t)
theorem DenL.ints : ∀ (ns : List Int), DenL W m (ns.map D.int) (ns.map V.int)
  | [] => .nil
  | n :: r => .cons (.int n) (DenL.ints r)
theorem DenL.of_ints : ∀ {ns : List Int} {vs : List V}, DenL W m (ns.map D.int) vs → vs = ns.map V.int
  | [], _, .nil => rfl
  | _ :: _, _, .cons h t => by cases h; rw [DenL.of_ints t]; rfl
theorem DenL.bls : ∀ (ns : List Bool), DenL W m (ns.map D.bl) (ns.map V.bl)
  | [] => .nil
  | n :: r => .cons (.bl n) (DenL.bls r)
theorem DenL.of_bls : ∀ {ns : List Bool} {vs : List V}, DenL W m (ns.map D.bl) vs → vs = ns.map V.bl
  | [], _, .nil => rfl
  | _ :: _, _, .cons h t => by cases h; rw [DenL.of_bls t]; rfl
theorem DenL.strs : ∀ (ns : List Str), DenL W m (ns.map D.str) (ns.map V.str)
  | [] => .nil
  | n :: r => .cons (.str n) (DenL.strs r)
theorem DenL.of_strs : ∀ {ns : List Str} {vs : List V}, DenL W m (ns.map D.str) vs → vs = ns.map V.str
  | [], _, .nil => rfl
  | _ :: _, _, .cons h t => by cases h; rw [DenL.of_strs t]; rfl

/-! ### the heap grows by one thing; by one cell; a cell changes; a cell dies -/
def Mem.put (m : Mem) (p : Addr) (o : HO) : Mem := { m with H := upd m.H p o }
theorem Okm.notin (g : Okm W m) {p : Addr} (h : m.H p = none) : p ∉ m.as := fun z => by
  obtain ⟨o, e⟩ := g.tr p z
  rw [h] at e; cases e
theorem Okm.nolive (g : Okm W m) {p : Addr} (h : m.H p = none) : ¬ m.live p := by
  rintro (⟨i, _, e, _⟩ | e)
  · exact g.notin h (List.mem_of_getElem? e)
  · obtain ⟨⟨o, z⟩, _⟩ := g.pvt p e
    rw [h] at z; cases z
theorem step_put (g : Okm W m) {p : Addr} {o : HO} (h : m.H p = none) : Step m (m.put p o) :=
  ⟨⟨[], by simp [Mem.put]⟩, fun a u e _ => by show upd m.H p o a = some u; rw [upd_ne (ne_of_none e h)]; exact e, fun _ l => .inl l, rfl, fun a ha => by
    obtain ⟨⟨u, e⟩, _⟩ := g.pvt a ha
    show upd m.H p o a = m.H a
    rw [upd_ne (ne_of_none e h)]⟩
theorem CellOk.up (s : Up m m') {o : MO} {a : Addr} (h : CellOk W m o a) (e : ∀ u, m.H a = some u → m'.H a = some u) : CellOk W m' o a := by
  cases o with
  | lst ds => obtain ⟨vs, h1, h2⟩ := h; exact ⟨vs, e _ h1, h2.up s⟩
  | dic kvs => obtain ⟨vs, h1, h2⟩ := h; exact ⟨vs, e _ h1, h2.up s⟩
  | obj C fs => obtain ⟨dx, vs, h1, h2⟩ := h; exact ⟨dx, vs, e _ h1, h2.up s⟩
  | dead => exact h
theorem CellOk.mono (s : Step m m') {o : MO} {a : Addr} (h : CellOk W m o a) (e : ∀ u, m.H a = some u → m'.H a = some u) : CellOk W m' o a := h.up s.up e
theorem good_put (g : Okm W m) {p : Addr} {o : HO} (h : m.H p = none) : Okm W (m.put p o) := by
  have hu : ∀ a u, m.H a = some u → upd m.H p o a = some u := fun a u e => by rw [upd_ne (ne_of_none e h)]; exact e
  refine ⟨g.len, g.nd, fun a ha => ?_, fun a ha => ⟨let ⟨u, e⟩ := (g.pvt a ha).1; ⟨u, hu a u e⟩, (g.pvt a ha).2⟩, fun i u a e1 e2 => (g.ok i u a e1 e2).mono (step_put g h) (hu a)⟩
  obtain ⟨u, e⟩ := g.tr a ha
  exact ⟨u, hu a u e⟩
theorem live_put {p a : Addr} {o : HO} : (m.put p o).live a ↔ m.live a := Iff.rfl
/-- a new tuple, a new list that stays as it is -/
theorem den_tup (g : Okm W m) {p : Addr} {ds : List D} {vs : List V} (h : m.H p = none) (l : DenL W m ds vs) : Den W (m.put p (.tup vs)) (.tup ds) (.ref p) :=
  .tup (.inl ⟨.inl upd_same, g.nolive h⟩) (l.mono (step_put g h))
theorem den_lst (g : Okm W m) {p : Addr} {ds : List D} {vs : List V} (h : m.H p = none) (l : DenL W m ds vs) : Den W (m.put p (.lst vs)) (.lst ds) (.ref p) :=
  .lst upd_same (g.nolive h) (l.mono (step_put g h))
theorem den_dic (g : Okm W m) {p : Addr} {ob : Obj} {ds : List (Key × D)} {vs : List (Key × V)} (h : m.H p = none) (l : DenK W m ds vs) : Den W (m.put p (.frz ob (.dK vs))) (.dic ds) (.ref p) :=
  .dic upd_same (g.nolive h) (l.mono (step_put g h))

/-- a new cell -/
def Mem.grow (m : Mem) (p : Addr) (o : HO) (c : MO) : Mem := { m with H := upd m.H p o, as := m.as ++ [p], μ := m.μ ++ [c] }
theorem live_grow (g : Okm W m) {p a : Addr} {o : HO} {c : MO} (l : (m.grow p o c).live a) : m.live a ∨ a = p := by
  obtain ⟨i, u, e1, e2, n⟩ | l := l
  case inr => exact .inl (.inr l)
  by_cases hi : i < m.as.length
  · left
    refine .inl ⟨i, u, ?_, ?_, n⟩
    · have e1' : (m.as ++ [p])[i]? = some a := e1
      rw [List.getElem?_append_left hi] at e1'; exact e1'
    · have e2' : (m.μ ++ [c])[i]? = some u := e2
      rw [List.getElem?_append_left (by rw [← g.len]; exact hi)] at e2'; exact e2'
  · right
    have e1' : (m.as ++ [p])[i]? = some a := e1
    rw [List.getElem?_append_right (by omega)] at e1'
    cases h : i - m.as.length with
    | zero => rw [h] at e1'; exact (Option.some.inj e1').symm
    | succ k => rw [h] at e1'; simp at e1'
theorem step_grow (g : Okm W m) {p : Addr} {o : HO} {c : MO} (h : m.H p = none) : Step m (m.grow p o c) :=
  ⟨⟨[p], rfl⟩, fun a u e _ => by show upd m.H p o a = some u; rw [upd_ne (ne_of_none e h)]; exact e, fun a l => by
    rcases live_grow g l with l | rfl
    · exact .inl l
    · exact .inr h, rfl, fun a ha => by
    obtain ⟨⟨u, e⟩, _⟩ := g.pvt a ha
    show upd m.H p o a = m.H a
    rw [upd_ne (ne_of_none e h)]⟩
theorem good_grow (g : Okm W m) {p : Addr} {o : HO} {c : MO} (h : m.H p = none) (hc : CellOk W (m.grow p o c) c p) : Okm W (m.grow p o c) := by
  have hu : ∀ a u, m.H a = some u → upd m.H p o a = some u := fun a u e => by rw [upd_ne (ne_of_none e h)]; exact e
  refine ⟨by simp [Mem.grow, g.len], ?_, fun a ha => ?_, fun a ha => ?_, fun i u a e1 e2 => ?_⟩
  · show (m.as ++ [p]).Nodup
    rw [List.nodup_append]
    exact ⟨g.nd, by simp, fun a ha b hb => by
      have : b = p := by simpa using hb
      subst this
      rintro rfl
      exact g.notin h ha⟩
  · have ha' : a ∈ m.as ++ [p] := ha
    rcases List.mem_append.mp ha' with ha' | ha'
    · obtain ⟨u, e⟩ := g.tr a ha'
      exact ⟨u, hu a u e⟩
    · have : a = p := by simpa using ha'
      subst this
      exact ⟨o, upd_same⟩
  · obtain ⟨⟨u, e⟩, n⟩ := g.pvt a ha
    refine ⟨⟨u, hu a u e⟩, fun z => ?_⟩
    rcases List.mem_append.mp (show a ∈ m.as ++ [p] from z) with z | z
    · exact n z
    · have : a = p := by simpa using z
      subst this
      rw [h] at e; cases e
  · have e1' : (m.μ ++ [c])[i]? = some u := e1
    have e2' : (m.as ++ [p])[i]? = some a := e2
    by_cases hi : i < m.as.length
    · rw [List.getElem?_append_left (by rw [← g.len]; exact hi)] at e1'
      rw [List.getElem?_append_left hi] at e2'
      exact (g.ok i u a e1' e2').mono (step_grow g h) (hu a)
    · rw [List.getElem?_append_right (by rw [← g.len]; omega)] at e1'
      rw [List.getElem?_append_right (by omega)] at e2'
      rw [← g.len] at e1'
      cases hz : i - m.as.length with
      | zero =>
        rw [hz] at e1' e2'
        cases e1'; cases e2'; exact hc
      | succ k => rw [hz] at e2'; simp at e2'
theorem den_grow {p : Addr} {o : HO} {c : MO} : Den W (m.grow p o c) (.cell m.as.length) (.ref p) := .cell (by show (m.as ++ [p])[m.as.length]? = some p; simp)

/-- the i-th cell, at a, is written -/
def Mem.wr (m : Mem) (i : Nat) (a : Addr) (o : HO) (c : MO) : Mem := { m with H := upd m.H a o, μ := m.μ.set i c }
theorem live_wr {i : Nat} {a b : Addr} {o : HO} {c : MO} (hi : m.as[i]? = some a) (hl : m.live a) (l : (m.wr i a o c).live b) : m.live b := by
  obtain ⟨j, u, e1, e2, n⟩ | l := l
  case inr => exact .inr l
  have e2' : (m.μ.set i c)[j]? = some u := e2
  by_cases h : i = j
  · subst h
    have e1' : m.as[i]? = some b := e1
    rw [hi] at e1'; cases e1'; exact hl
  · rw [List.getElem?_set_ne h] at e2'
    exact .inl ⟨j, u, e1, e2', n⟩
theorem step_wr (g : Okm W m) {i : Nat} {a : Addr} {o : HO} {c : MO} (hi : m.as[i]? = some a) (hl : m.live a) : Step m (m.wr i a o c) :=
  ⟨⟨[], by simp [Mem.wr]⟩, fun b u e n => by
    show upd m.H a o b = some u
    have hb : b ≠ a := fun z => n (by rw [z]; exact hl)
    rw [upd_ne hb]; exact e, fun b l => .inl (live_wr hi hl l), rfl, fun b hb => by
    have ne : b ≠ a := fun z => (g.pvt b hb).2 (by rw [z]; exact List.mem_of_getElem? hi)
    show upd m.H a o b = m.H b
    rw [upd_ne ne]⟩
theorem good_wr (g : Okm W m) {i : Nat} {a : Addr} {o : HO} {c : MO} (hi : m.as[i]? = some a) (hl : m.live a) (hc : CellOk W (m.wr i a o c) c a) : Okm W (m.wr i a o c) := by
  have tr : ∀ b, (∃ u, m.H b = some u) → ∃ u, upd m.H a o b = some u := fun b ⟨u, e⟩ => by
    by_cases h : b = a
    · subst h; exact ⟨o, upd_same⟩
    · exact ⟨u, by rw [upd_ne h]; exact e⟩
  refine ⟨by simp [Mem.wr, g.len], g.nd, fun b hb => tr b (g.tr b hb), fun b hb => ⟨tr b (g.pvt b hb).1, (g.pvt b hb).2⟩, fun j u b e1 e2 => ?_⟩
  · have e1' : (m.μ.set i c)[j]? = some u := e1
    have e2' : m.as[j]? = some b := e2
    by_cases h : i = j
    · subst h
      rw [hi] at e2'; cases e2'
      have hlt : i < m.μ.length := by rw [← g.len]; exact (List.getElem?_eq_some_iff.mp hi).1
      rw [List.getElem?_set_self hlt] at e1'
      cases e1'; exact hc
    · rw [List.getElem?_set_ne h] at e1'
      refine (g.ok j u b e1' e2').mono (step_wr g hi hl) fun w e => ?_
      show upd m.H a o b = some w
      rw [upd_ne (fun z => h ?_)]
      · exact e
      · obtain ⟨h1, z1⟩ := List.getElem?_eq_some_iff.mp hi
        obtain ⟨h2, z2⟩ := List.getElem?_eq_some_iff.mp e2'
        exact (List.getElem_inj g.nd).mp (z1.trans (z ▸ z2.symm))
/-- the i-th cell changes no more -/
def Mem.die (m : Mem) (i : Nat) : Mem := { m with μ := m.μ.set i .dead }
theorem live_die {i : Nat} {b : Addr} (l : (m.die i).live b) : m.live b := by
  obtain ⟨j, u, e1, e2, n⟩ | l := l
  case inr => exact .inr l
  have e2' : (m.μ.set i .dead)[j]? = some u := e2
  by_cases h : i = j
  · subst h
    rw [List.getElem?_set] at e2'
    simp at e2'
    obtain ⟨_, e⟩ := e2'
    exact absurd e.symm n
  · rw [List.getElem?_set_ne h] at e2'
    exact .inl ⟨j, u, e1, e2', n⟩
theorem die_live (g : Okm W m) {i : Nat} {a : Addr} (hi : m.as[i]? = some a) : ¬ (m.die i).live a := by
  rintro (⟨j, u, e1, e2, n⟩ | l)
  case inr => exact (g.pvt a l).2 (List.mem_of_getElem? hi)
  have e1' : m.as[j]? = some a := e1
  have e2' : (m.μ.set i .dead)[j]? = some u := e2
  have hij : i = j := by
    obtain ⟨h1, z1⟩ := List.getElem?_eq_some_iff.mp hi
    obtain ⟨h2, z2⟩ := List.getElem?_eq_some_iff.mp e1'
    exact (List.getElem_inj g.nd).mp (z1.trans z2.symm)
  subst hij
  rw [List.getElem?_set] at e2'
  simp at e2'
  exact n e2'.2.symm
theorem step_die {i : Nat} : Step m (m.die i) := ⟨⟨[], by simp [Mem.die]⟩, fun _ _ e _ => e, fun b l => .inl (live_die l), rfl, fun _ _ => rfl⟩
theorem good_die (g : Okm W m) {i : Nat} : Okm W (m.die i) := by
  refine ⟨by simp [Mem.die, g.len], g.nd, g.tr, g.pvt, fun j u b e1 e2 => ?_⟩
  have e1' : (m.μ.set i .dead)[j]? = some u := e1
  by_cases h : i = j
  · subst h
    rw [List.getElem?_set] at e1'
    simp at e1'
    rw [← e1'.2]
    trivial
  · rw [List.getElem?_set_ne h] at e1'
    exact (g.ok j u b e1' e2).mono step_die fun _ e => e
end

section
variable {W : Wd} {m m' : Mem}
/-- a list that is being made, at D: it begins, it grows, it is made -/
def Mem.opn (m : Mem) (D : Addr) (u : HO) : Mem := { m with H := upd m.H D u, pv := D :: m.pv }
def Mem.gro (m : Mem) (D : Addr) (u : HO) : Mem := { m with H := upd m.H D u }
def Mem.cls (m : Mem) (l : List Addr) : Mem := { m with pv := l }
theorem up_opn {D : Addr} {u : HO} (h : m.H D = none) : Up m (m.opn D u) :=
  ⟨fun _ _ e => e, fun a o e n => ⟨by show upd m.H D _ a = some o; rw [upd_ne (ne_of_none e h)]; exact e, fun l => by
    rcases l with l | l
    · exact n (.inl l)
    · rcases List.mem_cons.mp (show a ∈ D :: m.pv from l) with z | z
      · subst z; rw [h] at e; cases e
      · exact n (.inr z)⟩⟩
theorem okm_opn (g : Okm W m) {D : Addr} {u : HO} (h : m.H D = none) : Okm W (m.opn D u) := by
  have hu : ∀ a y, m.H a = some y → upd m.H D u a = some y := fun a y e => by rw [upd_ne (ne_of_none e h)]; exact e
  refine ⟨g.len, g.nd, fun a ha => let ⟨u, e⟩ := g.tr a ha; ⟨u, hu a u e⟩, fun a ha => ?_, fun i o a e1 e2 => (g.ok i o a e1 e2).up (up_opn h) (hu a)⟩
  rcases List.mem_cons.mp (show a ∈ D :: m.pv from ha) with z | z
  · subst z; exact ⟨⟨_, upd_same⟩, g.notin h⟩
  · exact ⟨let ⟨u, e⟩ := (g.pvt a z).1; ⟨u, hu a u e⟩, (g.pvt a z).2⟩
theorem up_gro {D : Addr} {u : HO} (h : D ∈ m.pv) : Up m (m.gro D u) :=
  ⟨fun _ _ e => e, fun a o e n => ⟨by
    have z : a ≠ D := fun z => n (.inr (by rw [z]; exact h))
    show upd m.H D _ a = some o; rw [upd_ne z]; exact e, fun l => n l⟩⟩
theorem okm_gro (g : Okm W m) {D : Addr} {u : HO} (h : D ∈ m.pv) : Okm W (m.gro D u) := by
  have hu : ∀ a y, a ≠ D → m.H a = some y → upd m.H D u a = some y := fun a y z e => by rw [upd_ne z]; exact e
  have na : ∀ a ∈ m.as, a ≠ D := fun a ha z => (g.pvt D h).2 (z ▸ ha)
  refine ⟨g.len, g.nd, fun a ha => let ⟨u, e⟩ := g.tr a ha; ⟨u, hu a u (na a ha) e⟩, fun a ha => ⟨?_, (g.pvt a ha).2⟩, fun i o a e1 e2 => (g.ok i o a e1 e2).up (up_gro h) fun u e => hu a u (na a (List.mem_of_getElem? e2)) e⟩
  by_cases z : a = D
  · subst z; exact ⟨_, upd_same⟩
  · obtain ⟨u, e⟩ := (g.pvt a ha).1
    exact ⟨u, hu a u z e⟩
theorem up_cls {D : Addr} {l : List Addr} (h : m.pv = D :: l) : Up m (m.cls l) :=
  ⟨fun _ _ e => e, fun a o e n => ⟨e, fun z => n (by
    rcases z with z | z
    · exact .inl z
    · exact .inr (by rw [h]; exact List.mem_cons_of_mem _ z))⟩⟩
theorem okm_cls (g : Okm W m) {D : Addr} {l : List Addr} (h : m.pv = D :: l) : Okm W (m.cls l) :=
  ⟨g.len, g.nd, g.tr, fun a ha => g.pvt a (by rw [h]; exact List.mem_cons_of_mem _ ha), fun i o a e1 e2 => (g.ok i o a e1 e2).up (up_cls h) fun _ e => e⟩
/-- from the opening on, seen from ahead: D is new, all else steps -/
structure Mk (m m' : Mem) (D : Addr) : Prop where
  ext : ∃ l, m'.as = m.as ++ l
  keep : ∀ a o, m.H a = some o → ¬ m.live a → m'.H a = some o
  live : ∀ a, m'.live a → m.live a ∨ m.H a = none
  pv : m'.pv = D :: m.pv
  pvk : ∀ a ∈ m.pv, m'.H a = m.H a
theorem Mk.opn (g : Okm W m) {D : Addr} {u : HO} (h : m.H D = none) : Mk m (m.opn D u) D :=
  ⟨⟨[], by simp [Mem.opn]⟩, fun a o e n => ((up_opn h).keep a o e n).1, fun a l => by
    rcases l with l | l
    · exact .inl (.inl l)
    · rcases List.mem_cons.mp (show a ∈ D :: m.pv from l) with z | z
      · subst z; exact .inr h
      · exact .inl (.inr z), rfl, fun a ha => by
    obtain ⟨⟨u, e⟩, _⟩ := g.pvt a ha
    show upd m.H D _ a = m.H a
    rw [upd_ne (ne_of_none e h)]⟩
theorem Mk.step {m1 : Mem} {D : Addr} (k : Mk m m1 D) (s : Step m1 m') : Mk m m' D := by
  have dead : ∀ a o, m.H a = some o → ¬ m.live a → ¬ m1.live a := fun a o e n l => by
    rcases k.live a l with z | z
    · exact n z
    · rw [e] at z; cases z
  refine ⟨?_, fun a o e n => s.keep a o (k.keep a o e n) (dead a o e n), fun a l => ?_, s.pv.trans k.pv, fun a h => (s.pvk a (by rw [k.pv]; exact List.mem_cons_of_mem _ h)).trans (k.pvk a h)⟩
  · obtain ⟨x, e⟩ := k.ext
    obtain ⟨y, e'⟩ := s.ext
    exact ⟨x ++ y, by rw [e', e, List.append_assoc]⟩
  · by_cases h : m.live a
    · exact .inl h
    · right
      cases e : m.H a with
      | none => rfl
      | some o =>
        rcases s.live a l with z | z
        · exact absurd z (dead a o e h)
        · rw [k.keep a o e h] at z; cases z
theorem Mk.gro (g : Okm W m) {m1 : Mem} {D : Addr} {u : HO} (hD : m.H D = none) (k : Mk m m1 D) : Mk m (m1.gro D u) D :=
  ⟨k.ext, fun a o e n => by show upd m1.H D _ a = some o; rw [upd_ne (ne_of_none e hD)]; exact k.keep a o e n, fun a l => k.live a l, k.pv, fun a ha => by
    obtain ⟨⟨u, e⟩, _⟩ := g.pvt a ha
    show upd m1.H D _ a = m.H a
    rw [upd_ne (ne_of_none e hD)]
    exact k.pvk a ha⟩
theorem Mk.cls {m1 : Mem} {D : Addr} (k : Mk m m1 D) : Step m (m1.cls m.pv) :=
  ⟨k.ext, k.keep, fun a l => k.live a (by
    rcases l with l | l
    · exact .inl l
    · exact .inr (by rw [k.pv]; exact List.mem_cons_of_mem _ l)), rfl, k.pvk⟩
theorem Mk.up {m1 : Mem} {D : Addr} (k : Mk m m1 D) : Up m m1 := by
  refine ⟨fun i a e => ?_, fun a o e n => ⟨k.keep a o e n, fun l => ?_⟩⟩
  · obtain ⟨l, h⟩ := k.ext
    rw [h, List.getElem?_append_left (List.getElem?_eq_some_iff.mp e).1]
    exact e
  · rcases k.live a l with z | z
    · exact n z
    · rw [e] at z; cases z
theorem Mk.new (g : Okm W m) {m1 : Mem} {D : Addr} (hD : m.H D = none) (g1 : Okm W m1) (k : Mk m m1 D) : D ∉ m1.as ∧ D ∉ m.pv := by
  refine ⟨(g1.pvt D (by rw [k.pv]; exact List.mem_cons_self)).2, fun z => ?_⟩
  obtain ⟨⟨u, e⟩, _⟩ := g.pvt D z
  rw [hD] at e; cases e
/-- the list is made, and becomes a cell -/
def Mem.fix (m : Mem) (D : Addr) (l : List Addr) (ds : List Pu.D) : Mem := { m with as := m.as ++ [D], μ := m.μ ++ [.lst ds], pv := l }
theorem Mk.fix (g : Okm W m) {m1 : Mem} {D : Addr} (hD : m.H D = none) (g1 : Okm W m1) (k : Mk m m1 D) {ds : List Pu.D} {vs : List V} (h1 : m1.H D = some (.lst vs)) (l1 : DenL W m1 ds vs) :
    Step m (m1.fix D m.pv ds) ∧ Okm W (m1.fix D m.pv ds) := by
  obtain ⟨n1, n2⟩ := k.new g hD g1
  have lv : ∀ a, (m1.fix D m.pv ds).live a → a = D ∨ (m1.live a ∧ a ≠ D) ∨ a ∈ m.pv := by
    rintro a (⟨i, u, e1, e2, n⟩ | l)
    · have e1' : (m1.as ++ [D])[i]? = some a := e1
      have e2' : (m1.μ ++ [.lst ds])[i]? = some u := e2
      by_cases hi : i < m1.as.length
      · rw [List.getElem?_append_left hi] at e1'
        rw [List.getElem?_append_left (by rw [← g1.len]; exact hi)] at e2'
        exact .inr (.inl ⟨.inl ⟨i, u, e1', e2', n⟩, fun z => n1 (by rw [← z]; exact List.mem_of_getElem? e1')⟩)
      · rw [List.getElem?_append_right (by omega)] at e1'
        cases h : i - m1.as.length with
        | zero => rw [h] at e1'; exact .inl (Option.some.inj e1').symm
        | succ j => rw [h] at e1'; simp at e1'
    · exact .inr (.inr l)
  have st : Step m (m1.fix D m.pv ds) := by
    refine ⟨?_, k.keep, fun a l => ?_, rfl, k.pvk⟩
    · obtain ⟨l, e⟩ := k.ext
      exact ⟨l ++ [D], by show m1.as ++ [D] = _; rw [e, List.append_assoc]⟩
    · rcases lv a l with z | z | z
      · rw [z]; exact .inr hD
      · exact k.live a z.1
      · exact .inl (.inr z)
  have up : Up m1 (m1.fix D m.pv ds) := by
    refine ⟨fun i a e => ?_, fun a o e n => ⟨e, fun l => ?_⟩⟩
    · show (m1.as ++ [D])[i]? = some a
      rw [List.getElem?_append_left (List.getElem?_eq_some_iff.mp e).1]
      exact e
    · rcases lv a l with z | z | z
      · exact n (.inr (by rw [z, k.pv]; exact List.mem_cons_self))
      · exact n z.1
      · exact n (.inr (by rw [k.pv]; exact List.mem_cons_of_mem _ z))
  refine ⟨st, by show (m1.as ++ [D]).length = (m1.μ ++ [_]).length; simp [g1.len], ?_, fun a ha => ?_, fun a ha => ?_, fun i u a e1 e2 => ?_⟩
  · show (m1.as ++ [D]).Nodup
    rw [List.nodup_append]
    exact ⟨g1.nd, by simp, fun a ha b hb => by
      have : b = D := by simpa using hb
      subst this
      rintro rfl
      exact n1 ha⟩
  · rcases List.mem_append.mp (show a ∈ m1.as ++ [D] from ha) with z | z
    · exact g1.tr a z
    · have : a = D := by simpa using z
      subst this
      exact ⟨_, h1⟩
  · have hp : a ∈ m1.pv := by rw [k.pv]; exact List.mem_cons_of_mem _ ha
    refine ⟨(g1.pvt a hp).1, fun z => ?_⟩
    rcases List.mem_append.mp (show a ∈ m1.as ++ [D] from z) with z | z
    · exact (g1.pvt a hp).2 z
    · have : a = D := by simpa using z
      exact n2 (by rw [← this]; exact ha)
  · have e1' : (m1.μ ++ [.lst ds])[i]? = some u := e1
    have e2' : (m1.as ++ [D])[i]? = some a := e2
    by_cases hi : i < m1.as.length
    · rw [List.getElem?_append_left (by rw [← g1.len]; exact hi)] at e1'
      rw [List.getElem?_append_left hi] at e2'
      exact (g1.ok i u a e1' e2').up up fun _ e => e
    · rw [List.getElem?_append_right (by rw [← g1.len]; omega)] at e1'
      rw [List.getElem?_append_right (by omega)] at e2'
      rw [← g1.len] at e1'
      cases hz : i - m1.as.length with
      | zero =>
        rw [hz] at e1' e2'
        cases e1'; cases e2'
        exact ⟨vs, h1, l1.up up⟩
      | succ j => rw [hz] at e2'; simp at e2'
theorem Mk.mem {m1 : Mem} {D : Addr} (k : Mk m m1 D) : D ∈ m1.pv := by rw [k.pv]; exact List.mem_cons_self
end

/-! ### the monad -/
structure Ex where
  cls : Str
  fs : List (Str × D)
inductive R (α : Type) where
  | ok (a : α) (μ : Sto) | exc (e : Ex) (μ : Sto) | stuck
def M (α : Type) := Sto → R α
def M.bind {α β : Type} (x : M α) (f : α → M β) : M β := fun μ => match x μ with
  | .ok a μ' => f a μ'
  | .exc e μ' => .exc e μ'
  | .stuck => .stuck
def M.pure {α : Type} (a : α) : M α := fun μ => .ok a μ
instance : Monad M where
  pure := M.pure
  bind := M.bind
def yes {α : Type} (a : α) : M α := fun μ => .ok a μ
def stuck {α : Type} : M α := fun _ => .stuck
def raise {α : Type} (e : Ex) : M α := fun μ => .exc e μ

/-- what a run promises of the memory behind it -/
def wpR {α : Type} (W : Wd) (m : Mem) (E : Ex → Mem → Prop) (Q : α → Mem → Prop) : R α → Prop
  | .ok a μ => ∀ m', Step m m' → Okm W m' → m'.μ = μ → Q a m'
  | .exc e μ => ∀ m', Step m m' → Okm W m' → m'.μ = μ → E e m'
  | .stuck => False
section
variable {α β : Type} {W : Wd} {m m1 : Mem} {E : Ex → Mem → Prop} {Q : α → Mem → Prop}
theorem wpR.mono {E' : Ex → Mem → Prop} {Q' : α → Mem → Prop} {r : R α} (h : wpR W m E Q r) (hE : ∀ e m', Step m m' → Okm W m' → E e m' → E' e m') (hQ : ∀ a m', Step m m' → Okm W m' → Q a m' → Q' a m') : wpR W m E' Q' r := by
  cases r with
  | ok a μ => exact fun m' s g e => hQ a m' s g (h m' s g e)
  | exc x μ => exact fun m' s g e => hE x m' s g (h m' s g e)
  | stuck => exact h
/-- the first part of a run -/
theorem wpR_bind {x : M β} {f : β → M α} (h : wpR W m E Q ((x >>= f) m.μ)) : wpR W m E (fun b m1 => wpR W m1 E Q (f b m1.μ)) (x m.μ) := by
  have h' : wpR W m E Q (M.bind x f m.μ) := h
  unfold M.bind at h'
  cases e : x m.μ with
  | ok b μ =>
    rw [e] at h'
    intro m1 s g e1
    have h2 : wpR W m E Q (f b μ) := h'
    rw [e1]
    cases e2 : f b μ with
    | ok a μ2 => rw [e2] at h2; exact fun m2 s2 g2 q => h2 m2 (s.trans s2) g2 q
    | exc x μ2 => rw [e2] at h2; exact fun m2 s2 g2 q => h2 m2 (s.trans s2) g2 q
    | stuck => rw [e2] at h2; exact h2
  | exc b μ => rw [e] at h'; exact h'
  | stuck => rw [e] at h'; exact h'
/-- behind a step -/
theorem wpR.behind {r : R α} (s : Step m m1) (h : wpR W m E Q r) : wpR W m1 E Q r := by
  cases r with
  | ok a μ => exact fun m2 s2 g2 q => h m2 (s.trans s2) g2 q
  | exc x μ => exact fun m2 s2 g2 q => h m2 (s.trans s2) g2 q
  | stuck => exact h
theorem wpR_pure {a : α} (g : Okm W m) (h : wpR W m E Q ((Pure.pure a : M α) m.μ)) : Q a m := h m (Step.refl m) g rfl
end
end Pu

set_option Elab.async false
set_option linter.all false
set_option maxRecDepth 100000
/-! Pu2: readings made of plain functions; what a def keeps, where no repr is under way; the context of a den. -/
namespace Pu
open PySem L2

abbrev Sl := List (Option D)
inductive Fl where
  | next (ρ : Sl) | brk (ρ : Sl) | cont (ρ : Sl) | ret (d : D) | exc (e : Ex) (ρ : Sl)

structure EnvOk (W : Wd) (m : Mem) (ρ : Sl) (σ : St) : Prop where
  len : ρ.length = σ.length
  get : ∀ (i : Nat) (d : D), ρ[i]? = some (some d) → ∃ v, σ[i]? = some (some v) ∧ Den W m d v
theorem EnvOk.mono {W : Wd} {m m' : Mem} {ρ : Sl} {σ : St} (s : Step m m') (h : EnvOk W m ρ σ) : EnvOk W m' ρ σ :=
  ⟨h.len, fun i d e => let ⟨v, e1, e2⟩ := h.get i d e; ⟨v, e1, e2.mono s⟩⟩
theorem EnvOk.set {W : Wd} {m : Mem} {ρ : Sl} {σ : St} {d : D} {v : V} (i : Nat) (h : EnvOk W m ρ σ) (r : Den W m d v) : EnvOk W m (ρ.set i (some d)) (σ.set i (some v)) := by
  refine ⟨by simp [h.len], fun j e q => ?_⟩
  by_cases hj : i = j
  · subst hj
    by_cases hl : i < ρ.length
    · rw [List.getElem?_set_self hl] at q
      have q' := Option.some.inj (Option.some.inj q)
      subst q'
      exact ⟨v, by rw [List.getElem?_set_self (by rw [← h.len]; exact hl)], r⟩
    · rw [List.getElem?_eq_none (by simpa using hl)] at q; cases q
  · rw [List.getElem?_set_ne hj] at q ⊢
    exact h.get j e q
theorem EnvOk.wipe {W : Wd} {m : Mem} {ρ : Sl} {σ : St} (i : Nat) (h : EnvOk W m ρ σ) : EnvOk W m (ρ.set i none) (σ.set i none) := by
  refine ⟨by simp [h.len], fun j e q => ?_⟩
  by_cases hj : i = j
  · subst hj
    by_cases hl : i < ρ.length
    · rw [List.getElem?_set_self hl] at q; cases q
    · rw [List.getElem?_eq_none (by simpa using hl)] at q; cases q
  · rw [List.getElem?_set_ne hj] at q ⊢
    exact h.get j e q
theorem EnvOk.forget {W : Wd} {m : Mem} {ρ : Sl} {σ : St} (i : Nat) (h : EnvOk W m ρ σ) : EnvOk W m (ρ.set i none) σ := by
  refine ⟨by simp [h.len], fun j e q => ?_⟩
  by_cases hj : i = j
  · subst hj
    by_cases hl : i < ρ.length
    · rw [List.getElem?_set_self hl] at q; cases q
    · rw [List.getElem?_eq_none (by simpa using hl)] at q; cases q
  · rw [List.getElem?_set_ne hj] at q
    exact h.get j e q
def wipeL (ρ : Sl) : List Nat → Sl
  | [] => ρ
  | v :: vs => (wipeL ρ vs).set v none
theorem EnvOk.wipes {W : Wd} {m : Mem} {ρ : Sl} {σ : St} (h : EnvOk W m ρ σ) : ∀ vs : List Nat, EnvOk W m (wipeL ρ vs) (L2.wipe σ vs)
  | [] => h
  | v :: vs => (EnvOk.wipes h vs).wipe v

/-- an exception in the air -/
def XDen (W : Wd) (m : Mem) (e : Ex) (cls : Value) (dx : Option Addr) : Prop :=
  cls = .ref (W.ca e.cls) ∧ ((e.fs = [] ∧ dx = none) ∨ ∃ d fv, dx = some d ∧ m.H d = some (.xd fv) ∧ DenF W m e.fs fv)

section
variable (W : Wd) (Z : WX)
def EWish (σ : St) : Ex → Mem → Prop := fun e m' => ∀ cls dx, XDen W m' e cls dx → Z cls dx σ m'.H
def TEof (f : Sl → M D) : TE := fun σ H Q => ∃ ρ m, m.H = H ∧ Okm W m ∧ EnvOk W m ρ σ ∧ wpR W m (EWish W Z σ) (fun d m' => ∀ v, Den W m' d v → Q v m'.H) (f ρ m.μ)
def TTof (f : Sl → M Bool) : TT := fun σ H Q => ∃ ρ m, m.H = H ∧ Okm W m ∧ EnvOk W m ρ σ ∧ wpR W m (EWish W Z σ) (fun b m' => Q b m'.H) (f ρ m.μ)
def TAof (f : Sl → M (List D)) : TA := fun σ H Q => ∃ ρ m, m.H = H ∧ Okm W m ∧ EnvOk W m ρ σ ∧ wpR W m (EWish W Z σ) (fun ds m' => ∀ vs, DenL W m' ds vs → Q vs m'.H) (f ρ m.μ)
def TOof (f : Sl → M (Option Int)) : TO := fun σ H Q => ∃ ρ m, m.H = H ∧ Okm W m ∧ EnvOk W m ρ σ ∧ wpR W m (EWish W Z σ) (fun o m' => Q o m'.H) (f ρ m.μ)
def TGof (f : D → Sl → M Sl) : TG := fun v σ H Q => ∃ ρ m d, m.H = H ∧ Okm W m ∧ EnvOk W m ρ σ ∧ Den W m d v ∧ wpR W m (EWish W Z σ) (fun ρ' m' => ∀ σ', EnvOk W m' ρ' σ' → Q σ' m'.H) (f d ρ m.μ)
def FlOk (D : Ends) : Fl → Mem → Prop
  | .next ρ, m => ∀ σ, EnvOk W m ρ σ → D.nx σ m.H
  | .brk ρ, m => ∀ σ, EnvOk W m ρ σ → D.bk σ m.H
  | .cont ρ, m => ∀ σ, EnvOk W m ρ σ → D.ct σ m.H
  | .ret d, m => ∀ v, Den W m d v → D.rt v m.H
  | .exc e ρ, m => ∀ σ cls dx, EnvOk W m ρ σ → XDen W m e cls dx → Z cls dx σ m.H
def TSof (f : Sl → M Fl) : TS := fun D σ H => ∃ ρ m, m.H = H ∧ Okm W m ∧ EnvOk W m ρ σ ∧ wpR W m (fun _ _ => False) (FlOk W Z D) (f ρ m.μ)
end

theorem PE.weak {X : Cx} {e : Expr} {t t' : TE} (h : PE X e t) (w : ∀ σ H Q, t' σ H Q → t σ H Q) : PE X e t' := ⟨fun pins s σ H Q I q => h.run pins s σ H Q I (w σ H Q q)⟩
theorem PT.weak {X : Cx} {e : Expr} {t t' : TT} (h : PT X e t) (w : ∀ σ H Q, t' σ H Q → t σ H Q) : PT X e t' := ⟨fun pins s σ H Q I q => h.run pins s σ H Q I (w σ H Q q)⟩
theorem PA.weak {X : Cx} {es : List Expr} {t t' : TA} (h : PA X es t) (w : ∀ σ H Q, t' σ H Q → t σ H Q) : PA X es t' := ⟨fun pos pins s σ H Q I q => h.run pos pins s σ H Q I (w σ H Q q)⟩
theorem PS.weak {X : Cx} {st : Stmt} {t t' : TS} (h : PS X st t) (w : ∀ D σ H, t' D σ H → t D σ H) : PS X st t' := ⟨fun pins s σ H D I q => h.run pins s σ H D I (w D σ H q)⟩
theorem PSs.weak {X : Cx} {st : List Stmt} {t t' : TS} (h : PSs X st t) (w : ∀ D σ H, t' D σ H → t D σ H) : PSs X st t' := ⟨fun pins s σ H D I q => h.run pins s σ H D I (w D σ H q)⟩
theorem PE.any {X : Cx} {e : Expr} : PE X e (fun _ _ _ => False) := ⟨fun _ _ _ _ _ _ q => q.elim⟩
theorem PS.any {X : Cx} {e : Stmt} : PS X e (fun _ _ _ => False) := ⟨fun _ _ _ _ _ _ q => q.elim⟩
theorem PSs.any {X : Cx} {e : List Stmt} : PSs X e (fun _ _ _ => False) := ⟨fun _ _ _ _ _ _ q => q.elim⟩
theorem PT.any {X : Cx} {e : Expr} : PT X e (fun _ _ _ => False) := ⟨fun _ _ _ _ _ _ q => q.elim⟩

/-! ### a def's promise by a plain function -/
/-- as FnOk, where no repr is under way; exceptions may leave -/
structure FnG (P : Program) (w : World) (K : PySem.W.Frag) (mg : Str → Option Value) (base : Heap) (k : Nat) (f : Addr) (fd : FuncData) (ps : List Str) (sp : Sp) : Prop where
  arity : ∀ vs H Q E, sp vs H Q E → vs.length = ps.length
  go : ∀ (A : Around) (out : List Env) (s : Shared) (H : Hp) (args : Args) (us : List Value) (vs : List V) (Q : VK) (E : XK), Room k A → A.guards = some [] → Env0 P w K mg base A out s H → BindsTo s fd args (ps.zip us) → Vals vs us → sp vs H Q E →
    codeAny (model P w) A (.call (.ref f) args) (CR (L2.CX P w) out P w H s Q E) s
theorem FnG.mono {P : Program} {w : World} {K : PySem.W.Frag} {mg : Str → Option Value} {base : Heap} {j k : Nat} {f : Addr} {fd : FuncData} {ps : List Str} {sp : Sp} (F : FnG P w K mg base j f fd ps sp) (h : j ≤ k) : FnG P w K mg base k f fd ps sp :=
  ⟨F.arity, fun A out s H args us vs Q E r => F.go A out s H args us vs Q E (r.mono h)⟩
theorem FnG.imp {P : Program} {w : World} {K : PySem.W.Frag} {mg : Str → Option Value} {base : Heap} {k : Nat} {f : Addr} {fd : FuncData} {ps : List Str} {sp sp' : Sp} (F : FnG P w K mg base k f fd ps sp) (h : ∀ vs H Q E, sp' vs H Q E → sp vs H Q E) :
    FnG P w K mg base k f fd ps sp' := ⟨fun vs H Q E q => F.arity vs H Q E (h _ _ _ _ q), fun A out s H args us vs Q E r g e b v q => F.go A out s H args us vs Q E r g e b v (h _ _ _ _ q)⟩

/-- the promise of a plain function -/
def spOf (W : Wd) (n : Nat) (F : List D → M D) : Sp := fun vs H Q E => vs.length = n ∧ ∃ ds m, m.H = H ∧ Okm W m ∧ DenL W m ds vs ∧
  wpR W m (fun e m' => ∀ cls dx, XDen W m' e cls dx → E cls dx m'.H) (fun d m' => ∀ v, Den W m' d v → Q v m'.H) (F ds m.μ)

/-- THE RULE for a def, where no repr is under way -/
theorem fnG_of {P : Program} {w : World} {K : PySem.W.Frag} {mg : Str → Option Value} {base : Heap} {k : Nat} {x qual : Str} {st : Stmt} {f : Addr} {fd : FuncData} {N ps : List Str} {sp : Sp}
    (F : Fun K x qual st f fd) (S : FnScope N ps (defScope st)) (arity : ∀ vs H Q E, sp vs H Q E → vs.length = ps.length)
    (body : ∀ (cdv : Value) (A : Around) (out : List Env) (s : Shared) (H : Hp) (vs : List V) (Q : VK) (E : XK), Room k (A.deeper (PyProof.Rows.envOfC qual (defScope st) s.heap.objs.size f cdv)) → A.guards = some [] → sp vs H Q E →
      ∃ t, PSs (cxOf (L2.CX P w) P w K mg base N qual (defScope st) f cdv A out s H E) (defBody st) t ∧ t { nx := fun _ H' => Q .non H', rt := Q } (start N vs) H) :
    FnG P w K mg base (k + 1) f fd ps sp := by
  obtain ⟨oc, od, kV, doc, pm, an, cdv, ct, osl, rfl, look, code⟩ := F.ex
  refine ⟨arity, fun A out s H args us vs Q E room gd e0 bind rel hs => ?_⟩
  have nvs := arity _ _ _ _ hs
  have kin : K.In s.heap := e0.mod.kin.keeps fun b o e => (e0.bs b o e).1
  have nolim : s.heap.NoLimit := e0.mod.nolimit.keeps fun b o e => (e0.bs b o e).1
  have kinds : ∀ y ∈ ps.zip us, (defScope st).names.lookup y.1 = some .local ∨ ((defScope st).names.lookup y.1 = some .cell ∧ ((cellsFrom (s.heap.objs.size + 1) (defScope st).names []).lookup y.1).isSome = true) := by
    rintro ⟨n, v⟩ hy
    rcases S.par n (List.of_mem_zip hy).1 with z | z
    · exact .inl z
    · exact .inr ⟨z, PySem.W.cellsFrom_some _ _ _ (.inl z)⟩
  refine codeAny_call_function room.depth (kin _ _ look) rfl S.co S.gen rfl (PySem.W.codeRec_of kin code) (bind _ _ _ _ ?_)
  refine wpAny_newFunctionEnv_cells S.kind kinds fun env ee s1 fresh => ?_
  subst ee
  refine ⟨nolim.keeps fresh.toInCall.keep, codeAny_func ?_⟩
  obtain ⟨t, run, q⟩ := body cdv A out s H vs Q E (room.deeper _) gd hs
  have I := inv_start (CX := L2.CX P w) (E := E) S room.hd e0 nvs rel fresh
  refine wpAny_mono (run.run [] s1 (start N vs) H _ I q) (fun fl s' hq => ?_) fun _ _ z => z
  cases fl with
  | ret u =>
    obtain ⟨v, σ', H', J, rv, z⟩ := hq
    exact ⟨v, H', J.os, J.bare, J.base, J.hok, rv, z⟩
  | next =>
    obtain ⟨σ', H', J, z⟩ := hq
    exact ⟨V.non, H', J.os, J.bare, J.base, J.hok, rfl, z⟩
  | brk =>
    obtain ⟨_, _, _, z⟩ := hq
    exact z.elim
  | cont =>
    obtain ⟨_, _, _, z⟩ := hq
    exact z.elim

section
variable {X : Cx} {k : Nat} {f : Addr} {fd : FuncData} {ps : List Str} {sp : Sp} {Z : WX} {x : Str} {p pos : Pos} {e : Expr} {es : List Expr} {t : TA}
/-- a call by values -/
theorem run_G {pins : List (Addr × Obj)} {σ : St} {H : Hp} {s : Shared} {Q : VK} {us : List Value} {vs : List V} (F : FnG X.prog X.w X.K X.mg X.base k f fd ps sp) (room : Room k X.A) (gd : X.A.guards = some []) (bs : Binds X.K fd ps []) (tk : Takes X Z)
    (I : Inv X pins σ H s) (r : Vals vs us) (h : sp vs H Q (WE Z σ)) : wpAny (model X.prog X.w) X.A (call (.ref f) us) (EP X pins σ Q) X.xe s := by
  have n : us.length = ps.length := by rw [← r.length]; exact F.arity _ _ _ _ h
  have bb := bs s us I.kIn (by rw [List.append_nil]; exact n)
  rw [List.append_nil] at bb
  refine wpAny_call (codeAny_mono (F.go X.A X.stack s H ⟨us, []⟩ us vs Q (WE Z σ) room gd I.env0 bb r h) fun res s' q => ?_)
  cases res with
  | error err => exact passAt tk σ pins H s err s' I q
  | ok fl =>
    cases fl with
    | ret u => exact I.after q
    | _ => exact q.elim
/-- f(e, ..) -/
theorem pe_callG (F : FnG X.prog X.w X.K X.mg X.base k f fd ps sp) (room : Room k X.A) (gd : X.A.guards = some []) (hg : Gl X x) (hm : X.mg x = some (.ref f)) (kp : PySem.W.keepIn X.K (.ref f) = true) (bs : Binds X.K fd ps []) (tk : Takes X Z)
    (ha : PA X (e :: es) t) (nd : (x == ("__debug__" : Str)) = false) (st : starEach (e :: es) X.env = (false, eval e X.env) :: starEach es X.env) (pl : (backTo pos (starEach es X.env)).any (·.1) = false) :
    PE X (.Call (.Name x p) (e :: es) [] pos) (fun σ H Q => t σ H fun vs H1 => sp vs H1 Q (WE Z σ)) := by
  refine ⟨fun pins s σ H Q I h => wpAny_Call_Name_kw (ld_glob I hg hm ?_ nd)⟩
  exact PySem.W.callWith_K (h₀ := X.base) I.ok.mod.kin kp (thn (ha.run pos pins s σ H _ I h) fun us s1 ⟨vs, H1, I1, r, q⟩ => ⟨I1.kIn, run_G F room gd bs tk I1 r q⟩) st pl
theorem pe_callG0 (F : FnG X.prog X.w X.K X.mg X.base k f fd ps sp) (room : Room k X.A) (gd : X.A.guards = some []) (hg : Gl X x) (hm : X.mg x = some (.ref f)) (kp : PySem.W.keepIn X.K (.ref f) = true) (bs : Binds X.K fd ps []) (tk : Takes X Z)
    (nd : (x == ("__debug__" : Str)) = false) : PE X (.Call (.Name x p) [] [] pos) (fun σ H Q => sp [] H Q (WE Z σ)) := by
  refine ⟨fun pins s σ H Q I h => wpAny_Call_Name_kw (ld_glob I hg hm ?_ nd)⟩
  exact PySem.W.callWith_K0 I.kIn kp (run_G (us := []) F room gd bs tk I .nil h)
end

/-! ### the context of a den -/
structure Ctx where
  N : List Str
  sc : Scope
  /-- the names whose cells are this frame's own -/
  own : Str → Bool
  glob : Str → Option D
  fn : Str → Option (Nat × (List D → M D))
  isB : Str → Bool
  /-- own exception classes that are raised with a text -/
  xc : Str → Bool
  /-- does «except c» catch an exception of the class x -/
  cat : Str → Str → Option Bool
  hint : Pos → Nat
  k : Nat
  hot : Bool
  /-- f is an attribute of C's instances, not of C -/
  fld : Str → Str → Bool := fun _ _ => false
  /-- C's methods: the number of arguments behind self -/
  meth : Str → Str → Option (Nat × (List D → M D)) := fun _ _ => none
  /-- C's __init__ -/
  make : Str → Option (Nat × (List D → M D)) := fun _ => none
  /-- C's methods that the language calls: the number of arguments behind self -/
  dun : Str → Str → Option (Nat × (List D → M D)) := fun _ _ => none
  /-- C's properties -/
  prop : Str → Str → Option (List D → M D) := fun _ _ => none
  /-- C has no own __ne__ -/
  ne : Str → Bool := fun _ => false
  /-- C's class methods: the number of arguments behind cls -/
  cmeth : Str → Str → Option (Nat × (List D → M D)) := fun _ _ => none
  /-- an own class whose instances are asked for by isinstance -/
  cls : Str → Bool := fun _ => false
  /-- is an instance of the first one of the second -/
  sub : Str → Str → Option Bool := fun _ _ => none
/-- what isinstance asks of an own class -/
structure ClsIs (K : PySem.W.Frag) (C : Addr) : Prop where
  ha : PySem.W.findIn K (.ref C) "__class__" = some (some (.builtin "object.__class__"))
  hn : PySem.W.specialIn K (.builtin "object.__class__") "__get__" = some (some (.builtin "getset_descriptor.__get__"))
  htk : PySem.W.takesIn K (.builtin "object.__class__") = some true
  hm : PySem.W.mroIn K C (.type "object") = some true
/-- what the classes' facts must say -/
structure ObOk (P : Program) (w : World) (mg : Str → Option Value) (base : Heap) (W : Wd) (G : Ctx) : Prop where
  fld : ∀ C f, G.fld C f = true → Cls W.K (W.ca C) ∧ NoAttr W.K (W.ca C) f
  meth : ∀ C m n F, G.meth C m = some (n, F) → ∃ f fd ps, Cls W.K (W.ca C) ∧ Meth W.K (W.ca C) m f ∧ FnG P w W.K mg base G.k f fd ps (spOf W (n + 1) F) ∧ Binds W.K fd ps []
  make : ∀ C n F, G.make C = some (n, F) → mg C = some (.ref (W.ca C)) ∧ ∃ f fd ps j, j + 1 ≤ G.k ∧ L2.Mk W.K (W.ca C) f ∧ FnG P w W.K mg base j f fd ps (spOf W (n + 1) F) ∧ Binds W.K fd ps []
  dun : ∀ C m n F, G.dun C m = some (n, F) → ∃ f fd ps j, j + 2 ≤ G.k ∧ Cls W.K (W.ca C) ∧ Meth W.K (W.ca C) m f ∧ FnG P w W.K mg base j f fd ps (spOf W (n + 1) F) ∧ Binds W.K fd ps [] ∧ PySem.W.fnIn W.K f = true
  prop : ∀ C m F, G.prop C m = some F → ∃ p f fd ps j, j + 1 ≤ G.k ∧ Cls W.K (W.ca C) ∧ PropOf W.K (W.ca C) m p f ∧ FnG P w W.K mg base j f fd ps (spOf W 1 F) ∧ Binds W.K fd ps []
  ne : ∀ C, G.ne C = true → PySem.W.findIn W.K (.ref (W.ca C)) "__ne__" = some (some (.builtin "object.__ne__")) ∧ PySem.W.mroIn W.K (W.ca C) (.type "object") = some true
  cmeth : ∀ C m n F, G.cmeth C m = some (n, F) → ∃ mc p f fd ps, ClX.CRead W.K (W.ca C) mc ∧ ClX.CMet W.K (W.ca C) mc m p f ∧ FnG P w W.K mg base G.k f fd ps (spOf W (n + 1) F) ∧ Binds W.K fd ps []
  cls : ∀ C, G.cls C = true → Cls W.K (W.ca C) ∧ ClsIs W.K (W.ca C) ∧ ∀ t ∈ ["NoneType", "bool", "int", "str", "tuple", "list", "dict"], PySem.W.kitOne W.K (.type t) (.ref (W.ca C)) = some false
  sub : ∀ C B b, G.sub C B = some b → PySem.W.kitOne W.K (.ref (W.ca C)) (.ref (W.ca B)) = some b
/-- what the module's facts must say -/
structure GOk (P : Program) (w : World) (mg : Str → Option Value) (base : Heap) (W : Wd) (G : Ctx) : Prop where
  glob : ∀ x d, G.glob x = some d → ∃ u v, mg x = some u ∧ RelV v u ∧ ∀ m, Den W m d v
  bl : ∀ x, G.isB x = true → mg x = none
  fn : ∀ x n F, G.fn x = some (n, F) → ∃ f fd ps, FnG P w W.K mg base G.k f fd ps (spOf W n F) ∧ mg x = some (.ref f) ∧ PySem.W.keepIn W.K (.ref f) = true ∧ Binds W.K fd ps []
  xc : ∀ x, G.xc x = true → mg x = some (.ref (W.ca x)) ∧ PySem.W.keepIn W.K (.ref (W.ca x)) = true ∧ PySem.W.excIn W.K (W.ca x) [.type "ValueError", .type "Exception", .type "BaseException", .type "object"] "ValueError.__new__" = true ∧
    PySem.W.subIn W.K (.ref (W.ca x)) (.type "BaseException") = some true ∧ PySem.W.typeIn W.K (.ref (W.ca x)) = some (.type "type")
  cat : ∀ c x b, G.cat c x = some b → mg c = some (.ref (W.ca c)) ∧ PySem.W.exmOne W.K (.ref (W.ca x)) (.ref (W.ca c)) = some b
  ob : ObOk P w mg base W G
/-- an expression's context -/
structure EOk (W : Wd) (X : Cx) (Z : WX) (G : Ctx) : Prop where
  K : X.K = W.K
  N : X.N = G.N
  nd : X.N.Nodup
  sc : X.env.scope = G.sc
  own : X.fn = G.own
  tk : Takes X Z
  calm : G.hot = false → X.calm = true
  room : G.hot = false → Room G.k X.A
  un : X.A.units + 64 < cLine
  gd : X.A.guards = some []
  g : GOk X.prog X.w X.mg X.base W G
/-- a statement's context -/
structure SOk (W : Wd) (X : Cx) (Z : WX) (G : Ctx) : Prop where
  e : EOk W X Z G
  pass : PassesOwn (model X.prog X.w) X.A X.env X.xe
  stk : X.stack = X.env :: X.outer
  frm : X.env.frame = some X.env.locals
  kind : G.sc.kind = .function
end Pu

set_option Elab.async false
set_option linter.all false
set_option maxRecDepth 100000
/-! Pu3: plain operations on data, each with the rule that the model keeps it. -/
namespace Pu
open PySem L2

/-! ### what a thing holds -/
def asL (μ : Sto) : D → Option (List D)
  | .lst ds => some ds
  | .cell i => match μ[i]? with
    | some (.lst ds) => some ds
    | _ => none
  | _ => none
def asQ (μ : Sto) : D → Option (List D)
  | .frz ds => some ds
  | d => asL μ d
def asS (μ : Sto) : D → Option (List D)
  | .tup ds => some ds
  | d => asQ μ d
section
variable {W : Wd} {m : Mem} {d : D} {v : V} {ds : List D}
theorem asL_den (g : Okm W m) (h : Den W m d v) (e : asL m.μ d = some ds) : ∃ a vs, v = .ref a ∧ m.H a = some (.lst vs) ∧ DenL W m ds vs := by
  cases h with
  | lst h1 h2 h3 => simp [asL] at e; subst e; exact ⟨_, _, rfl, h1, h3⟩
  | @cell i a h1 =>
    simp only [asL] at e
    cases q : m.μ[i]? with
    | none => rw [q] at e; cases e
    | some o =>
      rw [q] at e
      cases o with
      | lst xs =>
        simp at e; subst e
        obtain ⟨vs, h2, h3⟩ := g.ok i _ a q h1
        exact ⟨a, vs, rfl, h2, h3⟩
      | _ => cases e
  | _ => simp [asL] at e
theorem asQ_den (g : Okm W m) (h : Den W m d v) (e : asQ m.μ d = some ds) : ∃ a vs, v = .ref a ∧ SqL W.K m.H a vs ∧ DenL W m ds vs := by
  cases d with
  | frz xs =>
    simp [asQ] at e; subst e
    cases h with
    | frz h1 h2 => exact ⟨_, _, rfl, h1.sq, h2⟩
  | _ =>
    obtain ⟨a, vs, h1, h2, h3⟩ := asL_den g h (by simpa only [asQ] using e)
    exact ⟨a, vs, h1, .inl (.inl h2), h3⟩
theorem asS_den (g : Okm W m) (h : Den W m d v) (e : asS m.μ d = some ds) : ∃ a vs, v = .ref a ∧ (SqL W.K m.H a vs ∨ SqT W.K m.H a vs) ∧ DenL W m ds vs := by
  cases d with
  | tup xs =>
    simp [asS] at e; subst e
    cases h with
    | tup h1 h2 => exact ⟨_, _, rfl, .inr h1.sq, h2⟩
  | _ =>
    obtain ⟨a, vs, h1, h2, h3⟩ := asQ_den g h (by simpa only [asS] using e)
    exact ⟨a, vs, h1, .inl h2, h3⟩
end

/-! ### readings by values -/
def out (W : Wd) (m : Mem) (E : Ex → Mem → Prop) (Q : VK) (r : R D) : Prop := wpR W m E (fun d m' => ∀ v, Den W m' d v → Q v m'.H) r
def R1of (W : Wd) (p : D → M D) : V → Hp → VK → Prop := fun x H Q => ∃ E a m, m.H = H ∧ Okm W m ∧ Den W m a x ∧ out W m E Q (p a m.μ)
def R2of (W : Wd) (p : D → D → M D) : R2 := fun x y H Q => ∃ E a b m, m.H = H ∧ Okm W m ∧ Den W m a x ∧ Den W m b y ∧ out W m E Q (p a b m.μ)
def RCof (W : Wd) (p : List D → M D) : List V → Hp → VK → Prop := fun xs H Q => ∃ E ds m, m.H = H ∧ Okm W m ∧ DenL W m ds xs ∧ out W m E Q (p ds m.μ)
def RMof (W : Wd) (p : D → List D → M D) : V → List V → Hp → VK → Prop := fun x xs H Q => ∃ E d ds m, m.H = H ∧ Okm W m ∧ Den W m d x ∧ DenL W m ds xs ∧ out W m E Q (p d ds m.μ)
def RSof (W : Wd) (p : D → Option Int → Option Int → M D) : V → Option Int → Option Int → Hp → VK → Prop := fun x lo hi H Q => ∃ E a m, m.H = H ∧ Okm W m ∧ Den W m a x ∧ out W m E Q (p a lo hi m.μ)
section
variable {W : Wd} {m : Mem} {E : Ex → Mem → Prop} {Q : VK} {d : D} {v : V} {ds : List D} {vs : List V} {p : Addr}
theorem out.same (h : out W m E Q (.ok d m.μ)) (g : Okm W m) (r : Den W m d v) : Q v m.H := h m (Step.refl m) g rfl v r
theorem out.tup (h : out W m E Q (.ok (.tup ds) m.μ)) (g : Okm W m) (l : DenL W m ds vs) (hp : m.H p = none) : Q (.ref p) (upd m.H p (.tup vs)) := h (m.put p _) (step_put g hp) (good_put g hp) rfl _ (den_tup g hp l)
theorem out.lst (h : out W m E Q (.ok (.lst ds) m.μ)) (g : Okm W m) (l : DenL W m ds vs) (hp : m.H p = none) : Q (.ref p) (upd m.H p (.lst vs)) := h (m.put p _) (step_put g hp) (good_put g hp) rfl _ (den_lst g hp l)
theorem out.dic {ks : List (Key × D)} {kv : List (Key × V)} (h : out W m E Q (.ok (.dic ks) m.μ)) (g : Okm W m) (l : DenK W m ks kv) (hp : m.H p = none) (ob : Obj) : Q (.ref p) (upd m.H p (.frz ob (.dK kv))) := h (m.put p _) (step_put g hp) (good_put g hp) rfl _ (den_dic g hp l)
/-- a new cell that is a list -/
theorem out.cel (h : out W m E Q (.ok (.cell m.μ.length) (m.μ ++ [.lst ds]))) (g : Okm W m) (l : DenL W m ds vs) (hp : m.H p = none) : Q (.ref p) (upd m.H p (.lst vs)) := by
  have st : Step m (m.grow p (.lst vs) (.lst ds)) := step_grow g hp
  refine h (m.grow p (.lst vs) (.lst ds)) st (good_grow g hp ⟨vs, upd_same, l.mono st⟩) rfl _ ?_
  rw [← g.len]
  exact den_grow
end

/-! ### + - * // % ** of two -/
def addD (a b : D) : M D := fun μ => match a, b with
  | .int i, .int j => .ok (.int (i + j)) μ
  | .str x, .str y => if x.length + y.length ≤ sizeLine then .ok (.str (x ++ y)) μ else .stuck
  | .tup xs, .tup ys => if xs.length + ys.length ≤ sizeLine then .ok (.tup (xs ++ ys)) μ else .stuck
  | _, _ => match asL μ a, asL μ b with
    | some xs, some ys => if xs.length + ys.length ≤ sizeLine then .ok (.lst (xs ++ ys)) μ else .stuck
    | _, _ => .stuck
def subD (a b : D) : M D := fun μ => match a, b with
  | .int i, .int j => .ok (.int (i - j)) μ
  | _, _ => .stuck
def mulD (a b : D) : M D := fun μ => match a, b with
  | .int i, .int j => if i.natAbs.log2 + j.natAbs.log2 < 1000000 then .ok (.int (i * j)) μ else .stuck
  | _, .int k => match asL μ a with
    | some xs => if k < 2 ^ 63 ∧ -(2 ^ 63) ≤ k ∧ xs.length * k.toNat ≤ sizeLine then .ok (.lst (List.replicate k.toNat xs).flatten) μ else .stuck
    | none => .stuck
  | _, _ => .stuck
def fdivD (a b : D) : M D := fun μ => match a, b with
  | .int i, .int j => if 0 < j ∧ j.natAbs.log2 < 9000 then .ok (.int (i / j)) μ else .stuck
  | _, _ => .stuck
def modD (a b : D) : M D := fun μ => match a, b with
  | .int i, .int j => if 0 < j then .ok (.int (i % j)) μ else .stuck
  | _, _ => .stuck
def powD (a b : D) : M D := fun μ => match a, b with
  | .int i, .int j => if 0 ≤ j ∧ (Builtin.Int.intBits i : Int) * j ≤ 2 ^ 27 then .ok (.int (i ^ j.toNat)) μ else .stuck
  | _, _ => .stuck
def binD : Operator → D → D → M D
  | .Add => addD
  | .Sub => subD
  | .Mult => mulD
  | .FloorDiv => fdivD
  | .Mod => modD
  | .Pow => powD
  | _ => fun _ _ => stuck
section
variable {W : Wd} {X : Cx}
theorem DenL.flat {m : Mem} {xs : List D} {vs : List V} (l : DenL W m xs vs) : ∀ n, DenL W m (List.replicate n xs).flatten (List.replicate n vs).flatten
  | 0 => .nil
  | n + 1 => by
    rw [List.replicate_succ, List.replicate_succ, List.flatten_cons, List.flatten_cons]
    exact l.append (DenL.flat l n)
theorem op_addD (hK : X.K = W.K) : OpR X (binaryOp .Add) (R2of W addD) := by
  intro pins s σ H x y v u Q I rx ry h
  obtain ⟨E, a, b, m, rfl, g, ha, hb, q⟩ := h
  have lists : ∀ xs ys, asL m.μ a = some xs → asL m.μ b = some ys → (if xs.length + ys.length ≤ sizeLine then out W m E Q (.ok (.lst (xs ++ ys)) m.μ) else False) → wpAny (model X.prog X.w) X.A (binaryOp .Add v u) (EP X pins σ Q) X.xe s := by
    intro xs ys e1 e2 q
    obtain ⟨a1, vs, rfl, h1, l1⟩ := asL_den g ha e1
    obtain ⟨b1, ws, rfl, h2, l2⟩ := asL_den g hb e2
    split at q
    · rename_i hz
      exact op_cat pins s σ m.H _ _ v u Q I rx ry ⟨a1, b1, vs, ws, rfl, rfl, h1, h2, by rw [← l1.length, ← l2.length]; exact hz, fun p hp => q.lst g (l1.append l2) hp⟩
    · exact q.elim
  have gen : ∀ (q : out W m E Q (match asL m.μ a, asL m.μ b with
      | some xs, some ys => if xs.length + ys.length ≤ sizeLine then .ok (.lst (xs ++ ys)) m.μ else .stuck
      | _, _ => .stuck)), wpAny (model X.prog X.w) X.A (binaryOp .Add v u) (EP X pins σ Q) X.xe s := by
    intro q
    cases e1 : asL m.μ a with
    | none => rw [e1] at q; exact (show False from q).elim
    | some xs =>
      cases e2 : asL m.μ b with
      | none => rw [e1, e2] at q; exact (show False from q).elim
      | some ys =>
        rw [e1, e2] at q
        refine lists xs ys e1 e2 ?_
        have q' : out W m E Q (if xs.length + ys.length ≤ sizeLine then .ok (.lst (xs ++ ys)) m.μ else .stuck) := q
        split at q'
        · rename_i hz; rw [if_pos hz]; exact q'
        · exact (show False from q').elim
  cases ha with
  | int i =>
    cases hb with
    | int j => exact op_add pins s σ m.H _ _ v u Q I rx ry ⟨i, j, rfl, rfl, out.same (d := .int (i + j)) q g (.int _)⟩
    | _ => exact gen q
  | str i =>
    cases hb with
    | str j =>
      have q' : out W m E Q (if i.length + j.length ≤ sizeLine then .ok (.str (i ++ j)) m.μ else .stuck) := q
      split at q'
      · rename_i hz
        exact op_add_str pins s σ m.H _ _ v u Q I rx ry ⟨i, j, rfl, rfl, hz, q'.same g (.str _)⟩
      · exact (show False from q').elim
    | _ => exact gen q
  | @tup xs a1 vs h1 l1 =>
    cases hb with
    | @tup ys b1 ws h2 l2 =>
      have q' : out W m E Q (if xs.length + ys.length ≤ sizeLine then .ok (.tup (xs ++ ys)) m.μ else .stuck) := q
      split at q'
      · rename_i hz
        refine op_catA pins s σ m.H _ _ v u Q I rx ry ⟨a1, b1, vs, ws, rfl, rfl, by rw [hK]; exact h1.sq, by rw [hK]; exact h2.sq, by rw [← l1.length, ← l2.length]; exact hz, fun e => ?_, fun _ e => ?_, fun _ _ p hp => ?_⟩
        · subst e
          cases l1
          exact q'.same g (.tup h2 (by simpa using l2))
        · subst e
          cases l2
          exact q'.same g (.tup h1 (by simpa using l1))
        · exact q'.tup g (l1.append l2) hp
      · exact (show False from q').elim
    | _ => exact gen q
  | _ => exact gen (by cases hb <;> exact q)
theorem op_subD : OpR X (binaryOp .Sub) (R2of W subD) := by
  intro pins s σ H x y v u Q I rx ry h
  obtain ⟨E, a, b, m, rfl, g, ha, hb, q⟩ := h
  cases ha with
  | int i =>
    cases hb with
    | int j => exact op_sub pins s σ m.H _ _ v u Q I rx ry ⟨i, j, rfl, rfl, out.same (d := .int (i - j)) q g (.int _)⟩
    | _ => exact (show False from q).elim
  | _ => exact (show False from q).elim
theorem op_mulD : OpR X (binaryOp .Mult) (R2of W mulD) := by
  intro pins s σ H x y v u Q I rx ry h
  obtain ⟨E, a, b, m, rfl, g, ha, hb, q⟩ := h
  have gen : ∀ k, y = .int k → out W m E Q (match asL m.μ a with
      | some xs => if k < 2 ^ 63 ∧ -(2 ^ 63) ≤ k ∧ xs.length * k.toNat ≤ sizeLine then .ok (.lst (List.replicate k.toNat xs).flatten) m.μ else .stuck
      | none => .stuck) → wpAny (model X.prog X.w) X.A (binaryOp .Mult v u) (EP X pins σ Q) X.xe s := by
    intro k ey q
    cases e1 : asL m.μ a with
    | none => rw [e1] at q; exact (show False from q).elim
    | some xs =>
      rw [e1] at q
      have q' : out W m E Q (if k < 2 ^ 63 ∧ -(2 ^ 63) ≤ k ∧ xs.length * k.toNat ≤ sizeLine then .ok (.lst (List.replicate k.toNat xs).flatten) m.μ else .stuck) := q
      split at q'
      · rename_i hz
        obtain ⟨a1, vs, rfl, h1, l1⟩ := asL_den g ha e1
        exact op_rep pins s σ m.H _ _ v u Q I rx ry ⟨a1, k, vs, rfl, ey, h1, hz.2.1, hz.1, by rw [← l1.length]; exact hz.2.2, fun p hp => q'.lst g (l1.flat _) hp⟩
      · exact (show False from q').elim
  cases hb with
  | int j =>
    cases ha with
    | int i =>
      have q' : out W m E Q (if i.natAbs.log2 + j.natAbs.log2 < 1000000 then .ok (.int (i * j)) m.μ else .stuck) := q
      split at q'
      · rename_i hz
        exact op_mulW pins s σ m.H _ _ v u Q I rx ry ⟨i, j, rfl, rfl, hz, q'.same g (.int _)⟩
      · exact (show False from q').elim
    | _ => exact gen j rfl q
  | _ => exact (show False from by cases ha <;> exact q).elim
theorem op_fdivD : OpR X (binaryOp .FloorDiv) (R2of W fdivD) := by
  intro pins s σ H x y v u Q I rx ry h
  obtain ⟨E, a, b, m, rfl, g, ha, hb, q⟩ := h
  cases ha with
  | int i =>
    cases hb with
    | int j =>
      have q' : out W m E Q (if 0 < j ∧ j.natAbs.log2 < 9000 then .ok (.int (i / j)) m.μ else .stuck) := q
      split at q'
      · rename_i hz
        exact op_fdivW pins s σ m.H _ _ v u Q I rx ry ⟨i, j, rfl, rfl, hz, q'.same g (.int _)⟩
      · exact (show False from q').elim
    | _ => exact (show False from q).elim
  | _ => exact (show False from q).elim
theorem op_modD : OpR X (binaryOp .Mod) (R2of W modD) := by
  intro pins s σ H x y v u Q I rx ry h
  obtain ⟨E, a, b, m, rfl, g, ha, hb, q⟩ := h
  cases ha with
  | int i =>
    cases hb with
    | int j =>
      have q' : out W m E Q (if 0 < j then .ok (.int (i % j)) m.μ else .stuck) := q
      split at q'
      · rename_i hz
        exact op_mod pins s σ m.H _ _ v u Q I rx ry ⟨i, j, rfl, rfl, hz, q'.same g (.int _)⟩
      · exact (show False from q').elim
    | _ => exact (show False from q).elim
  | _ => exact (show False from q).elim
theorem op_powD : OpR X (binaryOp .Pow) (R2of W powD) := by
  intro pins s σ H x y v u Q I rx ry h
  obtain ⟨E, a, b, m, rfl, g, ha, hb, q⟩ := h
  cases ha with
  | int i =>
    cases hb with
    | int j =>
      have q' : out W m E Q (if 0 ≤ j ∧ (Builtin.Int.intBits i : Int) * j ≤ 2 ^ 27 then .ok (.int (i ^ j.toNat)) m.μ else .stuck) := q
      split at q'
      · rename_i hz
        obtain ⟨t, rfl⟩ := rx
        obtain ⟨t', rfl⟩ := ry
        exact PyProof.Rows.pow_int hz.1 hz.2 ⟨.int _, m.H, I.tok _, ⟨_, rfl⟩, q'.same g (.int _)⟩
      · exact (show False from q').elim
    | _ => exact (show False from q).elim
  | _ => exact (show False from q).elim
theorem op_binD (hK : X.K = W.K) : ∀ op, OpR X (binaryOp op) (R2of W (binD op))
  | .Add => op_addD hK
  | .Sub => op_subD
  | .Mult => op_mulD
  | .FloorDiv => op_fdivD
  | .Mod => op_modD
  | .Pow => op_powD
  | .MatMult | .Div | .LShift | .RShift | .BitOr | .BitXor | .BitAnd => fun _ _ _ _ _ _ _ _ _ _ _ _ ⟨_, _, _, _, _, _, _, _, q⟩ => (show False from q).elim
/-! ### -x -/
def negD (a : D) : M D := fun μ => match a with
  | .int i => .ok (.int (-i)) μ
  | _ => .stuck
theorem un_negD : UnR X (unaryOp .USub) (R1of W negD) := by
  intro pins s σ H x v Q I rx h
  obtain ⟨E, a, m, rfl, g, ha, q⟩ := h
  cases ha with
  | int i => exact un_neg pins s σ m.H _ v Q I rx ⟨i, rfl, out.same (d := .int (-i)) q g (.int _)⟩
  | _ => exact (show False from q).elim
/-! ### truth -/
def truthD (a : D) : M Bool := fun μ => match a with
  | .non => .ok false μ
  | .bl b => .ok b μ
  | .int i => .ok (i != 0) μ
  | .str x => if x.length ≤ sizeLine then .ok ((x.length : Int) != 0) μ else .stuck
  | _ => match asS μ a with
    | some xs => .ok (!xs.isEmpty) μ
    | none => .stuck
theorem DenL.empty {m : Mem} {xs : List D} {vs : List V} (l : DenL W m xs vs) : xs.isEmpty = vs.isEmpty := by cases l <;> rfl
theorem DenK.empty {m : Mem} {xs : List (Key × D)} {vs : List (Key × V)} (l : DenK W m xs vs) : xs.isEmpty = vs.isEmpty := by cases l <;> rfl
theorem truth_den {m : Mem} {a : D} {x : V} {k : Bool} {μ' : Sto} (g : Okm W m) (ha : Den W m a x) (q : truthD a m.μ = .ok k μ') : μ' = m.μ ∧ TruV W.K x m.H k := by
  have gen : (match asS m.μ a with
    | some xs => R.ok (!xs.isEmpty) m.μ
    | none => .stuck) = .ok k μ' → μ' = m.μ ∧ TruV W.K x m.H k := by
    intro q
    cases e : asS m.μ a with
    | none => rw [e] at q; cases q
    | some xs =>
      rw [e] at q
      obtain ⟨p, vs, rfl, h1, l⟩ := asS_den g ha e
      cases q
      refine ⟨rfl, ?_⟩
      rcases h1 with h1 | h1
      · exact .inl ⟨vs, h1, by rw [l.empty]⟩
      · exact .inr (.inl ⟨vs, h1, by rw [l.empty]⟩)
  cases ha with
  | non => cases q; exact ⟨rfl, rfl⟩
  | bl b => cases q; exact ⟨rfl, rfl⟩
  | int i => cases q; exact ⟨rfl, rfl⟩
  | str z =>
    have q' : (if z.length ≤ sizeLine then R.ok ((z.length : Int) != 0) m.μ else .stuck) = .ok k μ' := q
    split at q'
    · rename_i hz; cases q'; exact ⟨rfl, hz, rfl⟩
    · cases q'
  | dic h1 h2 l => exact gen q
  | tup h l => exact gen q
  | lst h n l => exact gen q
  | frz h l => exact gen q
  | cell h => exact gen q
  | ty n => exact gen q
  | adr n => exact gen q
  | obj h n l => exact gen q
/-! ### comparisons -/
mutual
def toPy : D → Option PyData
  | .non => some .none
  | .bl b => some (.bool b)
  | .int i => some (.int i)
  | .str x => some (.str x)
  | .tup xs => (toPyL xs).map .tuple
  | .lst xs => (toPyL xs).map .list
  | .frz xs => (toPyL xs).map .list
  | _ => none
def toPyL : List D → Option (List PyData)
  | [] => some []
  | d :: ds => match toPy d, toPyL ds with
    | some p, some ps => some (p :: ps)
    | _, _ => none
end
mutual
theorem toPy_dp {m : Mem} : ∀ {d : D} {v : V} {p : PyData}, Den W m d v → toPy d = some p → Dp W.K m.H v p
  | _, _, _, .non, e => by simp [toPy] at e; subst e; exact .non
  | _, _, _, .bl b, e => by simp [toPy] at e; subst e; exact .bl b
  | _, _, _, .int b, e => by simp [toPy] at e; subst e; exact .int b
  | _, _, _, .str b, e => by simp [toPy] at e; subst e; exact .str b
  | _, _, _, .ty b, e => by simp [toPy] at e
  | _, _, _, .adr b, e => by simp [toPy] at e
  | _, _, _, .cell _, e => by simp [toPy] at e
  | _, _, _, .dic _ _ _, e => by simp [toPy] at e
  | _, _, _, .obj _ _ _, e => by simp [toPy] at e
  | .tup xs, _, _, .tup h l, e => by
    cases q : toPyL xs with
    | none => simp [toPy, q] at e
    | some ps => simp [toPy, q] at e; subst e; exact .tup h.sq (toPyL_dp l q)
  | .lst xs, _, _, .lst h n l, e => by
    cases q : toPyL xs with
    | none => simp [toPy, q] at e
    | some ps => simp [toPy, q] at e; subst e; exact .lst (.inl (.inl h)) (toPyL_dp l q)
  | .frz xs, _, _, .frz h l, e => by
    cases q : toPyL xs with
    | none => simp [toPy, q] at e
    | some ps => simp [toPy, q] at e; subst e; exact .lst h.sq (toPyL_dp l q)
theorem toPyL_dp {m : Mem} : ∀ {ds : List D} {vs : List V} {ps : List PyData}, DenL W m ds vs → toPyL ds = some ps → DpAll W.K m.H vs ps
  | _, _, _, .nil, e => by simp [toPyL] at e; subst e; exact .nil
  | d :: ds, _, _, .cons h t, e => by
    cases q : toPy d with
    | none => simp [toPyL, q] at e
    | some p =>
      cases q2 : toPyL ds with
      | none => simp [toPyL, q, q2] at e
      | some ps => simp [toPyL, q, q2] at e; subst e; exact .cons (toPy_dp h q) (toPyL_dp t q2)
end
/-- a top thing that may be a cell -/
def toPyT (μ : Sto) (d : D) : Option PyData := match asL μ d with
  | some xs => (toPyL xs).map .list
  | none => toPy d
theorem toPyT_dp {m : Mem} {d : D} {v : V} {p : PyData} (g : Okm W m) (h : Den W m d v) (e : toPyT m.μ d = some p) : Dp W.K m.H v p := by
  unfold toPyT at e
  cases q : asL m.μ d with
  | none => rw [q] at e; exact toPy_dp h e
  | some xs =>
    rw [q] at e
    obtain ⟨a, vs, rfl, h1, l⟩ := asL_den g h q
    cases q2 : toPyL xs with
    | none => simp [q2] at e
    | some ps => simp [q2] at e; subst e; exact .lst (.inl (.inl h1)) (toPyL_dp l q2)
def eqB (μ : Sto) (a b : D) : Option Bool := match a, b with
  | .non, .non => some true
  | .int i, .int j => some (decide (i = j))
  | .bl i, .bl j => some (decide (i = j))
  | .str i, .str j => some (decide (i = j))
  | _, _ => match toPyT μ a, toPyT μ b with
    | some p, some q => if SeqAt.shaped p = true ∧ SeqAt.shaped q = true then some (PyData.eqv p q) else none
    | _, _ => none
def eqD (neg : Bool) (a b : D) : M D := fun μ => match eqB μ a b with
  | some k => .ok (.bl (if neg then !k else k)) μ
  | none => .stuck
theorem eqB_op {pins : List (Addr × Obj)} {s : Shared} {σ : St} {m : Mem} {a b : D} {x y : V} {v u : Value} {Q : VK} {k : Bool} (hK : X.K = W.K) (hu : X.A.units + 64 < cLine) (I : Inv X pins σ m.H s) (g : Okm W m) (ha : Den W m a x) (hb : Den W m b y)
    (rx : RelV x v) (ry : RelV y u) (e : eqB m.μ a b = some k) (neg : Bool) (q : Q (.bl (if neg then !k else k)) m.H) : wpAny (model X.prog X.w) X.A (compareOp (if neg then .NotEq else .Eq) v u) (EP X pins σ Q) X.xe s := by
  have scalar : scal x y = true → k = decide (x = y) → wpAny (model X.prog X.w) X.A (compareOp (if neg then .NotEq else .Eq) v u) (EP X pins σ Q) X.xe s := by
    intro h1 h2
    subst h2
    cases neg with
    | false => exact op_eq pins s σ m.H _ _ v u Q I rx ry ⟨h1, q⟩
    | true => exact op_ne pins s σ m.H _ _ v u Q I rx ry ⟨h1, q⟩
  have gen : (match toPyT m.μ a, toPyT m.μ b with
    | some p, some q => if SeqAt.shaped p = true ∧ SeqAt.shaped q = true then some (PyData.eqv p q) else none
    | _, _ => none) = some k → wpAny (model X.prog X.w) X.A (compareOp (if neg then .NotEq else .Eq) v u) (EP X pins σ Q) X.xe s := by
    intro e
    cases e1 : toPyT m.μ a with
    | none => rw [e1] at e; cases e
    | some p1 =>
      cases e2 : toPyT m.μ b with
      | none => rw [e1, e2] at e; cases e
      | some p2 =>
        rw [e1, e2] at e
        have e' : (if SeqAt.shaped p1 = true ∧ SeqAt.shaped p2 = true then some (PyData.eqv p1 p2) else none) = some k := e
        split at e'
        · rename_i hz
          cases e'
          have d1 := toPyT_dp g ha e1
          have d2 := toPyT_dp g hb e2
          rw [← hK] at d1 d2
          cases neg with
          | false => exact op_eqD hu pins s σ m.H _ _ v u Q I rx ry ⟨p1, p2, d1, d2, hz.1, hz.2, q⟩
          | true => exact op_neD hu pins s σ m.H _ _ v u Q I rx ry ⟨p1, p2, d1, d2, hz.1, hz.2, q⟩
        · cases e'
  cases ha with
  | non => cases hb with
    | non => cases e; exact scalar rfl rfl
    | _ => exact gen e
  | bl i => cases hb with
    | bl j => cases e; exact scalar rfl (by simp)
    | _ => exact gen e
  | int i => cases hb with
    | int j => cases e; exact scalar rfl (by simp)
    | _ => exact gen e
  | str i => cases hb with
    | str j => cases e; exact scalar rfl (by simp)
    | _ => exact gen e
  | _ => exact gen (by cases hb <;> exact e)
def ltD (a b : D) : M D := fun μ => match a, b with
  | .int i, .int j => .ok (.bl (decide (i < j))) μ
  | .str i, .str j => .ok (.bl (decide (i.cps.toList < j.cps.toList))) μ
  | _, _ => .stuck
def leD (a b : D) : M D := fun μ => match a, b with
  | .int i, .int j => .ok (.bl (decide (i ≤ j))) μ
  | .str i, .str j => .ok (.bl (!decide (j.cps.toList < i.cps.toList))) μ
  | _, _ => .stuck
def gtD (a b : D) : M D := fun μ => match a, b with
  | .int i, .int j => .ok (.bl (decide (j < i))) μ
  | _, _ => .stuck
def geD (a b : D) : M D := fun μ => match a, b with
  | .int i, .int j => .ok (.bl (decide (j ≤ i))) μ
  | _, _ => .stuck
def inSign (neg : Bool) (c : Str) (z : Str) : Option Bool := match c.cps.toList with
  | [n] => some (if neg then !decide (n ∈ z.cps.toList) else decide (n ∈ z.cps.toList))
  | _ => none
def flatD : D → Bool
  | .non => true | .bl _ => true | .int _ => true | .str _ => true | _ => false
def flatOf : D → V
  | .non => .non | .bl b => .bl b | .int i => .int i | .str x => .str x | _ => .non
def inD (neg : Bool) (a b : D) : M D := fun μ => match a, b with
  | .str c, .str z => match inSign neg c z with
    | some k => .ok (.bl k) μ
    | none => .stuck
  | _, _ => match asS μ b with
    | some xs => if flatD a = true ∧ xs.all flatD = true then .ok (.bl (if neg then !inV (flatOf a) (xs.map flatOf) else inV (flatOf a) (xs.map flatOf))) μ else .stuck
    | none => .stuck
end
end Pu

set_option Elab.async false
set_option linter.all false
set_option maxRecDepth 100000
/-! Pu4: comparisons, built-in functions, items, slices, methods. -/
namespace Pu
open PySem L2
section
variable {W : Wd} {X : Cx}
theorem op_eqN (hK : X.K = W.K) (hu : X.A.units + 64 < cLine) : OpR X (compareOp .Eq) (R2of W (eqD false)) := by
  intro pins s σ H x y v u Q I rx ry h
  obtain ⟨E, a, b, m, rfl, g, ha, hb, q⟩ := h
  cases e : eqB m.μ a b with
  | none => unfold eqD at q; rw [e] at q; exact (show False from q).elim
  | some k => unfold eqD at q; rw [e] at q; exact eqB_op hK hu I g ha hb rx ry e false (out.same q g (.bl _))
theorem op_neN (hK : X.K = W.K) (hu : X.A.units + 64 < cLine) : OpR X (compareOp .NotEq) (R2of W (eqD true)) := by
  intro pins s σ H x y v u Q I rx ry h
  obtain ⟨E, a, b, m, rfl, g, ha, hb, q⟩ := h
  cases e : eqB m.μ a b with
  | none => unfold eqD at q; rw [e] at q; exact (show False from q).elim
  | some k => unfold eqD at q; rw [e] at q; exact eqB_op hK hu I g ha hb rx ry e true (out.same q g (.bl _))
theorem op_ltD : OpR X (compareOp .Lt) (R2of W ltD) := by
  intro pins s σ H x y v u Q I rx ry h
  obtain ⟨E, a, b, m, rfl, g, ha, hb, q⟩ := h
  cases ha with
  | int i =>
    cases hb with
    | int j => exact op_lt pins s σ m.H _ _ v u Q I rx ry ⟨i, j, rfl, rfl, out.same (d := .bl (decide (i < j))) q g (.bl _)⟩
    | _ => exact (show False from q).elim
  | str i =>
    cases hb with
    | str j => exact op_lt_str pins s σ m.H _ _ v u Q I rx ry ⟨i, j, rfl, rfl, out.same (d := .bl (decide (i.cps.toList < j.cps.toList))) q g (.bl _)⟩
    | _ => exact (show False from q).elim
  | _ => exact (show False from q).elim
theorem op_leD : OpR X (compareOp .LtE) (R2of W leD) := by
  intro pins s σ H x y v u Q I rx ry h
  obtain ⟨E, a, b, m, rfl, g, ha, hb, q⟩ := h
  cases ha with
  | int i =>
    cases hb with
    | int j => exact op_le pins s σ m.H _ _ v u Q I rx ry ⟨i, j, rfl, rfl, out.same (d := .bl (decide (i ≤ j))) q g (.bl _)⟩
    | _ => exact (show False from q).elim
  | str i =>
    cases hb with
    | str j => exact op_le_str pins s σ m.H _ _ v u Q I rx ry ⟨i, j, rfl, rfl, out.same (d := .bl (!decide (j.cps.toList < i.cps.toList))) q g (.bl _)⟩
    | _ => exact (show False from q).elim
  | _ => exact (show False from q).elim
theorem op_gtD : OpR X (compareOp .Gt) (R2of W gtD) := by
  intro pins s σ H x y v u Q I rx ry h
  obtain ⟨E, a, b, m, rfl, g, ha, hb, q⟩ := h
  cases ha with
  | int i =>
    cases hb with
    | int j => exact op_gt pins s σ m.H _ _ v u Q I rx ry ⟨i, j, rfl, rfl, out.same (d := .bl (decide (j < i))) q g (.bl _)⟩
    | _ => exact (show False from q).elim
  | _ => exact (show False from q).elim
theorem op_geD : OpR X (compareOp .GtE) (R2of W geD) := by
  intro pins s σ H x y v u Q I rx ry h
  obtain ⟨E, a, b, m, rfl, g, ha, hb, q⟩ := h
  cases ha with
  | int i =>
    cases hb with
    | int j => exact op_ge pins s σ m.H _ _ v u Q I rx ry ⟨i, j, rfl, rfl, out.same (d := .bl (decide (j ≤ i))) q g (.bl _)⟩
    | _ => exact (show False from q).elim
  | _ => exact (show False from q).elim
theorem flat_den {m : Mem} {d : D} {v : V} (h : Den W m d v) (f : flatD d = true) : v = flatOf d ∧ flatV v = true := by
  cases h with
  | non => exact ⟨rfl, rfl⟩
  | bl b => exact ⟨rfl, rfl⟩
  | int b => exact ⟨rfl, rfl⟩
  | str b => exact ⟨rfl, rfl⟩
  | _ => cases f
theorem flat_dens {m : Mem} : ∀ {ds : List D} {vs : List V}, DenL W m ds vs → ds.all flatD = true → vs = ds.map flatOf ∧ vs.all flatV = true
  | _, _, .nil, _ => ⟨rfl, rfl⟩
  | d :: ds, v :: vs, .cons h t, f => by
    rw [List.all_cons, Bool.and_eq_true] at f
    obtain ⟨h1, h2⟩ := flat_den h f.1
    obtain ⟨h3, h4⟩ := flat_dens t f.2
    exact ⟨by rw [List.map_cons, h1, h3], by rw [List.all_cons, h2, h4]; rfl⟩
theorem op_inN (hK : X.K = W.K) (neg : Bool) : OpR X (compareOp (if neg then .NotIn else .In)) (R2of W (inD neg)) := by
  intro pins s σ H x y v u Q I rx ry h
  obtain ⟨E, a, b, m, rfl, g, ha, hb, q⟩ := h
  have gen : out W m E Q (match asS m.μ b with
    | some xs => if flatD a = true ∧ xs.all flatD = true then .ok (.bl (if neg then !inV (flatOf a) (xs.map flatOf) else inV (flatOf a) (xs.map flatOf))) m.μ else .stuck
    | none => .stuck) → wpAny (model X.prog X.w) X.A (compareOp (if neg then .NotIn else .In) v u) (EP X pins σ Q) X.xe s := by
    intro q
    cases e : asS m.μ b with
    | none => rw [e] at q; exact (show False from q).elim
    | some xs =>
      rw [e] at q
      have q' : out W m E Q (if flatD a = true ∧ xs.all flatD = true then .ok (.bl (if neg then !inV (flatOf a) (xs.map flatOf) else inV (flatOf a) (xs.map flatOf))) m.μ else .stuck) := q
      split at q'
      · rename_i hz
        obtain ⟨p, vs, rfl, h1, l⟩ := asS_den g hb e
        obtain ⟨e1, f1⟩ := flat_den ha hz.1
        obtain ⟨e2, f2⟩ := flat_dens l hz.2
        rw [← e1, ← e2] at q'
        have q2 := out.same q' g (.bl _)
        cases neg with
        | false => exact op_in_seq pins s σ m.H _ _ v u Q I rx ry ⟨p, vs, rfl, by rw [hK]; exact h1, f1, f2, q2⟩
        | true => exact op_notIn_seq pins s σ m.H _ _ v u Q I rx ry ⟨p, vs, rfl, by rw [hK]; exact h1, f1, f2, q2⟩
      · exact (show False from q').elim
  cases ha with
  | str c =>
    cases hb with
    | str z =>
      have q' : out W m E Q (match inSign neg c z with
        | some k => .ok (.bl k) m.μ
        | none => .stuck) := q
      obtain ⟨⟨cl⟩⟩ := c
      match cl, q', rx with
      | [], q', _ => exact (show False from q').elim
      | [n], q', rx =>
        have q2 := out.same (d := .bl (if neg then !decide (n ∈ z.cps.toList) else decide (n ∈ z.cps.toList))) q' g (.bl _)
        cases neg with
        | false => exact op_in_sign pins s σ m.H _ _ v u Q I rx ry ⟨n, z, rfl, rfl, q2⟩
        | true => exact op_notIn_sign pins s σ m.H _ _ v u Q I rx ry ⟨n, z, rfl, rfl, q2⟩
      | _ :: _ :: _, q', _ => exact (show False from q').elim
    | _ => exact gen q
  | _ => exact gen (by cases hb <;> exact q)
def isND (neg : Bool) (a b : D) : M D := fun μ => match a, b with
  | .non, .non => .ok (.bl (!neg)) μ
  | .bl _, .non | .int _, .non | .str _, .non | .tup _, .non | .lst _, .non | .frz _, .non | .dic _, .non | .cell _, .non | .obj _ _, .non => .ok (.bl neg) μ
  | _, _ => .stuck
theorem op_isND (neg : Bool) : OpR X (compareOp (if neg then .IsNot else .Is)) (R2of W (isND neg)) := by
  intro pins s σ H x y v u Q I rx ry h
  obtain ⟨E, a, b, m, rfl, g, ha, hb, q⟩ := h
  have fin : ∀ k : Bool, k = decide (x = .non) → y = .non → out W m E Q (.ok (.bl (if neg then !k else k)) m.μ) → wpAny (model X.prog X.w) X.A (compareOp (if neg then .IsNot else .Is) v u) (EP X pins σ Q) X.xe s := by
    intro k h1 h2 q
    have q2 := out.same q g (.bl _)
    subst h1
    cases neg with
    | false => exact op_isN pins s σ m.H _ _ v u Q I rx ry ⟨h2, q2⟩
    | true => exact op_notN pins s σ m.H _ _ v u Q I rx ry ⟨h2, q2⟩
  cases hb with
  | non =>
    cases ha with
    | non => exact fin true (by simp) rfl (by cases neg <;> exact q)
    | bl _ => exact fin false (by simp) rfl (by cases neg <;> exact q)
    | int _ => exact fin false (by simp) rfl (by cases neg <;> exact q)
    | str _ => exact fin false (by simp) rfl (by cases neg <;> exact q)
    | tup _ _ => exact fin false (by simp) rfl (by cases neg <;> exact q)
    | lst _ _ _ => exact fin false (by simp) rfl (by cases neg <;> exact q)
    | frz _ _ => exact fin false (by simp) rfl (by cases neg <;> exact q)
    | dic _ _ _ => exact fin false (by simp) rfl (by cases neg <;> exact q)
    | cell _ => exact fin false (by simp) rfl (by cases neg <;> exact q)
    | obj _ _ _ => exact fin false (by simp) rfl (by cases neg <;> exact q)
    | _ => exact (show False from q).elim
  | _ => exact (show False from by cases ha <;> exact q).elim
def cmpD : CmpOp → D → D → M D
  | .Eq => eqD false
  | .NotEq => eqD true
  | .Lt => ltD
  | .LtE => leD
  | .Gt => gtD
  | .GtE => geD
  | .In => inD false
  | .NotIn => inD true
  | .Is => isND false
  | .IsNot => isND true
theorem op_cmpD (hK : X.K = W.K) (hu : X.A.units + 64 < cLine) : ∀ op, OpR X (compareOp op) (R2of W (cmpD op))
  | .Eq => op_eqN hK hu
  | .NotEq => op_neN hK hu
  | .Lt => op_ltD
  | .LtE => op_leD
  | .Gt => op_gtD
  | .GtE => op_geD
  | .In => op_inN hK false
  | .NotIn => op_inN hK true
  | .Is => op_isND false
  | .IsNot => op_isND true

/-! ### built-in functions -/
def lenD (xs : List D) : M D := fun μ => match xs with
  | [.str y] => if y.length ≤ sizeLine then .ok (.int y.length) μ else .stuck
  | [.dic kvs] => .ok (.int kvs.length) μ
  | [d] => match asS μ d with
    | some ys => .ok (.int ys.length) μ
    | none => .stuck
  | _ => .stuck
theorem DenK.length {m : Mem} : ∀ {ds : List (Key × D)} {vs : List (Key × V)}, DenK W m ds vs → ds.length = vs.length
  | _, _, .nil => rfl
  | _, _, .cons _ t => by rw [List.length_cons, List.length_cons, DenK.length t]
theorem dl1 {m : Mem} {d : D} {xs : List V} (h : DenL W m [d] xs) : ∃ x, xs = [x] ∧ Den W m d x := by
  cases h with
  | cons a b => cases b; exact ⟨_, rfl, a⟩
theorem dl2 {m : Mem} {d e : D} {xs : List V} (h : DenL W m [d, e] xs) : ∃ x y, xs = [x, y] ∧ Den W m d x ∧ Den W m e y := by
  cases h with
  | cons a b => obtain ⟨y, rfl, h2⟩ := dl1 b; exact ⟨_, y, rfl, a, h2⟩
theorem call_lenDn (hK : X.K = W.K) : CallR X (.builtin "len") (RCof W lenD) := by
  intro pins s σ H xs us Q I r h
  obtain ⟨E, ds, m, rfl, g, l, q⟩ := h
  match ds, l, q with
  | [], l, q => exact (show False from q).elim
  | _ :: _ :: _, l, q => exact (show False from by unfold lenD at q; split at q <;> first | (rename_i e; cases e) | exact q).elim
  | [d], l, q =>
    obtain ⟨x, rfl, hd⟩ := dl1 l
    have gen : out W m E Q (match asS m.μ d with
      | some ys => .ok (.int ys.length) m.μ
      | none => .stuck) → wpAny (model X.prog X.w) X.A (call (.builtin "len") us) (EP X pins σ Q) X.xe s := by
      intro q
      cases e : asS m.μ d with
      | none => rw [e] at q; exact (show False from q).elim
      | some ys =>
        rw [e] at q
        obtain ⟨p, vs, rfl, h1, l1⟩ := asS_den g hd e
        have q2 := out.same (d := .int ys.length) q g (.int _)
        rw [l1.length] at q2
        exact call_len_seq pins s σ m.H _ us Q I r ⟨p, vs, rfl, by rw [hK]; exact h1, q2⟩
    cases hd with
    | str y =>
      have q' : out W m E Q (if y.length ≤ sizeLine then .ok (.int y.length) m.μ else .stuck) := q
      split at q'
      · rename_i hz
        exact call_len pins s σ m.H _ us Q I r ⟨.str y, y.length, rfl, ⟨hz, rfl⟩, q'.same g (.int _)⟩
      · exact (show False from q').elim
    | @dic kvs a kv' ob h1 h2 h3 =>
      have q2 := out.same (d := .int kvs.length) q g (.int _)
      rw [h3.length] at q2
      rw [Vals.ref1 r]
      exact d_len I (.inr ⟨ob, h1⟩) fun t s' I' => ⟨.int kv'.length, m.H, I', ⟨t, rfl⟩, q2⟩
    | non => exact gen q
    | bl _ => exact gen q
    | int _ => exact gen q
    | ty _ => exact gen q
    | adr _ => exact gen q
    | cell _ => exact gen q
    | tup _ _ => exact gen q
    | lst _ _ _ => exact gen q
    | frz _ _ => exact gen q
    | obj _ _ _ => exact gen q
end
end Pu

set_option Elab.async false
set_option linter.all false
set_option maxRecDepth 100000
/-! Pu5: built-in functions and types called by name, items, slices, text methods. -/
namespace Pu
open PySem L2
section
variable {W : Wd} {X : Cx}
def absD (xs : List D) : M D := fun μ => match xs with
  | [.int i] => .ok (.int (if i < 0 then -i else i)) μ
  | _ => .stuck
def max2D (xs : List D) : M D := fun μ => match xs with
  | [.int i, .int j] => .ok (.int (if j > i then j else i)) μ
  | _ => .stuck
def min2D (xs : List D) : M D := fun μ => match xs with
  | [.int i, .int j] => .ok (.int (if j < i then j else i)) μ
  | _ => .stuck
def intD (xs : List D) : M D := fun μ => match xs with
  | [.int i] => .ok (.int i) μ
  | [.bl k] => .ok (.int (if k then 1 else 0)) μ
  | _ => .stuck
theorem den_int {m : Mem} {i : Int} {v : V} (h : Den W m (.int i) v) : v = .int i := by cases h; rfl
theorem den_bl {m : Mem} {i : Bool} {v : V} (h : Den W m (.bl i) v) : v = .bl i := by cases h; rfl
theorem den_str {m : Mem} {i : Str} {v : V} (h : Den W m (.str i) v) : v = .str i := by cases h; rfl
theorem den_non {m : Mem} {v : V} (h : Den W m .non v) : v = .non := by cases h; rfl
theorem den_ty {m : Mem} {n : String} {v : V} (h : Den W m (.ty n) v) : v = .ty n := by cases h; rfl
theorem call_absD : CallR X (.builtin "abs") (RCof W absD) := by
  intro pins s σ H xs us Q I r h
  obtain ⟨E, ds, m, rfl, g, l, q⟩ := h
  unfold absD at q
  split at q
  · rename_i i
    obtain ⟨x, rfl, hd⟩ := dl1 l
    cases den_int hd
    exact call_abs pins s σ m.H _ us Q I r ⟨i, rfl, out.same q g (.int _)⟩
  · exact q.elim
theorem call_max2D (hc : X.calm = true) : CallR X (.builtin "max") (RCof W max2D) := by
  intro pins s σ H xs us Q I r h
  obtain ⟨E, ds, m, rfl, g, l, q⟩ := h
  unfold max2D at q
  split at q
  · rename_i i j
    obtain ⟨x, y, rfl, hd, he⟩ := dl2 l
    cases den_int hd
    cases den_int he
    exact call_max2 hc pins s σ m.H _ us Q I r ⟨i, j, rfl, out.same q g (.int _)⟩
  · exact q.elim
theorem call_min2D (hc : X.calm = true) : CallR X (.builtin "min") (RCof W min2D) := by
  intro pins s σ H xs us Q I r h
  obtain ⟨E, ds, m, rfl, g, l, q⟩ := h
  unfold min2D at q
  split at q
  · rename_i i j
    obtain ⟨x, y, rfl, hd, he⟩ := dl2 l
    cases den_int hd
    cases den_int he
    exact call_min2 hc pins s σ m.H _ us Q I r ⟨i, j, rfl, out.same q g (.int _)⟩
  · exact q.elim
theorem call_intD : CallR X (.type "int") (RCof W intD) := by
  intro pins s σ H xs us Q I r h
  obtain ⟨E, ds, m, rfl, g, l, q⟩ := h
  unfold intD at q
  split at q
  · rename_i i
    obtain ⟨x, rfl, hd⟩ := dl1 l
    cases den_int hd
    exact call_int1 pins s σ m.H _ us Q I r (.inl ⟨i, rfl, out.same q g (.int _)⟩)
  · rename_i k
    obtain ⟨x, rfl, hd⟩ := dl1 l
    cases den_bl hd
    exact call_int1 pins s σ m.H _ us Q I r (.inr ⟨k, rfl, out.same q g (.int _)⟩)
  · exact q.elim
/-- a list of truth values -/
def blsOf : List D → Option (List Bool)
  | [] => some []
  | .bl b :: r => (blsOf r).map (b :: ·)
  | _ :: _ => none
theorem blsOf_map : ∀ {ds : List D} {bs : List Bool}, blsOf ds = some bs → ds = bs.map D.bl
  | [], bs, e => by simp [blsOf] at e; subst e; rfl
  | d :: ds, bs, e => by
    cases d with
    | bl b =>
      cases q : blsOf ds with
      | none => simp [blsOf, q] at e
      | some r =>
        simp [blsOf, q] at e
        subst e
        rw [blsOf_map q]
        rfl
    | _ => simp [blsOf] at e
theorem blsOf_of : ∀ bs : List Bool, blsOf (bs.map D.bl) = some bs
  | [] => rfl
  | b :: r => by simp [blsOf, blsOf_of r]
def allD (xs : List D) : M D := fun μ => match xs with
  | [d] => match (asQ μ d).bind blsOf with
    | some bs => .ok (.bl (bs.all id)) μ
    | none => .stuck
  | _ => .stuck
def anyD (xs : List D) : M D := fun μ => match xs with
  | [d] => match (asQ μ d).bind blsOf with
    | some bs => .ok (.bl (bs.any id)) μ
    | none => .stuck
  | _ => .stuck
theorem bls_at {m : Mem} {d : D} {x : V} {bs : List Bool} (g : Okm W m) (hd : Den W m d x) (e : (asQ m.μ d).bind blsOf = some bs) : ∃ a, x = .ref a ∧ SqL W.K m.H a (bs.map V.bl) := by
  cases q : asQ m.μ d with
  | none => rw [q] at e; cases e
  | some ds =>
    rw [q] at e
    obtain ⟨a, vs, rfl, h1, l⟩ := asQ_den g hd q
    have e2 := blsOf_map (show blsOf ds = some bs from e)
    subst e2
    rw [DenL.of_bls l] at h1
    exact ⟨a, rfl, h1⟩
theorem call_allD (hK : X.K = W.K) (hc : X.calm = true) : CallR X (.builtin "all") (RCof W allD) := by
  intro pins s σ H xs us Q I r h
  obtain ⟨E, ds, m, rfl, g, l, q⟩ := h
  unfold allD at q
  split at q
  · rename_i d
    obtain ⟨x, rfl, hd⟩ := dl1 l
    split at q
    · rename_i bs e
      obtain ⟨a, rfl, h1⟩ := bls_at g hd e
      exact cr_all hc pins s σ m.H _ us Q I r ⟨a, bs, rfl, by rw [hK]; exact h1, out.same q g (.bl _)⟩
    · exact q.elim
  · exact q.elim
theorem call_anyD (hK : X.K = W.K) (hc : X.calm = true) : CallR X (.builtin "any") (RCof W anyD) := by
  intro pins s σ H xs us Q I r h
  obtain ⟨E, ds, m, rfl, g, l, q⟩ := h
  unfold anyD at q
  split at q
  · rename_i d
    obtain ⟨x, rfl, hd⟩ := dl1 l
    split at q
    · rename_i bs e
      obtain ⟨a, rfl, h1⟩ := bls_at g hd e
      exact cr_any hc pins s σ m.H _ us Q I r ⟨a, bs, rfl, by rw [hK]; exact h1, out.same q g (.bl _)⟩
    · exact q.elim
  · exact q.elim

/-! ### isinstance of built-in classes -/
def tyD (μ : Sto) : D → Option String
  | .non => some "NoneType"
  | .bl _ => some "bool"
  | .int _ => some "int"
  | .str _ => some "str"
  | .tup _ => some "tuple"
  | .lst _ => some "list"
  | .frz _ => some "list"
  | .dic _ => some "dict"
  | .cell i => match μ[i]? with
    | some (.lst _) => some "list"
    | some (.dic _) => some "dict"
    | _ => none
  | _ => none
def isiB (t c : String) : Bool := t == c || (t == "bool" && c == "int")
def knownC : List String := ["int", "bool", "str", "tuple", "list", "dict"]
def isiD (xs : List D) : M D := fun μ => match xs with
  | [d, .ty c] => match tyD μ d with
    | some t => if c ∈ knownC then .ok (.bl (isiB t c)) μ else .stuck
    | none => .stuck
  | _ => .stuck
theorem kit_known (K : PySem.W.Frag) {c : String} (hc : c ∈ knownC) {t : String} (ht : t ∈ ["NoneType", "bool", "int", "str", "tuple", "list", "dict"]) : PySem.W.kitOne K (.type t) (.type c) = some (isiB t c) := by
  simp only [knownC, List.mem_cons, List.not_mem_nil, or_false] at hc ht
  rcases ht with rfl | rfl | rfl | rfl | rfl | rfl | rfl <;> rcases hc with rfl | rfl | rfl | rfl | rfl | rfl <;> rfl
theorem ty_den {m : Mem} {d : D} {x : V} {t : String} (g : Okm W m) (h : Den W m d x) (e : tyD m.μ d = some t) : TyX W.K m.H x (.type t) ∧ t ∈ ["NoneType", "bool", "int", "str", "tuple", "list", "dict"] := by
  cases h with
  | non => cases e; exact ⟨.base .non, by decide⟩
  | bl b => cases e; exact ⟨.base (.bl b), by decide⟩
  | int b => cases e; exact ⟨.base (.int b), by decide⟩
  | str b => cases e; exact ⟨.base (.str b), by decide⟩
  | @tup ds a vs h1 l =>
    cases e
    refine ⟨?_, by decide⟩
    rcases h1 with ⟨h1 | ⟨o, h1⟩, _⟩ | h1
    · exact .base (.tup h1)
    · exact .fTuple h1
    · rcases h1 (fun _ => none) with (h2 | ⟨o, h2⟩) | ⟨o, its, n, h2, h3, _⟩
      · cases h2
      · cases h2
      · exact .kTuple h2 h3
  | lst h1 n l => cases e; exact ⟨.base (.lst h1), by decide⟩
  | @frz ds a vs h1 l =>
    cases e
    refine ⟨?_, by decide⟩
    rcases h1 with ⟨h1 | ⟨o, h1⟩, _⟩ | h1
    · exact .base (.lst h1)
    · exact .base (.frz h1)
    · rcases h1 (fun _ => none) with (h2 | ⟨o, h2⟩) | ⟨o, its, n, h2, h3, _⟩
      · cases h2
      · cases h2
      · exact .kList h2 h3
  | dic h1 n l => cases e; exact ⟨.fDict h1, by decide⟩
  | @cell i a h1 =>
    simp only [tyD] at e
    cases q : m.μ[i]? with
    | none => rw [q] at e; cases e
    | some o =>
      rw [q] at e
      cases o with
      | lst xs =>
        cases e
        obtain ⟨vs, h2, _⟩ := g.ok i _ a q h1
        exact ⟨.base (.lst h2), by decide⟩
      | dic xs =>
        cases e
        obtain ⟨vs, h2, _⟩ := g.ok i _ a q h1
        exact ⟨.base (.dK h2), by decide⟩
      | _ => cases e
  | _ => cases e
theorem call_isiD (hK : X.K = W.K) : CallR X (.builtin "isinstance") (RCof W isiD) := by
  intro pins s σ H xs us Q I r h
  obtain ⟨E, ds, m, rfl, g, l, q⟩ := h
  unfold isiD at q
  split at q
  · rename_i d c
    obtain ⟨x, y, rfl, hd, he⟩ := dl2 l
    cases den_ty he
    split at q
    · rename_i t e
      split at q
      · rename_i hc
        obtain ⟨h1, h2⟩ := ty_den g hd e
        exact call_isi pins s σ m.H _ us Q I r ⟨x, .ty c, .type t, .type c, isiB t c, rfl, .ty c, by rw [hK]; exact h1, kit_known _ hc h2, out.same q g (.bl _)⟩
      · exact q.elim
    · exact q.elim
  · exact q.elim

/-! ### list(..), tuple(..), sum, sorted of ints -/
def keyAs : Key → D
  | .inl i => .int i
  | .inr x => .str x
def keysD (kvs : List (Key × D)) : List D := kvs.map fun kv => keyAs kv.1
theorem den_key {m : Mem} (k : Key) : Den W m (keyAs k) (kV k) := by
  cases k with
  | inl i => exact .int i
  | inr x => exact .str x
theorem den_keys {m : Mem} : ∀ {kvs : List (Key × D)} {kv : List (Key × V)}, DenK W m kvs kv → DenL W m (keysD kvs) (kv.map fun kv => kV kv.1)
  | _, _, .nil => .nil
  | _, _, .cons (k := k) _ t => .cons (den_key k) (den_keys t)
def listD (xs : List D) : M D := fun μ => match xs with
  | [.dic kvs] => .ok (.lst (keysD kvs)) μ
  | [d] => match asS μ d with
    | some ys => .ok (.lst ys) μ
    | none => .stuck
  | _ => .stuck
def tupleD (xs : List D) : M D := fun μ => match xs with
  | [d] => match asS μ d with
    | some ys => .ok (.tup ys) μ
    | none => .stuck
  | _ => .stuck
theorem call_listDn (hK : X.K = W.K) (hc : X.calm = true) : CallR X (.type "list") (RCof W listD) := by
  intro pins s σ H xs us Q I r h
  obtain ⟨E, ds, m, rfl, g, l, q⟩ := h
  unfold listD at q
  split at q
  · rename_i kvs
    obtain ⟨x, rfl, hd⟩ := dl1 l
    cases hd with
    | @dic _ a kv' ob h1 h2 h3 => exact call_listD hc pins s σ m.H _ us Q I r ⟨a, kv', rfl, .inr ⟨ob, h1⟩, fun p hp => q.lst g (den_keys h3) hp⟩
  · rename_i d
    obtain ⟨x, rfl, hd⟩ := dl1 l
    split at q
    · rename_i ys e
      obtain ⟨a, vs, rfl, h1, l1⟩ := asS_den g hd e
      exact call_list_of pins s σ m.H _ us Q I r ⟨a, vs, rfl, by rw [hK]; exact h1, fun p hp => q.lst g l1 hp⟩
    · exact q.elim
  · exact q.elim
theorem tup_same {m : Mem} {d : D} {a : Addr} {ys : List D} {vs : List V} {E : Ex → Mem → Prop} {Q : VK} (g : Okm W m) (hd : Den W m d (.ref a)) (e : asS m.μ d = some ys) (h1 : SqT W.K m.H a vs) (nl : ∀ ws, ¬ SqL W.K m.H a ws) (q : out W m E Q (.ok (.tup ys) m.μ)) : Q (.ref a) m.H := by
  cases d with
  | tup zs => simp [asS] at e; subst e; exact out.same q g hd
  | _ =>
    obtain ⟨a', vs', e1, h2, _⟩ := asQ_den g hd (by simpa only [asS] using e)
    cases e1
    exact (nl _ h2).elim
end
end Pu

set_option Elab.async false
set_option linter.all false
set_option maxRecDepth 100000
/-! Pu6: tuple(..), items, slices, repr, join. -/
namespace Pu
open PySem L2
section
variable {W : Wd} {X : Cx}
theorem call_tupleDn (hK : X.K = W.K) : CallR X (.type "tuple") (RCof W tupleD) := by
  intro pins s σ H xs us Q I r h
  obtain ⟨E, ds, m, rfl, g, l, q⟩ := h
  unfold tupleD at q
  split at q
  · rename_i d
    obtain ⟨x, rfl, hd⟩ := dl1 l
    split at q
    · rename_i ys e
      cases d with
      | tup zs =>
        simp [asS] at e; subst e
        cases hd with
        | tup h1 l1 => exact call_tuple_of pins s σ m.H _ us Q I r ⟨_, _, rfl, .inr ⟨by rw [hK]; exact h1.sq, out.same q g (.tup h1 l1)⟩⟩
      | _ =>
        obtain ⟨a, vs, rfl, h1, l1⟩ := asQ_den g hd (by simpa only [asS] using e)
        exact call_tuple_of pins s σ m.H _ us Q I r ⟨a, vs, rfl, .inl ⟨by rw [hK]; exact h1, fun p hp => q.tup g l1 hp⟩⟩
    · exact q.elim
  · exact q.elim
/-! ### items -/
theorem DenL.atI {m : Mem} {ds : List D} {vs : List V} {k : Int} {d : D} (l : DenL W m ds vs) (e : L2.atI ds k = some d) : ∃ v, L2.atI vs k = some v ∧ Den W m d v := by
  unfold L2.atI at e ⊢
  rw [← l.length]
  cases q : ixN ds.length k with
  | none => rw [q] at e; cases e
  | some j =>
    rw [q] at e
    obtain ⟨v, h1, h2⟩ := l.get (i := j) (d := d) e
    exact ⟨v, h1, h2⟩
def ixD (a i : D) : M D := fun μ => match a, i with
  | .str z, .int k => if z.length ≤ sizeLine then match L2.atI z.cps.toList k with
      | some c => .ok (.str ⟨#[c]⟩) μ
      | none => .stuck
    else .stuck
  | _, .int k => match (asS μ a).bind fun xs => L2.atI xs k with
    | some d => .ok d μ
    | none => .stuck
  | _, _ => .stuck
theorem ix_D (hK : X.K = W.K) : IxR X (R2of W ixD) := by
  intro value slice pins s σ H x y v u Q I rx ry h hs
  obtain ⟨E, a, b, m, rfl, g, ha, hb, q⟩ := h
  have gen : ∀ k, y = .int k → out W m E Q (match (asS m.μ a).bind fun xs => L2.atI xs k with
    | some d => .ok d m.μ
    | none => .stuck) → wpAny (model X.prog X.w) X.A (PyProof.Rows.subscriptTail value slice v u) (EP X pins σ Q) X.xe s := by
    intro k ey q
    cases e : asS m.μ a with
    | none => rw [e] at q; exact (show False from q).elim
    | some xs =>
      rw [e] at q
      have q' : out W m E Q (match L2.atI xs k with
        | some d => .ok d m.μ
        | none => .stuck) := q
      split at q'
      · rename_i d e2
        obtain ⟨p, vs, rfl, h1, l⟩ := asS_den g ha e
        obtain ⟨w, e3, hw⟩ := l.atI e2
        have q2 := out.same q' g hw
        refine ix_seq value slice pins s σ m.H _ _ v u Q I rx ry ?_ hs
        rcases h1 with h1 | h1
        · exact .inl ⟨p, vs, k, w, rfl, ey, by rw [hK]; exact h1, e3, q2⟩
        · exact .inr (.inl ⟨p, vs, k, w, rfl, ey, by rw [hK]; exact h1, e3, q2⟩)
      · exact (show False from q').elim
  cases hb with
  | int k =>
    cases ha with
    | str z =>
      have q' : out W m E Q (if z.length ≤ sizeLine then match L2.atI z.cps.toList k with
        | some c => .ok (.str ⟨#[c]⟩) m.μ
        | none => .stuck else .stuck) := q
      split at q'
      · rename_i hz
        split at q'
        · rename_i c e
          exact ix_seq value slice pins s σ m.H _ _ v u Q I rx ry (.inr (.inr ⟨z, k, c, rfl, rfl, hz, e, q'.same g (.str _)⟩)) hs
        · exact (show False from q').elim
      · exact (show False from q').elim
    | _ => exact gen k rfl q
  | _ => exact (show False from by cases ha <;> exact q).elim
/-! ### slices -/
def cutL (xs : List D) (lo hi : Option Int) : List D := (xs.drop (HT.sIx xs.length 0 lo)).take (HT.sIx xs.length xs.length hi - HT.sIx xs.length 0 lo)
theorem DenL.cut {m : Mem} {ds : List D} {vs : List V} (l : DenL W m ds vs) (lo hi : Option Int) : DenL W m (cutL ds lo hi) (cutV vs lo hi) := by
  unfold cutL cutV
  rw [← l.length]
  exact (l.drop _).take _
def slD (a : D) (lo hi : Option Int) : M D := fun μ => match a with
  | .str z => if z.length ≤ sizeLine then .ok (.str (cutS z lo hi)) μ else .stuck
  | .tup xs => .ok (.tup (cutL xs lo hi)) μ
  | _ => match asQ μ a with
    | some xs => .ok (.lst (cutL xs lo hi)) μ
    | none => .stuck
theorem sl_D (hK : X.K = W.K) : SlR X (RSof W slD) := by
  intro pins s σ H x v vl vu lo hi sl Q I rx hs pl pu h
  obtain ⟨E, a, m, rfl, g, ha, q⟩ := h
  have gen : out W m E Q (match asQ m.μ a with
    | some xs => .ok (.lst (cutL xs lo hi)) m.μ
    | none => .stuck) → ∃ T id, typeLookup (.type T) "__getitem__" = pure (some (.builtin id)) ∧ s.TypeIs v T ∧ wpAny (model X.prog X.w) X.A (getItem v (.ref sl)) (EP X pins σ Q) X.xe s := by
    intro q
    cases e : asQ m.μ a with
    | none => rw [e] at q; exact (show False from q).elim
    | some xs =>
      rw [e] at q
      obtain ⟨p, vs, rfl, h1, l⟩ := asQ_den g ha e
      exact sl_list pins s σ m.H _ v vl vu lo hi sl Q I rx hs pl pu ⟨p, vs, rfl, by rw [hK]; exact h1, fun c hc => out.lst q g (l.cut lo hi) hc⟩
  cases ha with
  | str z =>
    have q' : out W m E Q (if z.length ≤ sizeLine then .ok (.str (cutS z lo hi)) m.μ else .stuck) := q
    split at q'
    · rename_i hz
      exact sl_str pins s σ m.H _ v vl vu lo hi sl Q I rx hs pl pu ⟨z, rfl, hz, q'.same g (.str _)⟩
    · exact (show False from q').elim
  | @tup xs p vs h1 l =>
    refine sl_tupA pins s σ m.H _ v vl vu lo hi sl Q I rx hs pl pu ⟨p, vs, rfl, by rw [hK]; exact h1.sq, fun e => ?_, fun _ c hc => out.tup (ds := cutL xs lo hi) q g (l.cut lo hi) hc⟩
    refine out.same (d := .tup (cutL xs lo hi)) q g ?_
    have e2 : cutL xs lo hi = xs := by
      unfold cutL
      rw [l.length, e.1, e.2]
      simp only [List.drop_zero, Nat.sub_zero]
      exact List.take_of_length_le (by rw [l.length]; exact Nat.le_refl _)
    rw [e2]
    exact .tup h1 l
  | non => exact gen q
  | bl _ => exact gen q
  | int _ => exact gen q
  | ty _ => exact gen q
  | adr _ => exact gen q
  | cell _ => exact gen q
  | lst _ _ _ => exact gen q
  | frz _ _ => exact gen q
  | dic _ _ _ => exact gen q
  | obj _ _ _ => exact gen q
/-! ### repr -/
def reprD (xs : List D) : M D := fun μ => match xs with
  | [d] => match toPyT μ d with
    | some p => if p.showable = true ∧ p.hasDict = false ∧ p.depth ≤ 60 ∧ p.shown.length ≤ sizeLine then .ok (.str p.shown) μ else .stuck
    | none => .stuck
  | _ => .stuck
theorem call_reprD (hK : X.K = W.K) (hu : X.A.units + 64 < cLine) (gd : X.A.guards = some []) : CallR X (.builtin "repr") (RCof W reprD) := by
  intro pins s σ H xs us Q I r h
  obtain ⟨E, ds, m, rfl, g, l, q⟩ := h
  unfold reprD at q
  split at q
  · rename_i d
    obtain ⟨x, rfl, hd⟩ := dl1 l
    split at q
    · rename_i p e
      split at q
      · rename_i hz
        obtain ⟨h1, h2, h3, h4⟩ := hz
        have q2 := out.same q g (.str _)
        have dp := toPyT_dp g hd e
        rw [← hK] at dp
        obtain ⟨u, rfl, ru⟩ := vals1 r
        obtain ⟨as, rd⟩ := Dp.reads I p x u dp ru
        have obj : ∀ b, u = .ref b → wpAny (model X.prog X.w) X.A (call (.builtin "repr") [u]) (EP X pins σ Q) X.xe s := by
          rintro b rfl
          exact repr_of_reads' rd h1 (PyData.noDict_hsm h2) gd (by omega) (fun _ _ z => z) (fun h' t tk hk => ⟨.str _, m.H, I.kept hk, ⟨_, rfl⟩, q2⟩) h4
        cases rd with
        | none => exact PySem.P.repr_of_none ⟨.str _, m.H, I.tok _, ⟨_, rfl⟩, q2⟩
        | bool b => exact PySem.P.repr_of_bool ⟨.str _, m.H, I.tok _, ⟨_, rfl⟩, by cases b <;> exact q2⟩
        | int i t => exact PySem.P.repr_of_int (of_decide_eq_true h1) ⟨.str _, m.H, I.tok _, ⟨_, rfl⟩, q2⟩
        | str z t => exact PySem.P.repr_of_str ⟨.str _, m.H, I.tok _, ⟨_, rfl⟩, q2⟩ h4
        | list _ _ _ _ => exact obj _ rfl
        | tuple _ _ _ _ => exact obj _ rfl
        | dict _ _ _ _ _ => exact obj _ rfl
      · exact q.elim
    · exact q.elim
  · exact q.elim
end
end Pu

set_option Elab.async false
set_option linter.all false
set_option maxRecDepth 100000
/-! Pu23: what the language calls of an own class: len, str, ==, !=, calls, properties. -/
namespace Pu
open PySem L2
/-- the class and the attributes of an instance -/
def asO (μ : Sto) : D → Option (Str × List (Str × D))
  | .obj C fs => some (C, fs)
  | .cell i => match μ[i]? with
    | some (.obj C fs) => some (C, fs)
    | _ => none
  | _ => none
theorem denF_get {W : Wd} {m : Mem} : ∀ {fs : List (Str × D)} {fv : List (Str × V)}, DenF W m fs fv → ∀ (f : Str), (∀ d, fs.lookup f = some d → ∃ v, fv.lookup f = some v ∧ Den W m d v) ∧ (fs.lookup f = none → fv.lookup f = none)
  | _, _, .nil, f => ⟨(fun d h => nomatch h), fun _ => rfl⟩
  | _, _, .cons (k := k) h t, f => by
    obtain ⟨i1, i2⟩ := denF_get t f
    constructor
    · intro d e
      rw [List.lookup_cons] at e ⊢
      cases q : f == k with
      | true => rw [q] at e; cases e; exact ⟨_, rfl, h⟩
      | false => rw [q] at e; exact i1 d e
    · intro e
      rw [List.lookup_cons] at e ⊢
      cases q : f == k with
      | true => rw [q] at e; cases e
      | false => rw [q] at e; exact i2 e
section
variable {W : Wd}
theorem asO_den {m : Mem} {d : D} {v : V} {C : Str} {fs : List (Str × D)} (g : Okm W m) (h : Den W m d v) (e : asO m.μ d = some (C, fs)) : ∃ a dx fv, v = .ref a ∧ m.H a = some (.ins (W.ca C) dx fv) ∧ DenF W m fs fv := by
  cases h with
  | obj h1 h2 h3 => simp [asO] at e; obtain ⟨rfl, rfl⟩ := e; exact ⟨_, _, _, rfl, h1, h3⟩
  | @cell i a h1 =>
    replace e : (match m.μ[i]? with | some (MO.obj C fs) => some (C, fs) | _ => none) = some (C, fs) := e
    cases q : m.μ[i]? with
    | none => rw [q] at e; cases e
    | some o =>
      rw [q] at e
      cases o with
      | obj C' fs' =>
        simp at e
        obtain ⟨rfl, rfl⟩ := e
        obtain ⟨dx, fv, h2, h3⟩ := g.ok i _ a q h1
        exact ⟨a, dx, fv, rfl, h2, h3⟩
      | _ => cases e
  | _ => simp [asO] at e
end
def noX {α : Type} (x : M α) : M α := fun μ => match x μ with
  | .exc _ _ => .stuck
  | r => r
theorem noX_wp {α : Type} {W : Wd} {m : Mem} {E E' : Ex → Mem → Prop} {Q : α → Mem → Prop} {x : M α} {μ : Sto} (h : wpR W m E Q (noX x μ)) : wpR W m E' Q (x μ) := by
  unfold noX at h
  cases q : x μ with
  | ok a μ' => rw [q] at h; exact h
  | exc e μ' => rw [q] at h; exact (show False from h).elim
  | stuck => rw [q] at h; exact h
section
variable {X : Cx} {W : Wd} {k : Nat} {f C : Addr} {fd : FuncData} {ps : List Str} {sp : Sp} {Z : WX} {G : Ctx} {r : Dn}
/-- a call out of the machine's own code; nothing is raised -/
theorem run_in {A : Around} {pins : List (Addr × Obj)} {σ : St} {H : Hp} {s : Shared} {Q : VK} {E' : Value → Shared → Prop} {us : List Value} {vs : List V} (F : FnG X.prog X.w X.K X.mg X.base k f fd ps sp) (room : Room k A) (gd : A.guards = some []) (e0 : Env0 X.prog X.w X.K X.mg X.base A X.stack s H)
    (bs : Binds X.K fd ps []) (I : Inv X pins σ H s) (r : Vals vs us) (h : sp vs H Q fun _ _ _ => False) : wpAny (model X.prog X.w) A (call (.ref f) us) (EP X pins σ Q) E' s := by
  have n : us.length = ps.length := by rw [← r.length]; exact F.arity _ _ _ _ h
  have bb := bs s us I.kIn (by rw [List.append_nil]; exact n)
  rw [List.append_nil] at bb
  refine wpAny_call (codeAny_mono (F.go A X.stack s H ⟨us, []⟩ us vs Q (fun _ _ _ => False) room gd e0 bb r h) fun res s' q => ?_)
  match res, q with
  | .error err, q => obtain ⟨_, _, _, _, _, _, _, _, _, _, _, _, z⟩ := q; exact z.elim
  | .ok .next, q => exact q.elim
  | .ok .brk, q => exact q.elim
  | .ok .cont, q => exact q.elim
  | .ok (.ret u), q => exact I.after q
/-- the instance itself -/
theorem inst_of {pins : List (Addr × Obj)} {σ : St} {H : Hp} {s : Shared} {a dx : Addr} {fv : List (Str × V)} (I : Inv X pins σ H s) (e : H a = some (.ins C dx fv)) : ∃ ox od, PySem.W.InstAt s.heap a ox C od ∧ ox.data = .plain := by
  obtain ⟨mA, O, _⟩ := ins_get I.hok e
  obtain ⟨od, J, _⟩ := O.look
  exact ⟨_, _, J, rfl⟩
/-! ### len(o) -/
def isLen (d : D) : M D := fun μ => match d with
  | .int i => if 0 ≤ i ∧ i < 2 ^ 63 then .ok d μ else .stuck
  | _ => .stuck
def lenO (G : Ctx) (xs : List D) : M D := fun μ => match xs with
  | [d] => match asO μ d with
    | some (C, _) => match G.dun C "__len__" with
      | some (0, F) => (do let n ← noX (F [d]); isLen n) μ
      | _ => .stuck
    | none => lenD xs μ
  | _ => .stuck
theorem call_lenO (ok : EOk W X Z G) (h4 : G.hot = false) : CallR X (.builtin "len") (RCof W (lenO G)) := by
  intro pins s σ H xs us Q I r h
  obtain ⟨E, ds, m, rfl, g, l, q⟩ := h
  unfold lenO at q
  split at q
  · rename_i d
    split at q
    · rename_i C fs e
      split at q
      · rename_i F hF
        obtain ⟨x, rfl, hd⟩ := dl1 l
        obtain ⟨a, dx, fv, rfl, h1, h3⟩ := asO_den g hd e
        obtain ⟨u, rfl, ru⟩ : ∃ u, us = [u] ∧ RelV (.ref a) u := by
          cases r with
          | cons a b => cases b; exact ⟨_, rfl, a⟩
        cases (show u = Value.ref a from ru)
        obtain ⟨f, fd, ps, j, hj, c, hm, FG, bs, _⟩ := ok.g.ob.dun C "__len__" 0 F hF
        rw [← ok.K] at c hm FG bs
        obtain ⟨ox, od, J, hpl⟩ := inst_of I h1
        obtain ⟨mf, hfr⟩ := I.fr
        have room : Room j X.A.in1 := ((ok.room h4).mono (by omega) : Room (j + 1) X.A).in1
        refine PySem.W.len_K hfr I.ok.mod.kin J hm.at_ hm.fn (wpAny_mono (run_in (Q := fun v H1 => ∃ i, v = .int i ∧ (0 ≤ i ∧ i < 2 ^ 63) ∧ Q v H1) FG room (by exact ok.gd) I.env0.in1 bs I (vs := [V.ref a]) (us := [Value.ref a]) (.cons rfl .nil) ⟨rfl, [d], m, rfl, g, .cons hd .nil, ?_⟩) (fun u s1 hu => ?_) fun _ _ z => z)
        · refine (noX_wp (E' := fun e m' => ∀ cls dx, XDen W m' e cls dx → False) (wpR_bind q)).mono (fun _ _ _ _ z => z) fun n m1 s1 g1 w1 v hv => ?_
          unfold isLen at w1
          cases n with
          | int i =>
            cases den_int hv
            simp only at w1
            by_cases hi : 0 ≤ i ∧ i < 2 ^ 63
            · rw [if_pos hi] at w1
              exact ⟨i, rfl, hi, w1 m1 (Step.refl m1) g1 rfl _ (.int i)⟩
            · rw [if_neg hi] at w1; exact w1.elim
          | _ => exact (show False from w1).elim
        · obtain ⟨v, H1, I1, rv, i, rfl, hi, q1⟩ := hu
          obtain ⟨t, rfl⟩ := (show ∃ t, u = Value.int i t from rv)
          exact ⟨hi, .int i, H1, I1.tok _, ⟨_, rfl⟩, q1⟩
      · exact (show False from q).elim
    · exact call_lenDn ok.K pins s σ m.H xs us Q I r ⟨E, _, m, rfl, g, l, q⟩
  · exact (show False from q).elim
/-! ### str(o) -/
def isTxt (d : D) : M D := fun μ => match d with
  | .str _ => .ok d μ
  | _ => .stuck
def strO (G : Ctx) (xs : List D) : M D := fun μ => match xs with
  | [d] => match asO μ d with
    | some (C, _) => match G.dun C "__str__" with
      | some (0, F) => (do let n ← noX (F [d]); isTxt n) μ
      | _ => .stuck
    | none => .stuck
  | _ => .stuck
theorem call_strO (ok : EOk W X Z G) (h4 : G.hot = false) : CallR X (.type "str") (RCof W (strO G)) := by
  intro pins s σ H xs us Q I r h
  obtain ⟨E, ds, m, rfl, g, l, q⟩ := h
  unfold strO at q
  split at q
  · rename_i d
    split at q
    · rename_i C fs e
      split at q
      · rename_i F hF
        obtain ⟨x, rfl, hd⟩ := dl1 l
        obtain ⟨a, dx, fv, rfl, h1, h3⟩ := asO_den g hd e
        obtain ⟨u, rfl, ru⟩ : ∃ u, us = [u] ∧ RelV (.ref a) u := by
          cases r with
          | cons a b => cases b; exact ⟨_, rfl, a⟩
        cases (show u = Value.ref a from ru)
        obtain ⟨f, fd, ps, j, hj, c, hm, FG, bs, _⟩ := ok.g.ob.dun C "__str__" 0 F hF
        rw [← ok.K] at c hm FG bs
        obtain ⟨ox, od, J, hpl⟩ := inst_of I h1
        have room : Room j X.A.in1.in1 := ((ok.room h4).mono hj : Room (j + 2) X.A).in1.in1
        refine PySem.W.kso_call (by have := room.un; omega) I.kIn J hm.at_ hm.fn (wpAny_mono (run_in (Q := fun v H1 => ∃ i, v = .str i ∧ Q v H1) FG room (by exact ok.gd) I.env0.in1.in1 bs I (vs := [V.ref a]) (us := [Value.ref a]) (.cons rfl .nil) ⟨rfl, [d], m, rfl, g, .cons hd .nil, ?_⟩) (fun u s1 hu => ?_) fun _ _ z => z)
        · refine (noX_wp (E' := fun e m' => ∀ cls dx, XDen W m' e cls dx → False) (wpR_bind q)).mono (fun _ _ _ _ z => z) fun n m1 s1 g1 w1 v hv => ?_
          unfold isTxt at w1
          cases n with
          | str i =>
            cases den_str hv
            exact ⟨i, rfl, w1 m1 (Step.refl m1) g1 rfl _ (.str i)⟩
          | _ => exact (show False from w1).elim
        · obtain ⟨v, H1, I1, rv, i, rfl, q1⟩ := hu
          obtain ⟨t, rfl⟩ := (show ∃ t, u = Value.str i t from rv)
          exact ⟨.str i, H1, I1, ⟨_, rfl⟩, q1⟩
      · exact (show False from q).elim
    · exact (show False from q).elim
  · exact (show False from q).elim
/-! ### o == y, o != y -/
theorem sub_ty {K : PySem.W.Frag} {C : Addr} {t : String} (ht : t ∈ ["NoneType", "bool", "int", "str", "tuple", "list", "dict"]) : PySem.W.subIn K (.type t) (.ref C) = some false := by
  have h : ∀ l, fastBuiltinMro t = some l → l.all (fun v => match v with | .type _ => true | _ => false) = true → PySem.W.subIn K (.type t) (.ref C) = some false := fun l e h => by
    show (fastBuiltinMro t).map (·.contains (.ref C)) = some false
    rw [e]
    show some (l.contains (.ref C)) = some false
    cases z : l.contains (Value.ref C) with
    | false => rfl
    | true => cases List.all_eq_true.mp h _ (List.contains_iff_mem.mp z)
  simp only [List.mem_cons, List.not_mem_nil, or_false] at ht
  rcases ht with rfl | rfl | rfl | rfl | rfl | rfl | rfl
  · exact h [.type "NoneType", .type "object"] (by decide +kernel) rfl
  · exact h [.type "bool", .type "int", .type "object"] (by decide +kernel) rfl
  · exact h [.type "int", .type "object"] (by decide +kernel) rfl
  · exact h [.type "str", .type "object"] (by decide +kernel) rfl
  · exact h [.type "tuple", .type "object"] (by decide +kernel) rfl
  · exact h [.type "list", .type "object"] (by decide +kernel) rfl
  · exact h [.type "dict", .type "object"] (by decide +kernel) rfl
theorem ne_K {prog : Program} {w : World} {A : Around} {E : Value → Shared → Prop} {s : Shared} {K : PySem.W.Frag} {x C f : Addr} {ox : Obj} {od : Option Obj} {b tb : Value} {Q : Value → Shared → Prop} (hu : A.units + 1 < cLine) (X : K.In s.heap) (I : PySem.W.InstAt s.heap x ox C od)
    (hb : PySem.W.Looks (model prog w) s.heap (typeOf b) tb) (hn : PySem.W.notFirst K C tb = true) (hne : PySem.W.findIn K (.ref C) "__ne__" = some (some (.builtin "object.__ne__"))) (hm : PySem.W.mroIn K C (.type "object") = some true)
    (hs : PySem.W.findIn K (.ref C) "__eq__" = some (some (.ref f))) (hf : PySem.W.isFn K (.ref f) = true)
    (h : wpAny (model prog w) A.in1 (call (.ref f) [.ref x, b]) (fun v s' => ∃ c, v = .bool c ∧ Q (.bool (!c)) s') E s) : wpAny (model prog w) A (richCompare .NotEq (.ref x) b) Q E s := by
  have entry : ∀ {P : Fin → Shared → Prop}, wpAny (model prog w) A.in1 (call (.ref f) [.ref x, b]) (fun v s' => ∃ c, v = .bool c ∧ P (.done (.ret (.bool (!c)))) s') E s → wpAny (model prog w) A.in1 (Builtin.«object.__ne__» ⟨[.ref x, b], []⟩) P E s := by
    intro P hc
    unfold Builtin.«object.__ne__»
    refine wpAny_bind (m := slotArgs "__ne__" 1 _) (wpAny_pure ?_)
    refine wpAny_bind (m := cRoomFor _ _) (wpAny_cRoomFor (by show A.units + 1 < cLine; exact hu) ?_)
    refine wpAny_bind (m := callSpecialIfBound? (.ref x) (Str.ofString "__eq__") _) (PySem.W.ifBound_K X I hs hf (wpAny_mono hc (fun r s' hr => ?_) fun _ _ y => y))
    obtain ⟨c, rfl, q⟩ := hr
    exact wpAny_bind (wpAny_truthy_bool (wpAny_pure q))
  have one : wpAny (model prog w) A (tryCompare (.ref x) "__ne__" b) (fun r s' => ∃ v, r = some v ∧ Q v s') E s := by
    unfold tryCompare
    refine wpAny_bind ?_
    simp only [callSpecialIfBound?, bindSpecialIfBound?]
    refine wpAny_holding (wpAny_bind (wpAny_bind (wpAny_bind (I.type.here ((PySem.W.looks_findIn X hne).here ?_)))))
    refine wpAny_bind (wpAny_askSetting (wpAny_ite ?_))
    have fin : ∀ {R : Option Value → Shared → Prop}, (∀ c s', Q (.bool c) s' → R (some (.bool c)) s') → wpAny (model prog w) A (call (.builtin "object.__ne__") ([.ref x] ++ [b]) >>= fun v => pure (some v)) R E s := by
      intro R hR
      refine wpAny_bind (wpAny_call (codeAny_call_builtin PySem.F.cmp_object.ne.plain PySem.F.cmpEntry_ne (PySem.W.check_slot PySem.F.cmpKind_ne PySem.F.cmpSplit_ne (I.type.andThen (PySem.W.looks_mroIn X hm)) (PySem.F.cmpArgs_ne _ _) (entry (wpAny_mono h (fun v s' hv => ?_) fun _ _ y => y)))))
      obtain ⟨c, rfl, q⟩ := hv
      exact ⟨c, rfl, wpAny_pure (hR _ _ q)⟩
    split
    · exact wpAny_bind (wpAny_of_eq (PySem.F.cmp_object.ne.bind _) (wpAny_pure (by exact fin fun c s' q => wpAny_pure ⟨_, rfl, q⟩)))
    · exact wpAny_tryCatch (wpAny_bind (wpAny_of_eq (PySem.F.cmp_object.ne.bind _) (wpAny_pure (by exact fin fun c s' q => wpAny_pure ⟨_, rfl, q⟩))))
  unfold richCompare
  simp only [oneThing_ref]
  refine wpAny_holding (wpAny_bind (wpAny_cRoomFor (Nat.lt_of_succ_lt hu) ?_))
  refine wpAny_bind (I.type.here (wpAny_bind (hb.here ?_)))
  split
  · rename_i q
    have e : PySem.W.subIn K tb (.ref C) = some false := by
      rcases Bool.or_eq_true_iff.mp hn with e | e
      · rw [beq_iff_eq.mp e] at q; simp at q
      · exact beq_iff_eq.mp e
    refine wpAny_bind ((PySem.W.looks_subIn X e).here ?_)
    simp only [Bool.false_eq_true, if_false]
    refine wpAny_bind (wpAny_mono one (fun r s' z => ?_) fun _ _ e => e)
    obtain ⟨v, rfl, hq⟩ := z
    exact wpAny_pure hq
  · refine wpAny_bind (wpAny_pure ?_)
    simp only [Bool.false_eq_true, if_false]
    refine wpAny_bind (wpAny_mono one (fun r s' z => ?_) fun _ _ e => e)
    obtain ⟨v, rfl, hq⟩ := z
    exact wpAny_pure hq
def notB (neg : Bool) (d : D) : M D := fun μ => match d with
  | .bl b => .ok (.bl (if neg then !b else b)) μ
  | _ => .stuck
/-- what an own == may be asked about -/
def eqAsk (μ : Sto) (C : Str) (y : D) : Bool := match asO μ y with
  | some (B, _) => decide (B = C)
  | none => (tyD μ y).isSome
def eqO (G : Ctx) (neg : Bool) (x y : D) : M D := fun μ => match asO μ x with
  | some (C, _) => match G.dun C "__eq__" with
    | some (1, F) => if (neg = false ∨ G.ne C = true) ∧ eqAsk μ C y = true then (do let z ← noX (F [x, y]); notB neg z) μ else .stuck
    | _ => .stuck
  | none => eqD neg x y μ
theorem op_eqO (ok : EOk W X Z G) (h4 : G.hot = false) (neg : Bool) : OpR X (compareOp (if neg then .NotEq else .Eq)) (R2of W (eqO G neg)) := by
  intro pins s σ H x y v u Q I rx ry h
  obtain ⟨E, d, e, m, rfl, g, hd, he, q⟩ := h
  unfold eqO at q
  split at q
  · rename_i C fs e1
    split at q
    · rename_i F hF
      by_cases hc : (neg = false ∨ G.ne C = true) ∧ eqAsk m.μ C e = true
      · rw [if_pos hc] at q
        obtain ⟨a, dx, fv, rfl, h1, h3⟩ := asO_den g hd e1
        cases (show v = Value.ref a from rx)
        obtain ⟨f, fd, ps, j, hj, c, hm, FG, bs, _⟩ := ok.g.ob.dun C "__eq__" 1 F hF
        rw [← ok.K] at c hm FG bs
        obtain ⟨ox, od, J, hpl⟩ := inst_of I h1
        obtain ⟨mf, hfr⟩ := I.fr
        -- the other's type
        obtain ⟨tb, L, nf⟩ : ∃ tb, PySem.W.Looks (model X.prog X.w) s.heap (typeOf u) tb ∧ PySem.W.notFirst X.K (W.ca C) tb = true := by
          have hq := hc.2
          unfold eqAsk at hq
          cases q2 : asO m.μ e with
          | some cf =>
            obtain ⟨B, gs⟩ := cf
            rw [q2] at hq
            have hB : B = C := of_decide_eq_true hq
            subst hB
            obtain ⟨b, dy, fw, rfl, h5, _⟩ := asO_den g he q2
            cases (show u = Value.ref b from ry)
            obtain ⟨oy, oe, J2, _⟩ := inst_of I h5
            exact ⟨_, J2.type, by simp [PySem.W.notFirst]⟩
          | none =>
            rw [q2] at hq
            obtain ⟨t, ht⟩ := Option.isSome_iff_exists.mp hq
            obtain ⟨z1, z2⟩ := ty_den g he ht
            rw [← ok.K] at z1
            obtain ⟨P, Zk, p, _⟩ := kit_of I ry z1
            exact ⟨_, Zk.ty _ _ I.kIn p, by unfold PySem.W.notFirst; rw [sub_ty z2]; simp⟩
        have ask : ∀ {A : Around}, Room j A → A.guards = some [] → Env0 X.prog X.w X.K X.mg X.base A X.stack s m.H → wpAny (model X.prog X.w) A (call (.ref f) [.ref a, u]) (EP X pins σ fun v H1 => ∃ c, v = .bl c ∧ Q (.bl (if neg then !c else c)) H1) X.xe s := by
          intro A room gd e0
          refine run_in FG room gd e0 bs I (vs := [V.ref a, y]) (us := [Value.ref a, u]) (.cons rfl (.cons ry .nil)) ⟨rfl, [d, e], m, rfl, g, .cons hd (.cons he .nil), ?_⟩
          refine (noX_wp (E' := fun e m' => ∀ cls dx, XDen W m' e cls dx → False) (wpR_bind q)).mono (fun _ _ _ _ z => z) fun n m1 s1 g1 w1 v hv => ?_
          unfold notB at w1
          cases n with
          | bl c =>
            cases den_bl hv
            exact ⟨c, rfl, w1 m1 (Step.refl m1) g1 rfl _ (.bl _)⟩
          | _ => exact (show False from w1).elim
        cases neg with
        | false =>
          have room : Room j X.A := (ok.room h4).mono (by omega)
          refine PySem.W.cmp_K (op := .Eq) (tb := tb) (by have := ok.un; omega) hfr I.ok.mod.kin J L nf hm.at_ hm.fn (wpAny_mono (ask room ok.gd I.env0) (fun r s1 hr => ?_) fun _ _ z => z)
          obtain ⟨w, H1, I1, rw1, c, rfl, q1⟩ := hr
          cases (show r = Value.bool c from rw1)
          exact ⟨.bl c, H1, I1, rfl, q1⟩
        | true =>
          have hne := hc.1.resolve_left (fun z => nomatch z)
          obtain ⟨n1, n2⟩ := ok.g.ob.ne C hne
          rw [← ok.K] at n1 n2
          have room : Room j X.A.in1 := ((ok.room h4).mono (by omega) : Room (j + 1) X.A).in1
          refine ne_K (tb := tb) (by have := ok.un; omega) I.kIn J L nf n1 n2 hm.at_ hm.fn (wpAny_mono (ask room ok.gd I.env0.in1) (fun r s1 hr => ?_) fun _ _ z => z)
          obtain ⟨w, H1, I1, rw1, c, rfl, q1⟩ := hr
          cases (show r = Value.bool c from rw1)
          exact ⟨c, rfl, .bl (!c), H1, I1, rfl, q1⟩
      · rw [if_neg hc] at q
        exact (show False from q).elim
    · exact (show False from q).elim
  · have hu : X.A.units + 64 < cLine := ok.un
    cases neg with
    | false => exact op_cmpD ok.K hu .Eq pins s σ m.H x y v u Q I rx ry ⟨E, d, e, m, rfl, g, hd, he, q⟩
    | true => exact op_cmpD ok.K hu .NotEq pins s σ m.H x y v u Q I rx ry ⟨E, d, e, m, rfl, g, hd, he, q⟩
def eqG (G : Ctx) (neg : Bool) : D → D → M D := if G.hot = false then eqO G neg else eqD neg
def cmpO (G : Ctx) : CmpOp → D → D → M D
  | .Eq => eqG G false
  | .NotEq => eqG G true
  | op => cmpD op
theorem op_cmpO (ok : EOk W X Z G) : ∀ op, OpR X (compareOp op) (R2of W (cmpO G op))
  | .Eq => by
    show OpR X _ (R2of W (eqG G false))
    unfold eqG
    by_cases h4 : G.hot = false
    · rw [if_pos h4]; exact op_eqO ok h4 false
    · rw [if_neg h4]; exact op_cmpD ok.K ok.un .Eq
  | .NotEq => by
    show OpR X _ (R2of W (eqG G true))
    unfold eqG
    by_cases h4 : G.hot = false
    · rw [if_pos h4]; exact op_eqO ok h4 true
    · rw [if_neg h4]; exact op_cmpD ok.K ok.un .NotEq
  | .Lt => op_cmpD ok.K ok.un .Lt
  | .LtE => op_cmpD ok.K ok.un .LtE
  | .Gt => op_cmpD ok.K ok.un .Gt
  | .GtE => op_cmpD ok.K ok.un .GtE
  | .In => op_cmpD ok.K ok.un .In
  | .NotIn => op_cmpD ok.K ok.un .NotIn
  | .Is => op_cmpD ok.K ok.un .Is
  | .IsNot => op_cmpD ok.K ok.un .IsNot
/-! ### isinstance(x, C), C an own class -/
def isiO (G : Ctx) (xs : List D) : M D := fun μ => match xs with
  | [d, .adr B] => match asO μ d with
    | some (C, _) => if G.cls C = true then (match G.sub C B with | some b => .ok (.bl b) μ | none => .stuck) else .stuck
    | none => if G.cls B = true ∧ (tyD μ d).isSome = true then .ok (.bl false) μ else .stuck
  | _ => isiD xs μ
theorem den_adr {m : Mem} {x : Str} {v : V} (h : Den W m (.adr x) v) : v = .ref (W.ca x) := by cases h; rfl
theorem call_isiO (ok : EOk W X Z G) : CallR X (.builtin "isinstance") (RCof W (isiO G)) := by
  intro pins s σ H xs us Q I r h
  obtain ⟨E, ds, m, rfl, g, l, q⟩ := h
  unfold isiO at q
  split at q
  · rename_i d B
    obtain ⟨x, y, rfl, hd, he⟩ := dl2 l
    cases den_adr he
    split at q
    · rename_i C fs e
      by_cases hC : G.cls C = true
      · rw [if_pos hC] at q
        split at q
        · rename_i b hb
          obtain ⟨a, dx, fv, rfl, h1, _⟩ := asO_den g hd e
          obtain ⟨c1, c2, _⟩ := ok.g.ob.cls C hC
          have c3 := ok.g.ob.sub C B b hb
          rw [← ok.K] at c1 c2 c3
          exact call_isi pins s σ m.H _ us Q I r ⟨.ref a, .ref (W.ca B), .ref (W.ca C), .ref (W.ca B), b, rfl, .own _, .base (.ins h1 c1 c2.ha c2.hn c2.htk c2.hm), c3, out.same q g (.bl _)⟩
        · exact (show False from q).elim
      · rw [if_neg hC] at q; exact (show False from q).elim
    · rename_i e
      by_cases hC : G.cls B = true ∧ (tyD m.μ d).isSome = true
      · rw [if_pos hC] at q
        obtain ⟨t, ht⟩ := Option.isSome_iff_exists.mp hC.2
        obtain ⟨z1, z2⟩ := ty_den g hd ht
        obtain ⟨_, _, c3⟩ := ok.g.ob.cls B hC.1
        have c4 := c3 t z2
        rw [← ok.K] at z1 c4
        exact call_isi pins s σ m.H _ us Q I r ⟨x, .ref (W.ca B), .type t, .ref (W.ca B), false, rfl, .own _, z1, c4, out.same q g (.bl _)⟩
      · rw [if_neg hC] at q; exact (show False from q).elim
  · exact call_isiD ok.K pins s σ m.H xs us Q I r ⟨E, _, m, rfl, g, l, q⟩
end
end Pu

set_option Elab.async false
set_option linter.all false
set_option maxRecDepth 100000
/-! Pu24: sorted(xs) of ints, of texts, of tuples of these. -/
namespace Pu
open PySem L2
/-! ### a stable sort -/
section
variable {α β : Type}
def insL (lt : α → α → Bool) (x : α) : List α → List α
  | [] => [x]
  | y :: r => if lt y x = true then y :: insL lt x r else x :: y :: r
def srtL (lt : α → α → Bool) : List α → List α
  | [] => []
  | x :: r => insL lt x (srtL lt r)
theorem ins_mem {lt : α → α → Bool} {x z : α} : ∀ {l : List α}, z ∈ insL lt x l → z = x ∨ z ∈ l
  | [], h => by
    rcases List.mem_cons.mp (show z ∈ [x] from h) with e | e
    · exact .inl e
    · cases e
  | y :: r, h => by
    unfold insL at h
    split at h
    · rcases List.mem_cons.mp h with e | e
      · exact .inr (e ▸ List.mem_cons_self)
      · rcases ins_mem e with e | e
        · exact .inl e
        · exact .inr (List.mem_cons_of_mem _ e)
    · rcases List.mem_cons.mp h with e | e
      · exact .inl e
      · exact .inr e
theorem srt_mem {lt : α → α → Bool} {z : α} : ∀ {l : List α}, z ∈ srtL lt l → z ∈ l
  | [], h => h
  | x :: r, h => by
    rcases ins_mem h with e | e
    · exact e ▸ List.mem_cons_self
    · exact List.mem_cons_of_mem _ (srt_mem e)
theorem ins_srt {lt : α → α → Bool} (O : SrtO.Swo lt) {x : α} : ∀ {l : List α}, SrtO.Srtd lt l → SrtO.Srtd lt (insL lt x l)
  | [], _ => SrtO.srtd_one x
  | y :: r, h => by
    have h1 := List.pairwise_cons.mp h
    unfold insL
    split
    · rename_i q
      refine List.pairwise_cons.mpr ⟨fun z hz => ?_, ins_srt O h1.2⟩
      rcases ins_mem hz with e | e
      · subst e; exact O.asym _ _ q
      · exact h1.1 z e
    · rename_i q
      have q : lt y x = false := by simpa using q
      refine List.pairwise_cons.mpr ⟨fun z hz => ?_, h⟩
      rcases List.mem_cons.mp hz with e | e
      · subst e; exact q
      · exact O.tr _ _ _ q (h1.1 z e)
theorem srt_srt {lt : α → α → Bool} (O : SrtO.Swo lt) : ∀ l : List α, SrtO.Srtd lt (srtL lt l)
  | [] => List.Pairwise.nil
  | x :: r => ins_srt O (srt_srt O r)
theorem ins_stb {lt : α → α → Bool} (O : SrtO.Swo lt) {x : α} : ∀ l : List α, SrtO.Stb lt (insL lt x l) (x :: l)
  | [] => SrtO.Stb.refl _
  | y :: r => by
    unfold insL
    split
    · rename_i q
      have h1 : SrtO.Stb lt ([y] ++ insL lt x r) ([y] ++ (x :: r)) := (SrtO.Stb.refl [y]).app (ins_stb O r)
      have h2 : SrtO.Stb lt (([y] ++ [x]) ++ r) (([x] ++ [y]) ++ r) := (SrtO.Stb.swap O fun a ha b hb => by
        have ea : a = y := by simpa using ha
        have eb : b = x := by simpa using hb
        rw [ea, eb]; exact q).app (SrtO.Stb.refl r)
      exact h1.trans h2
    · exact SrtO.Stb.refl _
theorem srt_stb {lt : α → α → Bool} (O : SrtO.Swo lt) : ∀ l : List α, SrtO.Stb lt (srtL lt l) l
  | [] => SrtO.Stb.refl _
  | x :: r => (ins_stb O (srtL lt r)).trans ((SrtO.Stb.refl [x]).app (srt_stb O r))
theorem ins_map {lt : α → α → Bool} {lt' : β → β → Bool} {f : α → β} {x : α} : ∀ {l : List α}, (∀ y ∈ l, lt y x = lt' (f y) (f x)) → (insL lt x l).map f = insL lt' (f x) (l.map f)
  | [], _ => rfl
  | y :: r, h => by
    rw [List.map_cons]
    unfold insL
    rw [← h y List.mem_cons_self]
    split
    · rw [List.map_cons, ins_map fun z hz => h z (List.mem_cons_of_mem _ hz)]
    · rfl
theorem srt_map {lt : α → α → Bool} {lt' : β → β → Bool} {f : α → β} : ∀ {l : List α}, (∀ y ∈ l, ∀ x ∈ l, lt y x = lt' (f y) (f x)) → (srtL lt l).map f = srtL lt' (l.map f)
  | [], _ => rfl
  | x :: r, h => by
    show (insL lt x (srtL lt r)).map f = insL lt' (f x) (srtL lt' (r.map f))
    rw [ins_map fun y hy => h y (List.mem_cons_of_mem _ (srt_mem hy)) x List.mem_cons_self, srt_map fun y hy z hz => h y (List.mem_cons_of_mem _ hy) z (List.mem_cons_of_mem _ hz)]
end
/-! ### keys -/
abbrev At := Int ⊕ List Nat
abbrev ltAs (a b : List At) : Bool := PyProof.Rows.lexLt PyProof.Rows.itemOrd a b
theorem swo_as : SrtO.Swo ltAs := by
  refine ⟨fun x y h => ?_, fun x y z h1 h2 => ?_⟩
  · cases q : ltAs y x with
    | false => rfl
    | true =>
      have z := PyProof.Rows.lex_trans (O := PyProof.Rows.itemOrd) x y x h q
      rw [PyProof.Rows.lex_irrefl] at z
      cases z
  · cases q : ltAs z x with
    | false => rfl
    | true =>
      rcases PyProof.Rows.lex_negTrans (O := PyProof.Rows.itemOrd) z y x q with e | e
      · rw [show ltAs z y = true from e] at h2; cases h2
      · rw [show ltAs y x = true from e] at h1; cases h1
theorem swo_on {α β : Type} {lt : β → β → Bool} (O : SrtO.Swo lt) (f : α → β) : SrtO.Swo fun x y => lt (f x) (f y) := ⟨fun x y => O.asym _ _, fun x y z => O.tr _ _ _⟩
def atomD : D → List At
  | .int i => [.inl i]
  | .str x => [.inr x.cps.toList]
  | _ => []
def keyD : D → List At
  | .tup ds => ds.flatMap atomD
  | d => atomD d
abbrev ltK (d e : D) : Bool := ltAs (keyD d) (keyD e)
def isIntD : D → Bool
  | .int _ => true
  | _ => false
def isStrD : D → Bool
  | .str _ => true
  | _ => false
/-- at some place a text stands -/
def shapeOf (ds : List D) (i : Nat) : Bool := ds.any fun d => match d with
  | .tup xs => match xs[i]? with
    | some (.str _) => true
    | _ => false
  | _ => false
def fits (sh : Nat → Bool) : Nat → List D → Bool
  | _, [] => true
  | i, .int _ :: r => !sh i && fits sh (i + 1) r
  | i, .str _ :: r => sh i && fits sh (i + 1) r
  | _, _ :: _ => false
def tupFits (sh : Nat → Bool) : D → Bool
  | .tup (x :: r) => fits sh 0 (x :: r)
  | _ => false
def sortable (ds : List D) : Bool := decide (ds.length < 2) || ds.all isIntD || ds.all isStrD || ds.all (tupFits (shapeOf ds))
def sortL (ds : List D) : List D := srtL ltK ds
def sortedD (xs : List D) : M D := fun μ => match xs with
  | [d] => match asQ μ d with
    | some ds => if sortable ds = true then .ok (.lst (sortL ds)) μ else .stuck
    | none => .stuck
  | _ => .stuck
theorem sortL_short {ds : List D} (h : ds.length < 2) : sortL ds = ds := by
  match ds, h with
  | [], _ => rfl
  | [x], _ => rfl
  | _ :: _ :: l, h => exact absurd h (by rw [List.length_cons, List.length_cons]; omega)
theorem stb_symm {α : Type} {lt : α → α → Bool} {l m : List α} (h : SrtO.Stb lt l m) : SrtO.Stb lt m l := ⟨h.perm.symm, fun x => (h.cls x).symm⟩
section
variable {W : Wd} {X : Cx}
theorem triples {m : Mem} : ∀ {ds : List D} {vs : List V} {us : List Value}, DenL W m ds vs → Vals vs us → ∃ T : List (D × V × Value), T.map (·.1) = ds ∧ T.map (·.2.1) = vs ∧ T.map (·.2.2) = us ∧ ∀ t ∈ T, Den W m t.1 t.2.1 ∧ RelV t.2.1 t.2.2
  | _, _, _, .nil, .nil => ⟨[], rfl, rfl, rfl, fun t h => nomatch h⟩
  | _, _, _, .cons (d := d) (v := v) h l, .cons (b := u) r rr => by
    obtain ⟨T, e1, e2, e3, q⟩ := triples l rr
    refine ⟨(d, v, u) :: T, by rw [List.map_cons, e1], by rw [List.map_cons, e2], by rw [List.map_cons, e3], fun t ht => ?_⟩
    rcases List.mem_cons.mp ht with rfl | ht
    · exact ⟨h, r⟩
    · exact q t ht
theorem denL_of {m : Mem} : ∀ {T : List (D × V × Value)}, (∀ t ∈ T, Den W m t.1 t.2.1 ∧ RelV t.2.1 t.2.2) → DenL W m (T.map (·.1)) (T.map (·.2.1)) ∧ Vals (T.map (·.2.1)) (T.map (·.2.2))
  | [], _ => ⟨.nil, .nil⟩
  | t :: T, h => by
    obtain ⟨h1, h2⟩ := denL_of (T := T) fun u hu => h u (List.mem_cons_of_mem _ hu)
    exact ⟨.cons (h t List.mem_cons_self).1 h1, .cons (h t List.mem_cons_self).2 h2⟩
/-! ### sum(xs) of ints -/
def intsOf : List D → Option (List Int)
  | [] => some []
  | .int b :: r => (intsOf r).map (b :: ·)
  | _ :: _ => none
theorem intsOf_map : ∀ {ds : List D} {bs : List Int}, intsOf ds = some bs → ds = bs.map D.int
  | [], bs, e => by simp [intsOf] at e; subst e; rfl
  | d :: ds, bs, e => by
    cases d with
    | int b =>
      cases q : intsOf ds with
      | none => simp [intsOf, q] at e
      | some r =>
        simp [intsOf, q] at e
        subst e
        rw [intsOf_map q]
        rfl
    | _ => simp [intsOf] at e
theorem intsOf_of : ∀ bs : List Int, intsOf (bs.map D.int) = some bs
  | [] => rfl
  | b :: r => by simp [intsOf, intsOf_of r]
def sumD (xs : List D) : M D := fun μ => match xs with
  | [d] => match (asQ μ d).bind intsOf with
    | some bs => .ok (.int bs.sum) μ
    | none => .stuck
  | _ => .stuck
theorem call_sumD (hK : X.K = W.K) (hc : X.calm = true) : CallR X (.builtin "sum") (RCof W sumD) := by
  intro pins s σ H xs us Q I r h
  obtain ⟨E, ds, m, rfl, g, l, q⟩ := h
  unfold sumD at q
  split at q
  · rename_i d
    obtain ⟨x, rfl, hd⟩ := dl1 l
    split at q
    · rename_i bs e
      cases q2 : asQ m.μ d with
      | none => rw [q2] at e; cases e
      | some ds =>
        rw [q2] at e
        obtain ⟨a, vs, rfl, h1, l1⟩ := asQ_den g hd q2
        have e2 := intsOf_map (show intsOf ds = some bs from e)
        subst e2
        rw [DenL.of_ints l1] at h1
        exact cr_sum hc pins s σ m.H _ us Q I r ⟨a, bs, rfl, by rw [hK]; exact h1, out.same q g (.int _)⟩
    · exact q.elim
  · exact q.elim
def kA : Value → List At
  | .int i _ => [.inl i]
  | .str x _ => [.inr x.cps.toList]
  | _ => []
theorem tupItems_of {m : Mem} {sh : Nat → Bool} : ∀ {xs : List D} {ws : List V} {its : List Value} {i : Nat}, DenL W m xs ws → Vals ws its → fits sh i xs = true → PyProof.Rows.tupItems sh i its = some (xs.flatMap atomD)
  | _, _, _, _, .nil, .nil, _ => rfl
  | _, _, _, i, .cons (d := d) h l, .cons r rr, f => by
    cases d with
    | int k =>
      cases h
      obtain ⟨t, rfl⟩ := r
      simp only [fits, Bool.and_eq_true, Bool.not_eq_true'] at f
      have ih := tupItems_of l rr f.2
      show (if sh i = true then none else (PyProof.Rows.tupItems sh (i + 1) _).map (Sum.inl k :: ·)) = _
      rw [if_neg (by rw [f.1]; exact Bool.false_ne_true), ih]
      rfl
    | str k =>
      cases h
      obtain ⟨t, rfl⟩ := r
      simp only [fits, Bool.and_eq_true] at f
      have ih := tupItems_of l rr f.2
      show (if sh i = true then (PyProof.Rows.tupItems sh (i + 1) _).map (Sum.inr k.cps.toList :: ·) else none) = _
      rw [if_pos f.1, ih]
      rfl
    | _ => simp [fits] at f
theorem lt1_int (a b : Int) : ltAs [.inl a] [.inl b] = decide (a < b) := by
  show (decide (a < b) || (!decide (b < a) && false)) = decide (a < b)
  simp
theorem lt1_str (a b : Str) : ltAs [.inr a.cps.toList] [.inr b.cps.toList] = decide (a.cps.toList < b.cps.toList) := by
  show (PyProof.Rows.strKind.blt a.cps.toList b.cps.toList || (!PyProof.Rows.strKind.blt b.cps.toList a.cps.toList && false)) = decide (a.cps.toList < b.cps.toList)
  rw [Bool.and_false, Bool.or_false]
theorem strs_are : ∀ {us : List Value}, (∀ u ∈ us, ∃ x t, u = Value.str x t) → ∃ ss, PyProof.Rows.StrsAre us ss
  | [], _ => ⟨[], .nil⟩
  | u :: us, h => by
    obtain ⟨ss, q⟩ := strs_are (us := us) fun v hv => h v (List.mem_cons_of_mem _ hv)
    obtain ⟨x, t, rfl⟩ := h u List.mem_cons_self
    exact ⟨_, .cons x t q⟩
theorem tups_of {h : Heap} {sh : Nat → Bool} : ∀ {us : List Value}, (∀ u ∈ us, ∃ f, PyProof.Rows.TupOf h sh u f) → ∃ fs, PyProof.Rows.TupsOf h sh us fs ∧ fs.length = us.length
  | [], _ => ⟨[], .nil, rfl⟩
  | u :: us, q => by
    obtain ⟨fs, h1, h2⟩ := tups_of (us := us) fun v hv => q v (List.mem_cons_of_mem _ hv)
    obtain ⟨f, hf⟩ := q u List.mem_cons_self
    exact ⟨f :: fs, .cons hf h1, by rw [List.length_cons, List.length_cons, h2]⟩
theorem call_sortedD (hK : X.K = W.K) : CallR X (.builtin "sorted") (RCof W sortedD) := by
  intro pins s σ H xs us Q I r h
  obtain ⟨E, ds0, m, rfl, g, l, q⟩ := h
  unfold sortedD at q
  split at q
  case h_2 => exact (show False from q).elim
  rename_i d
  obtain ⟨x, rfl, hd⟩ := dl1 l
  split at q
  case h_2 => exact (show False from q).elim
  rename_i ds e
  by_cases hs : sortable ds = true
  case neg => rw [if_neg hs] at q; exact (show False from q).elim
  rw [if_pos hs] at q
  obtain ⟨a, vs, rfl, h1, l1⟩ := asQ_den g hd e
  rw [← hK] at h1
  obtain ⟨its, rv, hl, hz⟩ := I.list h1
  rw [Vals.ref1 r]
  obtain ⟨T, e1, e2, e3, hT⟩ := triples l1 rv
  -- the end, once the order is told
  have fin : ∀ ltv : Value → Value → Bool, SrtO.Swo ltv → (∀ t ∈ T, ∀ t' ∈ T, ltv t.2.2 t'.2.2 = ltK t.1 t'.1) → (2 ≤ its.length → ∀ (h₁ : Heap) (a : Addr), h₁.get? a = some (PyProof.Rows.seqObj "list" its.toArray 0) → (∀ b o, s.heap.get? b = some o → b ≠ a ∧ h₁.get? b = some o) → SrtO.SortableO X.prog X.w X.A.in1.in1 { s with heap := h₁ } a its ltv) →
      wpAny (model X.prog X.w) X.A (call (.builtin "sorted") [.ref a]) (EP X pins σ Q) X.xe s := by
    intro ltv O hk hS
    refine SrtO.sorted_ord O hl.isList (by rw [← rv.length]; exact hz) hS fun ov k1 k2 => ?_
    let T' := srtL (fun t t' : D × V × Value => ltv t.2.2 t'.2.2) T
    have O' : SrtO.Swo (fun t t' : D × V × Value => ltv t.2.2 t'.2.2) := swo_on O (fun t : D × V × Value => t.2.2)
    have k3 : SrtO.Stb ltv (T'.map (·.2.2)) its := by
      rw [← e3]
      exact SrtO.Stb.map O (fun t : D × V × Value => t.2.2) (srt_stb O' T)
    have k4 : ov = T'.map (·.2.2) := SrtO.stb_uniq O k1 (SrtO.srtd_map (srt_srt O' T)) (k2.trans (stb_symm k3))
    have k5 : sortL ds = T'.map (·.1) := by
      rw [← e1]
      exact (srt_map hk).symm
    obtain ⟨k6, k7⟩ := denL_of (W := W) (m := m) (T := T') fun t ht => hT t (srt_mem ht)
    obtain ⟨ep, he'⟩ := PyProof.Rows.sortedAll_at s.heap its ov.toArray
    have hlen : (T'.map (·.2.1)).length ≤ sizeLine := by
      have z := k3.len
      rw [List.length_map] at z
      rw [List.length_map, z, ← rv.length]
      exact hz
    rw [k5] at q
    have hfr : m.H (s.heap.objs.size + 1) = none := I.hok.fresh (Nat.le_succ _)
    exact ⟨.ref _, upd m.H (s.heap.objs.size + 1) (.lst (T'.map (·.2.1))), I.laid (t' := s.toks) (fun _ _ => PyProof.Rows.sortedAll_old) (Nat.le_succ _) ⟨hlen, ov, ep, by rw [k4]; exact k7, he'⟩, rfl, q.lst g k6 hfr⟩
  have len : its.length = ds.length := by rw [← e3, ← e1, List.length_map, List.length_map]
  by_cases h2 : ds.length < 2
  · refine fin (fun u v => false) ⟨(fun _ _ z => rfl), (fun _ _ _ _ _ => rfl)⟩ (fun t ht t' ht' => ?_) fun z => absurd z (by omega)
    have hl2 : T.length < 2 := by rw [← e1, List.length_map] at h2; exact h2
    have : t = t' := by
      match T, hl2, ht, ht' with
      | [y], _, ht, ht' => rw [List.mem_singleton.mp ht, List.mem_singleton.mp ht']
      | _ :: _ :: _, hl2, _, _ => exact absurd hl2 (by rw [List.length_cons, List.length_cons]; omega)
    subst this
    exact (swo_as.refl (keyD t.1)).symm
  have hs' : ds.all isIntD = true ∨ ds.all isStrD = true ∨ ds.all (tupFits (shapeOf ds)) = true := by
    unfold sortable at hs
    rw [decide_eq_false h2] at hs
    simp only [Bool.false_or, Bool.or_eq_true] at hs
    rcases hs with (z | z) | z
    · exact .inl z
    · exact .inr (.inl z)
    · exact .inr (.inr z)
  have mem1 : ∀ t ∈ T, t.1 ∈ ds := fun t ht => by rw [← e1]; exact List.mem_map.mpr ⟨t, ht, rfl⟩
  have mem3 : ∀ u ∈ its, ∃ t ∈ T, t.2.2 = u := fun u hu => by rw [← e3] at hu; exact List.mem_map.mp hu
  rcases hs' with hi | hi | hi
  · have hv : ∀ t ∈ T, ∃ i k, t.1 = D.int i ∧ t.2.2 = Value.int i k := fun t ht => by
      have z := List.all_eq_true.mp hi _ (mem1 t ht)
      obtain ⟨z1, z2⟩ := hT t ht
      obtain ⟨d1, v1, u1⟩ := t
      cases d1 with
      | int i => cases z1; obtain ⟨k, rfl⟩ := z2; exact ⟨i, k, rfl, rfl⟩
      | _ => cases z
    refine fin (fun u v => ltAs (kA u) (kA v)) (swo_on swo_as kA) (fun t ht t' ht' => ?_) fun hz2 h₁ a' _ _ h' _ => ⟨PyProof.Rows.oneType', fun Q E hq => ?_, fun p p' hp hp' => ?_⟩
    · obtain ⟨i, k, z1, z2⟩ := hv t ht
      obtain ⟨i', k', z1', z2'⟩ := hv t' ht'
      rw [z1, z1', z2, z2']
      rfl
    · have hI := SrtO.ints_iv (vs := its) fun u hu => by
        obtain ⟨t, ht, rfl⟩ := mem3 u hu
        obtain ⟨i, k, _, z⟩ := hv t ht
        exact ⟨i, k, z⟩
      match its, hI, hz2 with
      | v1 :: v2 :: rest, hI, _ => rw [PyProof.Rows.keyKind_ints hI]; exact wpAny_pure hq
      | [], _, h => exact absurd h (by decide)
      | [v], _, h => exact absurd h (by simp)
    · obtain ⟨t, ht, z1⟩ := mem3 _ hp
      obtain ⟨t', ht', z1'⟩ := mem3 _ hp'
      obtain ⟨i, k, _, z⟩ := hv t ht
      obtain ⟨i', k', _, z'⟩ := hv t' ht'
      have y1 := z1.symm.trans z
      have y2 := z1'.symm.trans z'
      show wpAny (model X.prog X.w) X.A.in1.in1 (PyProof.Rows.keyLt' PyProof.Rows.oneType' p.1 p'.1) (fun r s' => s' = _ ∧ r = ltAs (kA p.1) (kA p'.1)) (fun _ _ => False) _
      rw [y1, y2, PyProof.Rows.keyLt'_oneType]
      exact PyProof.Rows.oneLt_int ⟨rfl, (lt1_int i i').symm⟩
  · have hv : ∀ t ∈ T, ∃ i k, t.1 = D.str i ∧ t.2.2 = Value.str i k := fun t ht => by
      have z := List.all_eq_true.mp hi _ (mem1 t ht)
      obtain ⟨z1, z2⟩ := hT t ht
      obtain ⟨d1, v1, u1⟩ := t
      cases d1 with
      | str i => cases z1; obtain ⟨k, rfl⟩ := z2; exact ⟨i, k, rfl, rfl⟩
      | _ => cases z
    refine fin (fun u v => ltAs (kA u) (kA v)) (swo_on swo_as kA) (fun t ht t' ht' => ?_) fun hz2 h₁ a' _ _ h' _ => ⟨PyProof.Rows.oneType', fun Q E hq => ?_, fun p p' hp hp' => ?_⟩
    · obtain ⟨i, k, z1, z2⟩ := hv t ht
      obtain ⟨i', k', z1', z2'⟩ := hv t' ht'
      rw [z1, z1', z2, z2']
      rfl
    · obtain ⟨ss, hI⟩ := strs_are (us := its) fun u hu => by
        obtain ⟨t, ht, rfl⟩ := mem3 u hu
        obtain ⟨i, k, _, z⟩ := hv t ht
        exact ⟨i, k, z⟩
      match its, hI, hz2 with
      | v1 :: v2 :: rest, hI, _ => rw [PyProof.Rows.keyKind_strs hI]; exact wpAny_pure hq
      | [], _, h => exact absurd h (by decide)
      | [v], _, h => exact absurd h (by simp)
    · obtain ⟨t, ht, z1⟩ := mem3 _ hp
      obtain ⟨t', ht', z1'⟩ := mem3 _ hp'
      obtain ⟨i, k, _, z⟩ := hv t ht
      obtain ⟨i', k', _, z'⟩ := hv t' ht'
      have y1 := z1.symm.trans z
      have y2 := z1'.symm.trans z'
      show wpAny (model X.prog X.w) X.A.in1.in1 (PyProof.Rows.keyLt' PyProof.Rows.oneType' p.1 p'.1) (fun r s' => s' = _ ∧ r = ltAs (kA p.1) (kA p'.1)) (fun _ _ => False) _
      rw [y1, y2, PyProof.Rows.keyLt'_oneType]
      exact PyProof.Rows.oneLt_str ⟨rfl, (lt1_str i i').symm⟩
  · generalize hsh : shapeOf ds = sh at hi
    have hv : ∀ t ∈ T, ∃ b o its' n, t.2.2 = Value.ref b ∧ s.heap.get? b = some o ∧ o.cls = .type "tuple" ∧ o.data = .seq (List.toArray its') n ∧ PyProof.Rows.tupItems sh 0 its' = some (keyD t.1) ∧ ∃ f, its'[0]? = some f ∧ (sh 0 = false → ∃ k t, f = .int k t) ∧ (sh 0 = true → ∃ x t, f = .str x t) := fun t ht => by
      have z := List.all_eq_true.mp hi _ (mem1 t ht)
      obtain ⟨z1, z2⟩ := hT t ht
      obtain ⟨d1, v1, u1⟩ := t
      cases d1 with
      | tup ys =>
        cases ys with
        | nil => cases z
        | cons y ys =>
          cases z1 with
          | @tup _ b ws hp lw =>
            cases (show u1 = Value.ref b from z2)
            have hsq : SqT X.K m.H b ws := by rw [hK]; exact hp.sq
            obtain ⟨its', rw', ⟨o, ho, hc, n, hdt⟩, _⟩ := I.tuple hsq
            have hti := tupItems_of lw rw' (show fits sh 0 (y :: ys) = true from z)
            refine ⟨b, o, its', n, rfl, ho, hc, hdt, hti, ?_⟩
            cases rw' with
            | nil => cases lw
            | @cons _ f _ us' rf rr =>
              refine ⟨f, rfl, ?_⟩
              cases lw with
              | cons hy ly =>
                cases y with
                | int k =>
                  cases hy
                  obtain ⟨tk, rfl⟩ := rf
                  simp only [tupFits, fits, Bool.and_eq_true, Bool.not_eq_true'] at z
                  exact ⟨fun _ => ⟨k, tk, rfl⟩, fun w => by rw [z.1] at w; cases w⟩
                | str k =>
                  cases hy
                  obtain ⟨tk, rfl⟩ := rf
                  simp only [tupFits, fits, Bool.and_eq_true] at z
                  exact ⟨(fun w => by rw [z.1] at w; cases w), fun _ => ⟨k, tk, rfl⟩⟩
                | _ => simp [tupFits, fits] at z
      | _ => cases z
    have key : ∀ {h : Heap}, (∀ b o, s.heap.get? b = some o → o.cls = .type "tuple" → h.get? b = some o) → ∀ t ∈ T, PyProof.Rows.tupKey h sh t.2.2 = some (keyD t.1) := fun {h} hk t ht => by
      obtain ⟨b, o, its', n, z, ho, hc, hdt, hti, _⟩ := hv t ht
      rw [z]
      show (match h.get? b with | some o => (match o.data with | .seq xs _ => PyProof.Rows.tupItems sh 0 xs.toList | _ => none) | none => none) = _
      rw [hk b o ho hc]
      simp only [hdt]
      exact hti
    refine fin (fun u v => ltAs ((PyProof.Rows.tupKey s.heap sh u).getD []) ((PyProof.Rows.tupKey s.heap sh v).getD [])) (swo_on swo_as fun u => (PyProof.Rows.tupKey s.heap sh u).getD []) (fun t ht t' ht' => ?_) fun hz2 h₁ a' ha' kk h' keep => ⟨PyProof.Rows.tuples' true, fun Q E hq => ?_, fun p p' hp hp' => ?_⟩
    · rw [key (fun _ _ z _ => z) t ht, key (fun _ _ z _ => z) t' ht']
      rfl
    · have kk' : ∀ b o, s.heap.get? b = some o → h'.get? b = some o := fun b o z => keep b o (kk b o z).1 (kk b o z).2
      obtain ⟨fs, hfs, hfl⟩ := tups_of (h := h') (sh := sh) (us := its) fun u hu => by
        obtain ⟨t, ht, rfl⟩ := mem3 u hu
        obtain ⟨b, o, its', n, z, ho, hc, hdt, hti, f, hf, hf1, hf2⟩ := hv t ht
        exact ⟨f, b, o, its'.toArray, n, z, kk' b o ho, hc, hdt, by simpa using hf, hf1, hf2⟩
      exact PyProof.Rows.tup_kind (s := { s with heap := h' }) (by omega) hfs hq
    · have kk' : ∀ b o, s.heap.get? b = some o → h'.get? b = some o := fun b o z => keep b o (kk b o z).1 (kk b o z).2
      obtain ⟨t, ht, z1⟩ := mem3 _ hp
      obtain ⟨t', ht', z1'⟩ := mem3 _ hp'
      show wpAny (model X.prog X.w) X.A.in1.in1 (PyProof.Rows.keyLt' (PyProof.Rows.tuples' true) p.1 p'.1) (fun r s' => s' = _ ∧ r = ltAs ((PyProof.Rows.tupKey s.heap sh p.1).getD []) ((PyProof.Rows.tupKey s.heap sh p'.1).getD [])) (fun _ _ => False) _
      rw [← z1, ← z1', key (fun _ _ z _ => z) t ht, key (fun _ _ z _ => z) t' ht']
      exact PyProof.Rows.tup_ltAt (s := { s with heap := h' }) true _ _ t.2.2 t'.2.2 (keyD t.1) (keyD t'.1) (key (fun b o z _ => kk' b o z) t ht) (key (fun b o z _ => kk' b o z) t' ht') ⟨rfl, rfl⟩
end
end Pu

set_option Elab.async false
set_option linter.all false
set_option maxRecDepth 100000
/-! Pu7: the den of expressions and statements. -/
namespace Pu
open PySem L2

structure Dn where
  e : Ctx → Expr → Sl → M D
  t : Ctx → Expr → Sl → M Bool
  s : Ctx → List Stmt → Sl → M Fl

/-! ### names -/
def Ctx.ix (G : Ctx) (x : Str) : Option Nat := if G.N[G.N.idxOf x]? = some x then some (G.N.idxOf x) else none
theorem Ctx.ix_at {G : Ctx} {x : Str} {i : Nat} (h : G.ix x = some i) : G.N[i]? = some x := by
  unfold Ctx.ix at h
  split at h
  · rename_i e; cases h; exact e
  · cases h
def visB (sc : Scope) (x : Str) : Bool := match sc.names.lookup x with
  | some .local => true
  | some .cell => true
  | some .free => true
  | _ => false
theorem visB_vis {sc : Scope} {x : Str} (h : visB sc x = true) : Vis sc x := by
  unfold visB at h
  split at h
  · rename_i e; exact .inl e
  · rename_i e; exact .inr (.inl e)
  · rename_i e; exact .inr (.inr e)
  · cases h
def okName (x : Str) : Bool := !(x == ("__debug__" : Str)) && !(x == ("__classdict__" : Str)) && !(x == ("__name__" : Str))
theorem okName_1 {x : Str} (h : okName x = true) : (x == ("__debug__" : Str)) = false := by
  unfold okName at h
  simp only [Bool.and_eq_true, Bool.not_eq_true'] at h
  exact h.1.1
theorem okName_2 {x : Str} (h : okName x = true) : (x == ("__classdict__" : Str)) = false := by
  unfold okName at h
  simp only [Bool.and_eq_true, Bool.not_eq_true'] at h
  exact h.1.2
theorem okName_3 {x : Str} (h : okName x = true) : x ≠ "__name__" := by
  unfold okName at h
  simp only [Bool.and_eq_true, Bool.not_eq_true'] at h
  exact fun e => by have := h.2; rw [e] at this; exact absurd this (by decide +kernel)
def glB (sc : Scope) (x : Str) : Bool := sc.names.lookup x == some .globalImplicit
def slot (i : Nat) (ρ : Sl) : M D := fun μ => match ρ[i]? with
  | some (some d) => .ok d μ
  | _ => .stuck
/-- a cell that changes no more becomes plain -/
def frzD (d : D) : M D := fun μ => match d with
  | .cell i => match μ[i]? with
    | some (.lst ds) => .ok (.lst ds) (μ.set i .dead)
    | _ => .stuck
  | d => .ok d μ
def tyOf (x : Str) : Option String :=
  if x = "int" then some "int" else if x = "bool" then some "bool" else if x = "str" then some "str" else if x = "tuple" then some "tuple" else if x = "list" then some "list" else if x = "dict" then some "dict" else none
theorem tyOf_boot {x : Str} {n : String} (h : tyOf x = some n) : bootBuiltins x = some (.type n) := by
  unfold tyOf at h
  repeat' split at h
  all_goals first
    | (rename_i e; subst e; cases h; decide +kernel)
    | (cases h)
    | skip
  all_goals (subst_vars; decide +kernel)
def nameD (G : Ctx) (x : Str) (pos : Pos) (ρ : Sl) : M D :=
  if okName x = true then
    if visB G.sc x = true then
      match G.ix x with
      | some i => if G.hint pos = 2 then (do let d ← slot i ρ; frzD d) else slot i ρ
      | none => stuck
    else if glB G.sc x = true then
      match G.glob x with
      | some d => yes d
      | none => match tyOf x with
        | some n => if G.isB x = true then yes (.ty n) else stuck
        | none => stuck
    else stuck
  else stuck
def constD : Const → M D
  | .none => yes .non
  | .bool b => yes (.bl b)
  | .int i => yes (.int i)
  | .str s => yes (.str s)
  | _ => stuck

/-! ### shapes -/
def noStar : List Expr → Bool
  | [] => true
  | .Starred _ _ :: _ => false
  | _ :: r => noStar r
theorem star_cons {e : Expr} {es : List Expr} {env : Env} (h : noStar (e :: es) = true) : starEach (e :: es) env = (false, eval e env) :: starEach es env ∧ noStar es = true := by
  cases e <;> first | exact ⟨rfl, h⟩ | cases h
theorem star_any {pos : Pos} {env : Env} : ∀ {es : List Expr}, noStar es = true → (backTo pos (starEach es env)).any (·.1) = false
  | [], _ => rfl
  | e :: es, h => by
    obtain ⟨h1, h2⟩ := star_cons (env := env) h
    rw [h1]
    have ih := star_any (pos := pos) (env := env) h2
    unfold backTo at ih ⊢
    first
      | (rw [List.map_cons, List.any_cons]; rw [ih]; rfl)
      | (simp only [List.any_cons, Bool.false_or] at ih ⊢; exact ih)
      | (simp at ih ⊢; exact ih)

/-! ### a new list; the pieces of a step -/
def newL (n : Nat) (ds : List D) : M D := fun μ => if ds.length ≤ sizeLine then (if n = 1 then .ok (.cell μ.length) (μ ++ [.lst ds]) else .ok (.lst ds) μ) else .stuck
def aD (r : Dn) (G : Ctx) : List Expr → Sl → M (List D)
  | [], _ => yes []
  | e :: es, ρ => do let d ← r.e G e ρ; let ds ← aD r G es ρ; yes (d :: ds)
def partD (r : Dn) (G : Ctx) : Option Expr → Sl → M (Option Int)
  | none, _ => yes none
  | some e, ρ => do
    let d ← r.e G e ρ
    fun μ => match d with
      | .int i => .ok (some i) μ
      | _ => .stuck
inductive Prim where
  | b (id : String) (p : List D → M D)
  | t (T : String) (p : List D → M D)
def primOf (G : Ctx) (x : Str) : Option Prim :=
  if x = "len" then some (.b "len" (lenO G)) else if x = "abs" then some (.b "abs" absD) else if x = "max" then some (.b "max" max2D) else if x = "min" then some (.b "min" min2D) else
  if x = "int" then some (.t "int" intD) else if x = "all" then some (.b "all" allD) else if x = "any" then some (.b "any" anyD) else if x = "isinstance" then some (.b "isinstance" (isiO G)) else
  if x = "list" then some (.t "list" listD) else if x = "tuple" then some (.t "tuple" tupleD) else if x = "repr" then some (.b "repr" reprD) else if x = "sorted" then some (.b "sorted" sortedD) else if x = "sum" then some (.b "sum" sumD) else if x = "str" then some (.t "str" (strO G)) else none
def callD (r : Dn) (G : Ctx) (f : Str) (es : List Expr) (ρ : Sl) : M D :=
  if okName f = true ∧ noStar es = true ∧ glB G.sc f = true ∧ G.hot = false then
    match G.fn f with
    | some (n, F) => do
      let ds ← aD r G es ρ
      if ds.length = n then F ds else stuck
    | none => match primOf G f with
      | some (.b _ p) => if G.isB f = true ∧ es ≠ [] then (do let ds ← aD r G es ρ; p ds) else stuck
      | some (.t _ p) => if G.isB f = true ∧ es ≠ [] then (do let ds ← aD r G es ρ; p ds) else stuck
      | none => stuck
  else stuck
/-- ''.join(xs) -/
def strsOf : List D → Option (List Str)
  | [] => some []
  | .str b :: r => (strsOf r).map (b :: ·)
  | _ :: _ => none
theorem strsOf_map : ∀ {ds : List D} {bs : List Str}, strsOf ds = some bs → ds = bs.map D.str
  | [], bs, e => by simp [strsOf] at e; subst e; rfl
  | d :: ds, bs, e => by
    cases d with
    | str b =>
      cases q : strsOf ds with
      | none => simp [strsOf, q] at e
      | some r =>
        simp [strsOf, q] at e
        subst e
        rw [strsOf_map q]
        rfl
    | _ => simp [strsOf] at e
theorem strsOf_of : ∀ bs : List Str, strsOf (bs.map D.str) = some bs
  | [] => rfl
  | b :: r => by simp [strsOf, strsOf_of r]
def isStr (a : D) : M Str := fun μ => match a with
  | .str z => .ok z μ
  | _ => .stuck
def joinD (z : Str) (x : D) : M D := fun μ => match (asS μ x).bind strsOf with
  | some ys => if (ys.map (·.length)).sum + ys.length * z.length ≤ 16777216 then .ok (.str (Txt.join z ys)) μ else .stuck
  | none => .stuck
/-- the base of an attribute that is no super() -/
def plainO : Expr → Bool
  | .Call (.Name _ _) [] [] _ => false
  | _ => true
theorem plainO_base {o : Expr} (h : plainO o = true) (m : Str) (env : Env) : attributeBase o m env (eval o env) = eval o env := by
  unfold attributeBase
  split
  · cases h
  · rfl
def methD (r : Dn) (G : Ctx) (o : Expr) (m : Str) (es : List Expr) (ok : Bool) (ρ : Sl) : M D :=
  if plainO o = true ∧ noStar es = true ∧ ok = true ∧ G.hot = false then
    match es with
    | [e] => if m = "join" then (do let x ← r.e G o ρ; let z ← isStr x; let y ← r.e G e ρ; joinD z y) else stuck
    | _ => stuck
  else stuck

/-! ### what is walked -/
def rangeL (lo : Int) (n : Nat) : List D := (List.range n).map fun (i : Nat) => .int (lo + i)
def signsL (z : Str) : List D := z.cps.toList.map fun c => .str ⟨#[c]⟩
def itemsD (d : D) : M (List D) := fun μ => match d with
  | .str z => .ok (signsL z) μ
  | .tup ds => .ok ds μ
  | .lst ds => .ok ds μ
  | .frz ds => .ok ds μ
  | .dic kvs => .ok (keysD kvs) μ
  | _ => .stuck
inductive IShape where
  | rng1 (a : Expr) | rng2 (a b : Expr) | zip (a b : Expr) | other
def ishape : Expr → Expr → IShape
  | _, .Call (.Name x _) [a] [] _ => if x = "range" then .rng1 a else .other
  | .Tuple _ _ _, .Call (.Name x _) [a, b] [] _ => if x = "range" then .rng2 a b else if x = "zip" then .zip a b else .other
  | _, .Call (.Name x _) [a, b] [] _ => if x = "range" then .rng2 a b else .other
  | _, _ => .other
def zipD (x y : D) : M (List D) := fun μ => match x, y with
  | .str a, .str b => .ok (List.zipWith (fun p q => .tup [p, q]) (signsL a) (signsL b)) μ
  | .tup a, .tup b => .ok (List.zipWith (fun p q => .tup [p, q]) a b) μ
  | .lst a, .lst b => .ok (List.zipWith (fun p q => .tup [p, q]) a b) μ
  | _, _ => .stuck
def iD (r : Dn) (G : Ctx) (tg iter : Expr) (ρ : Sl) : M (List D) :=
  match ishape tg iter with
  | .rng1 a => if glB G.sc "range" = true ∧ G.isB "range" = true ∧ noStar [a] = true then (do
      let d ← r.e G a ρ
      fun μ => match d with
        | .int j => if -(2 ^ 62) ≤ j ∧ j < 2 ^ 62 then .ok (rangeL 0 j.toNat) μ else .stuck
        | _ => .stuck) else stuck
  | .rng2 a b => if glB G.sc "range" = true ∧ G.isB "range" = true ∧ noStar [a, b] = true then (do
      let d ← r.e G a ρ
      let e ← r.e G b ρ
      fun μ => match d, e with
        | .int i, .int j => if -(2 ^ 62) ≤ i ∧ i < 2 ^ 62 ∧ -(2 ^ 62) ≤ j ∧ j < 2 ^ 62 then .ok (rangeL i (j - i).toNat) μ else .stuck
        | _, _ => .stuck) else stuck
  | .zip a b => if glB G.sc "zip" = true ∧ G.isB "zip" = true ∧ noStar [a, b] = true then (do
      let d ← r.e G a ρ
      let e ← r.e G b ρ
      zipD d e) else stuck
  | .other => do
    let d ← r.e G iter ρ
    itemsD d

/-! ### targets: names and tuples of names -/
def gN (G : Ctx) (x : Str) (d : D) (ρ : Sl) : Option Sl := match G.ix x with
  | some i => if G.sc.names.lookup x = some .local ∨ (G.sc.names.lookup x = some .cell ∧ G.own x = true) then some (ρ.set i (some d)) else none
  | none => none
def gNs (G : Ctx) : List Expr → List D → Sl → Option Sl
  | [], [], ρ => some ρ
  | .Name x _ :: es, d :: ds, ρ => (gN G x d ρ).bind fun ρ' => gNs G es ds ρ'
  | _, _, _ => none
def gD (G : Ctx) : Expr → D → Sl → Option Sl
  | .Name x _, d, ρ => gN G x d ρ
  | .Tuple es _ _, .tup ds, ρ => gNs G es ds ρ
  | _, _, _ => none
def nslot (G : Ctx) : Expr → Nat
  | .Name x _ => G.N.idxOf x
  | _ => 0
def gslots (G : Ctx) : Expr → List Nat
  | .Name x _ => [G.N.idxOf x]
  | .Tuple es _ _ => es.map (nslot G)
  | _ => []

/-! ### comprehensions -/
def ownOf (N : List Str) (sc : Scope) : List (Str × Nat) := sc.names.filterMap fun (x, k) => if (k == .local || k == .cell) = true ∧ N[N.idxOf x]? = some x then some (x, N.idxOf x) else none
def testsD (r : Dn) (G : Ctx) : List Expr → Sl → M Bool
  | [], _ => yes true
  | [c], ρ => r.t G c ρ
  | _, _ => stuck
def compL (f : D → M (Option D)) : List D → List D → M (List D)
  | [], acc => yes acc
  | d :: ds, acc => do
    let y ← f d
    match y with
    | some z => if acc.length < sizeLine then compL f ds (acc ++ [z]) else stuck
    | none => compL f ds acc
def turnD (r : Dn) (G : Ctx) (elt tg : Expr) (ifs : List Expr) (ρ : Sl) (d : D) : M (Option D) := match gD G tg d ρ with
  | some ρ' => do
    let b ← testsD r G ifs ρ'
    if b then (do let y ← r.e G elt ρ'; yes (some y)) else yes none
  | none => stuck
def fixL (n : Nat) (ds : List D) : M D := fun μ => if n = 1 then .ok (.cell μ.length) (μ ++ [.lst ds]) else .ok (.lst ds) μ
def notSet : Expr → Bool
  | .Set _ _ _ => false
  | _ => true
/-- the context of a comprehension's block -/
def blkG (G : Ctx) (sc : Scope) : Ctx := { G with sc := relS sc G.sc, own := fun x => sc.names.lookup x == some .cell }
def compD (r : Dn) (G : Ctx) (elt tg iter : Expr) (ifs : List Expr) (sc : Scope) (pos : Pos) (ρ : Sl) : M D :=
  if G.hot = false ∧ blkC G.N G.sc sc (ownOf G.N sc) = true ∧ (∀ i ∈ gslots G tg, i ∈ (ownOf G.N sc).map (·.2)) ∧ notSet iter = true then (do
    let ds ← iD r G tg iter ρ
    let ys ← noX (compL (turnD r (blkG G sc) elt tg ifs (wipeL ρ ((ownOf G.N sc).map (·.2)))) ds [])
    fixL (G.hint pos) ys) else stuck

/-! ### a display of a dict -/
def keyOf : D → Option Key
  | .int i => some (.inl i)
  | .str x => some (.inr x)
  | _ => none
def pairsD (r : Dn) (G : Ctx) : List (Option Expr) → List Expr → Sl → M (List (Key × D))
  | [], [], _ => yes []
  | some k :: ks, v :: vs, ρ => do
    let x ← r.e G k ρ
    let y ← r.e G v ρ
    let l ← pairsD r G ks vs ρ
    fun μ => match keyOf x with
      | some q => .ok ((q, y) :: l) μ
      | none => .stuck
  | _, _, _ => stuck
def putD (kvs : List (Key × D)) (k : Key) (v : D) : List (Key × D) :=
  if (kvs.any fun kv => decide (kv.1 = k)) = true then kvs.map (fun kv => if kv.1 = k then (kv.1, v) else kv) else kvs ++ [(k, v)]
def mergeD (kvs more : List (Key × D)) : List (Key × D) := more.foldl (fun acc kv => putD acc kv.1 kv.2) kvs
def dispE (r : Dn) (G : Ctx) (ks : List (Option Expr)) (vs : List Expr) (ρ : Sl) : M D :=
  if ks.all (·.isSome) = true ∧ ks.length = vs.length ∧ ks.length ≤ 15 then (do let l ← noX (pairsD r G ks vs ρ); yes (.dic (mergeD [] l))) else stuck
/-! ### one step of an expression -/
def isSlice : Expr → Bool
  | .Slice _ _ _ _ => true
  | _ => false
def notD (d : D) : M D := do
  let b ← truthD d
  yes (.bl (!b))
def chainD (G : Ctx) (op op' : CmpOp) (x y : D) (c : M D) : M D := do
  let z ← cmpO G op x y
  match z with
  | .bl true => do let w ← c; cmpO G op' y w
  | .bl false => yes (.bl false)
  | _ => stuck
def cmpE (r : Dn) (G : Ctx) (a : Expr) (ops : List CmpOp) (cs : List Expr) (ρ : Sl) : M D := match ops, cs with
  | [op], [b] => if notSet b = true then (do let x ← r.e G a ρ; let y ← r.e G b ρ; cmpO G op x y) else stuck
  | [op, op'], [b, c] => if notSet c = true then (do let x ← r.e G a ρ; let y ← r.e G b ρ; chainD G op op' x y (r.e G c ρ)) else stuck
  | _, _ => stuck
def boolE (r : Dn) (G : Ctx) (op : BoolOp) (vs : List Expr) (pos : Pos) (ρ : Sl) : M D := match vs with
  | [] => stuck
  | [a] => r.e G a ρ
  | a :: b :: rest => do
    let x ← r.e G a ρ
    let k ← truthD x
    match op, k with
    | .And, true => r.e G (.BoolOp .And (b :: rest) pos) ρ
    | .And, false => yes x
    | .Or, true => yes x
    | .Or, false => r.e G (.BoolOp .Or (b :: rest) pos) ρ
def tupL (ds : List D) : M D := fun μ => if ds.length ≤ sizeLine then .ok (.tup ds) μ else .stuck
def tupE (r : Dn) (G : Ctx) (es : List Expr) (ρ : Sl) : M D := if noStar es = true then (do let ds ← aD r G es ρ; tupL ds) else stuck
def lstE (r : Dn) (G : Ctx) (es : List Expr) (pos : Pos) (ρ : Sl) : M D := if noStar es = true then (do let ds ← aD r G es ρ; newL (G.hint pos) ds) else stuck
def subE (r : Dn) (G : Ctx) (a b : Expr) (ρ : Sl) : M D := match b with
  | .Slice lo hi none _ => do let x ← r.e G a ρ; let l ← partD r G lo ρ; let h ← partD r G hi ρ; slD x l h
  | .Slice _ _ (some _) _ => stuck
  | b => do let x ← r.e G a ρ; let y ← r.e G b ρ; ixD x y
def lcE (r : Dn) (G : Ctx) (elt : Expr) (gs : List Comprehension) (sc : Scope) (pos : Pos) (ρ : Sl) : M D := match gs with
  | [c] => if c.is_async = 0 then compD r G elt c.target c.iter c.ifs sc pos ρ else stuck
  | _ => stuck
def cllE (r : Dn) (G : Ctx) (f : Expr) (es : List Expr) (kws : List Keyword) (pos : Pos) (ρ : Sl) : M D := match kws with
  | [] => match f with
    | .Name x _ => callD r G x es ρ
    | .Attribute o m ap => methD r G o m es (ap.endLine == pos.line) ρ
    | _ => stuck
  | _ :: _ => stuck
def unE (r : Dn) (G : Ctx) (op : UnaryOp) (a : Expr) (ρ : Sl) : M D := match op with
  | .USub => do let x ← r.e G a ρ; negD x
  | .Not => do let x ← r.e G a ρ; notD x
  | _ => stuck
def ifE (r : Dn) (G : Ctx) (c a b : Expr) (ρ : Sl) : M D := do
  let k ← r.t G c ρ
  match k with
  | true => r.e G a ρ
  | false => r.e G b ρ
def stepE (r : Dn) (G : Ctx) (e : Expr) (ρ : Sl) : M D := match e with
  | .Constant c _ _ => constD c
  | .Name x pos => nameD G x pos ρ
  | .BinOp a op b _ => do let x ← r.e G a ρ; let y ← r.e G b ρ; binD op x y
  | .UnaryOp op a _ => unE r G op a ρ
  | .BoolOp op vs pos => boolE r G op vs pos ρ
  | .Compare a ops cs _ => cmpE r G a ops cs ρ
  | .IfExp c a b _ => ifE r G c a b ρ
  | .Tuple es _ _ => tupE r G es ρ
  | .List es pos => lstE r G es pos ρ
  | .Subscript a b _ => subE r G a b ρ
  | .Call f es kws pos => cllE r G f es kws pos ρ
  | .ListComp elt gs sc pos => lcE r G elt gs sc pos ρ
  | .Dict ks vs _ => dispE r G ks vs ρ
  | _ => stuck
/-! ### one step of a test -/
def tplain : Expr → Bool
  | .UnaryOp .Not _ _ => false
  | .BoolOp _ _ _ => false
  | .IfExp _ _ _ _ => false
  | .Compare _ _ _ _ => false
  | _ => true
def asB (d : D) : M Bool := fun μ => match d with
  | .bl b => .ok b μ
  | _ => .stuck
def notT (r : Dn) (G : Ctx) (op : UnaryOp) (a : Expr) (pos : Pos) (ρ : Sl) : M Bool := match op with
  | .Not => do let b ← r.t G a ρ; yes (!b)
  | op => do let x ← r.e G (.UnaryOp op a pos) ρ; truthD x
def boolT (r : Dn) (G : Ctx) (op : BoolOp) (vs : List Expr) (pos : Pos) (ρ : Sl) : M Bool := match vs with
  | [] => stuck
  | [a] => r.t G a ρ
  | a :: b :: rest => do
    let k ← r.t G a ρ
    match op, k with
    | .And, true => r.t G (.BoolOp .And (b :: rest) pos) ρ
    | .And, false => yes false
    | .Or, true => yes true
    | .Or, false => r.t G (.BoolOp .Or (b :: rest) pos) ρ
def cmpT (r : Dn) (G : Ctx) (a : Expr) (ops : List CmpOp) (cs : List Expr) (ρ : Sl) : M Bool := do
  let z ← cmpE r G a ops cs ρ
  asB z
def stepT (r : Dn) (G : Ctx) (e : Expr) (ρ : Sl) : M Bool := match e with
  | .UnaryOp op a pos => notT r G op a pos ρ
  | .BoolOp op vs pos => boolT r G op vs pos ρ
  | .Compare a ops cs _ => cmpT r G a ops cs ρ
  | .IfExp _ _ _ _ => stuck
  | e => do let x ← r.e G e ρ; truthD x
end Pu

set_option Elab.async false
set_option linter.all false
set_option maxRecDepth 100000
/-! Pu8: the steps of expressions and tests are kept by the model. -/
namespace Pu
open PySem L2

structure EnOk (W : Wd) (r : Dn) : Prop where
  e : ∀ {X : Cx} {Z : WX} {G : Ctx}, EOk W X Z G → ∀ ex : Expr, PE X ex (TEof W Z (r.e G ex))
  t : ∀ {X : Cx} {Z : WX} {G : Ctx}, EOk W X Z G → ∀ ex : Expr, PT X ex (TTof W Z (r.t G ex))

section
variable {W : Wd} {Z : WX} {X : Cx} {G : Ctx} {σ : St} {H : Hp} {Q : VK}
theorem te_none {f : Sl → M D} (e : ∀ ρ, f ρ = stuck) : ∀ {σ H Q}, TEof W Z f σ H Q → False := fun ⟨ρ, m, _, _, _, w⟩ => by rw [e] at w; exact w
theorem te_op {fa fb : Sl → M D} {p : D → D → M D} (h : TEof W Z (fun ρ => do let x ← fa ρ; let y ← fb ρ; p x y) σ H Q) : tOp (R2of W p) (TEof W Z fa) (TEof W Z fb) σ H Q := by
  obtain ⟨ρ, m, e, g, r, w⟩ := h
  refine ⟨ρ, m, e, g, r, (wpR_bind w).mono (fun _ _ _ _ z => z) fun x m1 s1 g1 w1 v hv => ?_⟩
  refine ⟨ρ, m1, rfl, g1, r.mono s1, (wpR_bind w1).mono (fun _ _ _ _ z => z) fun y m2 s2 g2 w2 u hu => ?_⟩
  exact ⟨_, x, y, m2, rfl, g2, hv.mono s2, hu, w2⟩
theorem te_un {fa : Sl → M D} {p : D → M D} (h : TEof W Z (fun ρ => do let x ← fa ρ; p x) σ H Q) : tUn (R1of W p) (TEof W Z fa) σ H Q := by
  obtain ⟨ρ, m, e, g, r, w⟩ := h
  refine ⟨ρ, m, e, g, r, (wpR_bind w).mono (fun _ _ _ _ z => z) fun x m1 s1 g1 w1 v hv => ?_⟩
  exact ⟨_, x, m1, rfl, g1, hv, w1⟩
/-- behind a first value -/
theorem te_bind {fa : Sl → M D} {f : D → Sl → M D} (h : TEof W Z (fun ρ => do let x ← fa ρ; f x ρ) σ H Q) :
    TEof W Z fa σ H fun v H1 => ∃ ρ m d, m.H = H1 ∧ Okm W m ∧ EnvOk W m ρ σ ∧ Den W m d v ∧ wpR W m (EWish W Z σ) (fun d m' => ∀ v, Den W m' d v → Q v m'.H) (f d ρ m.μ) := by
  obtain ⟨ρ, m, e, g, r, w⟩ := h
  exact ⟨ρ, m, e, g, r, (wpR_bind w).mono (fun _ _ _ _ z => z) fun x m1 s1 g1 w1 v hv => ⟨ρ, m1, x, rfl, g1, r.mono s1, hv, w1⟩⟩
/-- truth, then one of two ways -/
theorem te_truth {m : Mem} {d : D} {v : V} {K : PySem.W.Frag} (hK : K = W.K) {f : Bool → M D} (g : Okm W m) (hv : Den W m d v) (w : wpR W m (EWish W Z σ) (fun d m' => ∀ v, Den W m' d v → Q v m'.H) ((do let k ← truthD d; f k) m.μ)) :
    ∃ k, TruV K v m.H k ∧ wpR W m (EWish W Z σ) (fun d m' => ∀ v, Den W m' d v → Q v m'.H) (f k m.μ) := by
  have w' : wpR W m (EWish W Z σ) (fun d m' => ∀ v, Den W m' d v → Q v m'.H) (M.bind (truthD d) f m.μ) := w
  unfold M.bind at w'
  cases e : truthD d m.μ with
  | ok k μ' =>
    rw [e] at w'
    obtain ⟨rfl, h2⟩ := truth_den g hv e
    exact ⟨k, by rw [hK]; exact h2, w'⟩
  | exc x μ' =>
    exfalso
    unfold truthD at e
    repeat' split at e
    all_goals cases e
  | stuck => rw [e] at w'; exact w'.elim

/-! ### names, constants -/
theorem pe_const (ok : EOk W X Z G) (c : Const) (k : Nat) (pos : Pos) : PE X (.Constant c k pos) (TEof W Z (fun _ => constD c)) := by
  cases c with
  | none => exact PE.weak pe_non fun σ H Q ⟨ρ, m, e, g, r, w⟩ => e ▸ out.same (d := .non) (E := EWish W Z σ) w g .non
  | bool b => exact PE.weak pe_bl fun σ H Q ⟨ρ, m, e, g, r, w⟩ => e ▸ out.same (d := .bl b) (E := EWish W Z σ) w g (.bl b)
  | int b => exact PE.weak pe_int fun σ H Q ⟨ρ, m, e, g, r, w⟩ => e ▸ out.same (d := .int b) (E := EWish W Z σ) w g (.int b)
  | str b => exact PE.weak pe_str fun σ H Q ⟨ρ, m, e, g, r, w⟩ => e ▸ out.same (d := .str b) (E := EWish W Z σ) w g (.str b)
  | _ => exact PE.weak PE.any fun σ H Q h => (te_none (f := fun _ => stuck) (fun _ => rfl) h).elim
theorem slot_get {m : Mem} {ρ : Sl} {i : Nat} {E : Ex → Mem → Prop} {P : D → Mem → Prop} (g : Okm W m) (r : EnvOk W m ρ σ) (w : wpR W m E P (slot i ρ m.μ)) : ∃ d v, σ[i]? = some (some v) ∧ Den W m d v ∧ ρ[i]? = some (some d) ∧ P d m := by
  have w' : wpR W m E P (match ρ[i]? with
    | some (some d) => .ok d m.μ
    | _ => .stuck) := w
  clear w
  split at w'
  · rename_i d e
    have w := w'
    obtain ⟨v, h1, h2⟩ := r.get i d e
    exact ⟨d, v, h1, h2, e, w m (Step.refl m) g rfl⟩
  · exact w'.elim
theorem frz_out {m : Mem} {d : D} {v : V} {E : Ex → Mem → Prop} (g : Okm W m) (hv : Den W m d v) (w : out W m E Q (frzD d m.μ)) : Q v m.H := by
  cases d with
  | cell i =>
    cases hv with
    | @cell _ a h1 =>
      have w' : out W m E Q (match m.μ[i]? with
        | some (.lst ds) => .ok (.lst ds) (m.μ.set i .dead)
        | _ => .stuck) := w
      split at w'
      · rename_i ds e
        obtain ⟨vs, h2, h3⟩ := g.ok i _ a e h1
        exact w' (m.die i) step_die (good_die g) rfl _ (.lst h2 (die_live g h1) (h3.mono step_die))
      · exact w'.elim
  | _ => exact out.same (W := W) (E := E) w g hv
theorem pe_name (ok : EOk W X Z G) (x : Str) (pos : Pos) : PE X (.Name x pos) (TEof W Z (nameD G x pos)) := by
  by_cases h1 : okName x = true
  · by_cases h2 : visB G.sc x = true
    · cases h3 : G.ix x with
      | none =>
        refine PE.weak PE.any fun σ H Q h => te_none (f := nameD G x pos) (fun ρ => ?_) h
        unfold nameD
        rw [if_pos h1, if_pos h2, h3]
      | some i =>
        refine PE.weak (pe_var (i := i) (by rw [ok.N]; exact Ctx.ix_at h3) (by rw [ok.sc]; exact visB_vis h2) (okName_1 h1) (okName_2 h1)) ?_
        rintro σ H Q ⟨ρ, m, e, g, r, w⟩
        subst e
        unfold nameD at w
        rw [if_pos h1, if_pos h2, h3] at w
        simp only at w
        split at w
        · obtain ⟨d, v, e1, e2, e3, w2⟩ := slot_get g r (wpR_bind w)
          exact ⟨v, e1, frz_out (E := EWish W Z σ) g e2 w2⟩
        · obtain ⟨d, v, e1, e2, e3, w2⟩ := slot_get g r w
          exact ⟨v, e1, w2 v e2⟩
    · by_cases h4 : glB G.sc x = true
      · have hg : Gl X x := by
          show X.env.kindOf x = some .globalImplicit
          have e := beq_iff_eq.mp h4
          rw [← ok.sc] at e
          exact e
        cases h5 : G.glob x with
        | some d =>
          obtain ⟨u, v, e1, e2, e3⟩ := ok.g.glob x d h5
          refine PE.weak (pe_glob hg e1 e2 (okName_1 h1)) ?_
          rintro σ H Q ⟨ρ, m, e, g, r, w⟩
          subst e
          unfold nameD at w
          rw [if_pos h1, if_neg h2, if_pos h4, h5] at w
          exact out.same (E := EWish W Z σ) (d := d) w g (e3 m)
        | none =>
          cases h6 : tyOf x with
          | none =>
            refine PE.weak PE.any fun σ H Q h => te_none (f := nameD G x pos) (fun ρ => ?_) h
            unfold nameD
            rw [if_pos h1, if_neg h2, if_pos h4, h5, h6]
          | some n =>
            by_cases h7 : G.isB x = true
            · refine PE.weak (pe_bltn (v := .ty n) hg (ok.g.bl x h7) (tyOf_boot h6) rfl (okName_3 h1) (okName_1 h1)) ?_
              rintro σ H Q ⟨ρ, m, e, g, r, w⟩
              subst e
              unfold nameD at w
              rw [if_pos h1, if_neg h2, if_pos h4, h5, h6] at w
              simp only at w
              rw [if_pos h7] at w
              exact out.same (E := EWish W Z σ) (d := .ty n) w g (.ty n)
            · refine PE.weak PE.any fun σ H Q h => te_none (f := nameD G x pos) (fun ρ => ?_) h
              unfold nameD
              rw [if_pos h1, if_neg h2, if_pos h4, h5, h6]
              simp only
              rw [if_neg h7]
      · refine PE.weak PE.any fun σ H Q h => te_none (f := nameD G x pos) (fun ρ => ?_) h
        unfold nameD
        rw [if_pos h1, if_neg h2, if_neg h4]
  · refine PE.weak PE.any fun σ H Q h => te_none (f := nameD G x pos) (fun ρ => ?_) h
    unfold nameD
    rw [if_neg h1]

/-! ### arguments -/
variable {r : Dn}
theorem pa_D (R : EnOk W r) (ok : EOk W X Z G) : ∀ {es : List Expr}, noStar es = true → PA X es (TAof W Z (aD r G es))
  | [], _ => PA.weak pa_nil fun σ H Q ⟨ρ, m, e, g, rr, w⟩ => e ▸ w m (Step.refl m) g rfl [] .nil
  | e :: es, h => by
    obtain ⟨h1, h2⟩ := star_cons (env := X.env) h
    refine PA.weak (pa_cons (R.e ok e) (pa_D R ok h2) h1) ?_
    rintro σ H Q ⟨ρ, m, ee, g, rr, w⟩
    refine ⟨ρ, m, ee, g, rr, (wpR_bind w).mono (fun _ _ _ _ z => z) fun x m1 s1 g1 w1 v hv => ?_⟩
    refine ⟨ρ, m1, rfl, g1, rr.mono s1, (wpR_bind w1).mono (fun _ _ _ _ z => z) fun xs m2 s2 g2 w2 vs hvs => ?_⟩
    exact w2 m2 (Step.refl m2) g2 rfl _ (.cons (hv.mono s2) hvs)
theorem ta_bind {fa : Sl → M (List D)} {f : List D → Sl → M D} (h : TEof W Z (fun ρ => do let x ← fa ρ; f x ρ) σ H Q) :
    TAof W Z fa σ H fun vs H1 => ∃ ρ m ds, m.H = H1 ∧ Okm W m ∧ EnvOk W m ρ σ ∧ DenL W m ds vs ∧ wpR W m (EWish W Z σ) (fun d m' => ∀ v, Den W m' d v → Q v m'.H) (f ds ρ m.μ) := by
  obtain ⟨ρ, m, e, g, r, w⟩ := h
  exact ⟨ρ, m, e, g, r, (wpR_bind w).mono (fun _ _ _ _ z => z) fun x m1 s1 g1 w1 v hv => ⟨ρ, m1, x, rfl, g1, r.mono s1, hv, w1⟩⟩
theorem DenL.lenEq {m : Mem} {ds : List D} {vs : List V} (l : DenL W m ds vs) : vs.length = ds.length := l.length.symm
theorem pe_tupD (R : EnOk W r) (ok : EOk W X Z G) {es : List Expr} {k : Nat} {pos : Pos} (h : noStar es = true) :
    PE X (.Tuple es k pos) (TEof W Z fun ρ => do let ds ← aD r G es ρ; tupL ds) := by
  refine PE.weak (pe_tup (pa_D R ok h)) fun σ H Q h => ?_
  obtain ⟨ρ, m, e, g, rr, w⟩ := ta_bind h
  refine ⟨ρ, m, e, g, rr, w.mono (fun _ _ _ _ z => z) fun xs m1 s1 g1 w1 vs hvs => ?_⟩
  obtain ⟨ρ2, m2, ds, e2, g2, r2, l2, w2⟩ := w1 vs hvs
  unfold tupL at w2
  split at w2
  · rename_i hz
    refine ⟨by rw [l2.lenEq]; exact hz, fun p hp => ?_⟩
    rw [← e2] at hp ⊢
    exact out.tup (E := EWish W Z σ) w2 g2 l2 hp
  · exact w2.elim
theorem newL_out {m : Mem} {ds : List D} {vs : List V} {n : Nat} {E : Ex → Mem → Prop} (g : Okm W m) (l : DenL W m ds vs) (w : out W m E Q (newL n ds m.μ)) : vs.length ≤ sizeLine ∧ ∀ p, m.H p = none → Q (.ref p) (upd m.H p (.lst vs)) := by
  unfold newL at w
  split at w
  · rename_i hz
    refine ⟨by rw [l.lenEq]; exact hz, fun p hp => ?_⟩
    split at w
    · exact out.cel w g l hp
    · exact out.lst w g l hp
  · exact w.elim
theorem pe_lstD (R : EnOk W r) (ok : EOk W X Z G) {es : List Expr} {n : Nat} {pos : Pos} (h : noStar es = true) :
    PE X (.List es pos) (TEof W Z fun ρ => do let ds ← aD r G es ρ; newL n ds) := by
  refine PE.weak (pe_lst (pa_D R ok h)) fun σ H Q h => ?_
  obtain ⟨ρ, m, e, g, rr, w⟩ := ta_bind h
  refine ⟨ρ, m, e, g, rr, w.mono (fun _ _ _ _ z => z) fun xs m1 s1 g1 w1 vs hvs => ?_⟩
  obtain ⟨ρ2, m2, ds, e2, g2, r2, l2, w2⟩ := w1 vs hvs
  obtain ⟨h1, h2⟩ := newL_out (E := EWish W Z σ) g2 l2 w2
  exact ⟨h1, fun p hp => by rw [← e2] at hp ⊢; exact h2 p hp⟩
/-! ### calls -/
theorem prim_b (ok : EOk W X Z G) (h4 : G.hot = false) {x : Str} {id : String} {p : List D → M D} (h : primOf G x = some (.b id p)) : bootBuiltins x = some (.builtin id) ∧ CallR X (.builtin id) (RCof W p) := by
  have hc := ok.calm h4
  unfold primOf at h
  by_cases e : x = "len"
  · rw [if_pos e] at h; cases h; subst e; exact ⟨by decide +kernel, call_lenO ok h4⟩
  rw [if_neg e] at h; clear e
  by_cases e : x = "abs"
  · rw [if_pos e] at h; cases h; subst e; exact ⟨by decide +kernel, call_absD⟩
  rw [if_neg e] at h; clear e
  by_cases e : x = "max"
  · rw [if_pos e] at h; cases h; subst e; exact ⟨by decide +kernel, call_max2D hc⟩
  rw [if_neg e] at h; clear e
  by_cases e : x = "min"
  · rw [if_pos e] at h; cases h; subst e; exact ⟨by decide +kernel, call_min2D hc⟩
  rw [if_neg e] at h; clear e
  by_cases e : x = "int"
  · rw [if_pos e] at h; cases h
  rw [if_neg e] at h; clear e
  by_cases e : x = "all"
  · rw [if_pos e] at h; cases h; subst e; exact ⟨by decide +kernel, call_allD ok.K hc⟩
  rw [if_neg e] at h; clear e
  by_cases e : x = "any"
  · rw [if_pos e] at h; cases h; subst e; exact ⟨by decide +kernel, call_anyD ok.K hc⟩
  rw [if_neg e] at h; clear e
  by_cases e : x = "isinstance"
  · rw [if_pos e] at h; cases h; subst e; exact ⟨by decide +kernel, call_isiO ok⟩
  rw [if_neg e] at h; clear e
  by_cases e : x = "list"
  · rw [if_pos e] at h; cases h
  rw [if_neg e] at h; clear e
  by_cases e : x = "tuple"
  · rw [if_pos e] at h; cases h
  rw [if_neg e] at h; clear e
  by_cases e : x = "repr"
  · rw [if_pos e] at h; cases h; subst e; exact ⟨by decide +kernel, call_reprD ok.K ok.un ok.gd⟩
  rw [if_neg e] at h; clear e
  by_cases e : x = "sorted"
  · rw [if_pos e] at h; cases h; subst e; exact ⟨by decide +kernel, call_sortedD ok.K⟩
  rw [if_neg e] at h; clear e
  by_cases e : x = "sum"
  · rw [if_pos e] at h; cases h; subst e; exact ⟨by decide +kernel, call_sumD ok.K hc⟩
  rw [if_neg e] at h; clear e
  by_cases e : x = "str"
  · rw [if_pos e] at h; cases h
  rw [if_neg e] at h; cases h
theorem prim_t (ok : EOk W X Z G) (h4 : G.hot = false) {x : Str} {T : String} {p : List D → M D} (h : primOf G x = some (.t T p)) : bootBuiltins x = some (.type T) ∧ CallR X (.type T) (RCof W p) := by
  unfold primOf at h
  by_cases e : x = "len"
  · rw [if_pos e] at h; cases h
  rw [if_neg e] at h; clear e
  by_cases e : x = "abs"
  · rw [if_pos e] at h; cases h
  rw [if_neg e] at h; clear e
  by_cases e : x = "max"
  · rw [if_pos e] at h; cases h
  rw [if_neg e] at h; clear e
  by_cases e : x = "min"
  · rw [if_pos e] at h; cases h
  rw [if_neg e] at h; clear e
  by_cases e : x = "int"
  · rw [if_pos e] at h; cases h; subst e; exact ⟨by decide +kernel, call_intD⟩
  rw [if_neg e] at h; clear e
  by_cases e : x = "all"
  · rw [if_pos e] at h; cases h
  rw [if_neg e] at h; clear e
  by_cases e : x = "any"
  · rw [if_pos e] at h; cases h
  rw [if_neg e] at h; clear e
  by_cases e : x = "isinstance"
  · rw [if_pos e] at h; cases h
  rw [if_neg e] at h; clear e
  by_cases e : x = "list"
  · rw [if_pos e] at h; cases h; subst e; exact ⟨by decide +kernel, call_listDn ok.K (ok.calm h4)⟩
  rw [if_neg e] at h; clear e
  by_cases e : x = "tuple"
  · rw [if_pos e] at h; cases h; subst e; exact ⟨by decide +kernel, call_tupleDn ok.K⟩
  rw [if_neg e] at h; clear e
  by_cases e : x = "repr"
  · rw [if_pos e] at h; cases h
  rw [if_neg e] at h; clear e
  by_cases e : x = "sorted"
  · rw [if_pos e] at h; cases h
  rw [if_neg e] at h; clear e
  by_cases e : x = "sum"
  · rw [if_pos e] at h; cases h
  rw [if_neg e] at h; clear e
  by_cases e : x = "str"
  · rw [if_pos e] at h; cases h; subst e; exact ⟨by decide +kernel, call_strO ok h4⟩
  rw [if_neg e] at h; cases h
theorem gl_of (ok : EOk W X Z G) {x : Str} (h : glB G.sc x = true) : Gl X x := by
  show X.env.kindOf x = some .globalImplicit
  have e := beq_iff_eq.mp h
  rw [← ok.sc] at e
  exact e
theorem pe_callD (R : EnOk W r) (ok : EOk W X Z G) (f : Str) (p : Pos) (es : List Expr) (pos : Pos) : PE X (.Call (.Name f p) es [] pos) (TEof W Z (callD r G f es)) := by
  by_cases h0 : okName f = true ∧ noStar es = true ∧ glB G.sc f = true ∧ G.hot = false
  · obtain ⟨h1, h2, h3, h4⟩ := id h0
    have hg := gl_of ok h3
    have pa := pa_D R ok h2
    cases q : G.fn f with
    | some nF =>
      obtain ⟨n, F⟩ := nF
      obtain ⟨a, fd, ps, FG, m1, m2, m3⟩ := ok.g.fn f n F q
      rw [← ok.K] at FG m2 m3
      have fin : ∀ {σ H Q}, TEof W Z (callD r G f es) σ H Q → TAof W Z (aD r G es) σ H fun vs H1 => spOf W n F vs H1 Q (WE Z σ) := by
        intro σ H Q h
        have h' : TEof W Z (fun ρ => do let ds ← aD r G es ρ; if ds.length = n then F ds else stuck) σ H Q := by
          obtain ⟨ρ, m, e, g, rr, w⟩ := h
          refine ⟨ρ, m, e, g, rr, ?_⟩
          unfold callD at w
          rw [if_pos h0, q] at w
          exact w
        obtain ⟨ρ, m, e, g, rr, w⟩ := ta_bind h'
        refine ⟨ρ, m, e, g, rr, w.mono (fun _ _ _ _ z => z) fun xs m1 s1 g1 w1 vs hvs => ?_⟩
        obtain ⟨ρ2, m2, ds, e2, g2, r2, l2, w2⟩ := w1 vs hvs
        split at w2
        · rename_i hn
          exact ⟨by rw [l2.lenEq]; exact hn, ds, m2, e2, g2, l2, w2⟩
        · exact w2.elim
      cases es with
      | nil =>
        refine PE.weak (pe_callG0 FG (ok.room h4) ok.gd hg m1 m2 m3 ok.tk (okName_1 h1)) fun σ H Q h => ?_
        obtain ⟨ρ, m, e, g, rr, w⟩ := fin h
        subst e
        exact w m (Step.refl m) g rfl [] .nil
      | cons e0 es =>
        obtain ⟨z1, z2⟩ := star_cons (env := X.env) h2
        exact PE.weak (pe_callG FG (ok.room h4) ok.gd hg m1 m2 m3 ok.tk pa (okName_1 h1) z1 (star_any z2)) fun σ H Q h => fin h
    | none =>
      have none_of : (∀ ρ, callD r G f es ρ = stuck) → PE X (.Call (.Name f p) es [] pos) (TEof W Z (callD r G f es)) := fun z => PE.weak PE.any fun σ H Q h => te_none z h
      have fin : ∀ {pp : List D → M D}, (∀ ρ, callD r G f es ρ = (do let ds ← aD r G es ρ; pp ds)) → ∀ {σ H Q}, TEof W Z (callD r G f es) σ H Q → tCB (RCof W pp) (TAof W Z (aD r G es)) σ H Q := by
        intro pp z σ H Q h
        have h' : TEof W Z (fun ρ => do let ds ← aD r G es ρ; pp ds) σ H Q := by
          obtain ⟨ρ, m, e, g, rr, w⟩ := h
          exact ⟨ρ, m, e, g, rr, by rw [z] at w; exact w⟩
        obtain ⟨ρ, m, e, g, rr, w⟩ := ta_bind h'
        refine ⟨ρ, m, e, g, rr, w.mono (fun _ _ _ _ z => z) fun xs m1 s1 g1 w1 vs hvs => ?_⟩
        obtain ⟨ρ2, m2, ds, e2, g2, r2, l2, w2⟩ := w1 vs hvs
        exact ⟨_, ds, m2, e2, g2, l2, w2⟩
      cases q2 : primOf G f with
      | none =>
        refine none_of fun ρ => ?_
        unfold callD
        rw [if_pos h0, q, q2]
      | some P =>
        cases P with
        | b id pp =>
          by_cases h5 : G.isB f = true ∧ es ≠ []
          · obtain ⟨b1, b2⟩ := prim_b ok h4 q2
            have z : ∀ ρ, callD r G f es ρ = (do let ds ← aD r G es ρ; pp ds) := fun ρ => by
              unfold callD
              rw [if_pos h0, q, q2]
              simp only
              rw [if_pos h5]
            cases es with
            | nil => exact absurd rfl h5.2
            | cons e0 es =>
              obtain ⟨z1, z2⟩ := star_cons (env := X.env) h2
              exact PE.weak (pe_callB b2 hg (ok.g.bl f h5.1) b1 pa (okName_3 h1) (okName_1 h1) z1 (star_any z2)) fun σ H Q h => fin z h
          · refine none_of fun ρ => ?_
            unfold callD
            rw [if_pos h0, q, q2]
            simp only
            rw [if_neg h5]
        | t T pp =>
          by_cases h5 : G.isB f = true ∧ es ≠ []
          · obtain ⟨b1, b2⟩ := prim_t ok h4 q2
            have z : ∀ ρ, callD r G f es ρ = (do let ds ← aD r G es ρ; pp ds) := fun ρ => by
              unfold callD
              rw [if_pos h0, q, q2]
              simp only
              rw [if_pos h5]
            cases es with
            | nil => exact absurd rfl h5.2
            | cons e0 es =>
              obtain ⟨z1, z2⟩ := star_cons (env := X.env) h2
              exact PE.weak (pe_callTy b2 hg (ok.g.bl f h5.1) b1 pa (okName_3 h1) (okName_1 h1) z1 (star_any z2)) fun σ H Q h => fin z h
          · refine none_of fun ρ => ?_
            unfold callD
            rw [if_pos h0, q, q2]
            simp only
            rw [if_neg h5]
  · refine PE.weak PE.any fun σ H Q h => te_none (f := callD r G f es) (fun ρ => ?_) h
    unfold callD
    rw [if_neg h0]
end
end Pu

set_option Elab.async false
set_option linter.all false
set_option maxRecDepth 100000
/-! Pu9: what is walked, targets, comprehensions, methods. -/
namespace Pu
open PySem L2

/-- an iterator that gives plain things -/
structure Itm (W : Wd) (J : It) (m0 : Mem) (ds : List D) : Prop where
  go : ∀ (i : Nat) (m : Mem), Up m0 m → Okm W m → i < ds.length → J.go i m.H
  stop : ∀ m : Mem, Up m0 m → Okm W m → J.stop ds.length m.H
  yld : ∀ (i : Nat) (m : Mem) (x : V) (H' : Hp), Up m0 m → Okm W m → i < ds.length → J.yld i m.H x H' → ∃ m' d, m'.H = H' ∧ Step m m' ∧ Okm W m' ∧ m'.μ = m.μ ∧ m'.as = m.as ∧ ds[i]? = some d ∧ Den W m' d x
def TIof (W : Wd) (Z : WX) (f : Sl → M (List D)) : TI := fun σ H R => ∃ ρ m, m.H = H ∧ Okm W m ∧ EnvOk W m ρ σ ∧ wpR W m (EWish W Z σ) (fun ds m' => ∀ J, Itm W J m' ds → R J m'.H) (f ρ m.μ)
theorem PI.weak {X : Cx} {tg e : Expr} {t t' : TI} (h : PI X tg e t) (w : ∀ σ H R, t' σ H R → t σ H R) : PI X tg e t' := ⟨fun pins s σ H R I q => h.run pins s σ H R I (w σ H R q)⟩
theorem PI.or {X : Cx} {tg e : Expr} {t t' : TI} (h : PI X tg e t) (h' : PI X tg e t') : PI X tg e (fun σ H R => t σ H R ∨ t' σ H R) := ⟨fun pins s σ H R I q => by
  rcases q with q | q
  · exact h.run pins s σ H R I q
  · exact h'.run pins s σ H R I q⟩
theorem PI.any {X : Cx} {tg e : Expr} : PI X tg e (fun _ _ _ => False) := ⟨fun _ _ _ _ _ _ q => q.elim⟩
theorem Up.refl (m : Mem) : Up m m := (Step.refl m).up
theorem Up.trans {m n k : Mem} (a : Up m n) (b : Up n k) : Up m k := ⟨fun i x h => b.as i x (a.as i x h), fun x o h l => b.keep x o (a.keep x o h l).1 (a.keep x o h l).2⟩

section
variable {W : Wd} {Z : WX} {X : Cx} {G : Ctx} {σ : St} {H : Hp} {Q : VK} {r : Dn}
theorem itm_range {m : Mem} {lo : Int} {n : Nat} : Itm W (Itr lo n) m (rangeL lo n) := by
  have hl : (rangeL lo n).length = n := by simp [rangeL]
  refine ⟨fun i m _ _ h => by rw [hl] at h; exact h, fun m _ _ => by rw [hl]; exact Nat.le_refl _, fun i m x H' _ g h y => ?_⟩
  obtain ⟨rfl, rfl⟩ := y
  rw [hl] at h
  exact ⟨m, .int (lo + i), rfl, Step.refl m, g, rfl, rfl, by simp [rangeL, h], .int _⟩
theorem itm_str {m : Mem} {z : Str} : Itm W (Its z) m (signsL z) := by
  have hl : (signsL z).length = z.cps.size := by simp [signsL]
  refine ⟨fun i m _ _ h => by rw [hl] at h; exact h, fun m _ _ => by rw [hl]; exact Nat.le_refl _, fun i m x H' _ g h y => ?_⟩
  obtain ⟨rfl, c, h1, rfl⟩ := y
  refine ⟨m, .str ⟨#[c]⟩, rfl, Step.refl m, g, rfl, rfl, ?_, .str _⟩
  simp only [signsL, List.getElem?_map, Array.getElem?_toList, h1, Option.map_some]
theorem itm_list {m : Mem} {a : Addr} {ds : List D} {vs : List V} (h : PurL W m a vs) (l : DenL W m ds vs) : Itm W (Itl W.K a) m ds := by
  have sq : ∀ n, Up m n → SqL W.K n.H a vs := fun n u => (h.up u).sq
  refine ⟨fun i n u _ hi => ?_, fun n u _ => ⟨vs, sq n u, by rw [l.length]; exact Nat.le_refl _⟩, fun i n x H' u g hi y => ?_⟩
  · rw [l.length] at hi
    exact ⟨vs, vs[i], sq n u, by simp [hi]⟩
  · obtain ⟨rfl, y⟩ := y
    obtain ⟨d, h1, h2⟩ := (l.up u).getV (y vs (sq n u))
    exact ⟨n, d, rfl, Step.refl n, g, rfl, rfl, h1, h2⟩
theorem itm_tup {m : Mem} {a : Addr} {ds : List D} {vs : List V} (h : PurT W m a vs) (l : DenL W m ds vs) : Itm W (Itt W.K a) m ds := by
  have sq : ∀ n, Up m n → SqT W.K n.H a vs := fun n u => (h.up u).sq
  refine ⟨fun i n u _ hi => ?_, fun n u _ => ⟨vs, sq n u, by rw [l.length]; exact Nat.le_refl _⟩, fun i n x H' u g hi y => ?_⟩
  · rw [l.length] at hi
    exact ⟨vs, vs[i], sq n u, by simp [hi]⟩
  · obtain ⟨rfl, y⟩ := y
    obtain ⟨d, h1, h2⟩ := (l.up u).getV (y vs (sq n u))
    exact ⟨n, d, rfl, Step.refl n, g, rfl, rfl, h1, h2⟩
theorem DenK.at {m : Mem} : ∀ {kvs : List (Key × D)} {kv : List (Key × V)}, DenK W m kvs kv → ∀ (i : Nat) (k : Key) (v : V), kv[i]? = some (k, v) → ∃ d, kvs[i]? = some (k, d) ∧ Den W m d v
  | _, _, .nil, i, k, v, e => by simp at e
  | _, _, .cons h t, 0, k, v, e => by cases e; exact ⟨_, rfl, h⟩
  | _, _, .cons h t, i + 1, k, v, e => DenK.at t i k v e
theorem itm_keys {m : Mem} {a : Addr} {ob : Obj} {kvs : List (Key × D)} {kv : List (Key × V)} (h : m.H a = some (.frz ob (.dK kv))) (n : ¬ m.live a) (l : DenK W m kvs kv) : Itm W (Itk a ob kv) m (keysD kvs) := by
  have hl : (keysD kvs).length = kv.length := by rw [keysD, List.length_map, l.length]
  refine ⟨fun i n' u _ hi => ⟨(u.keep a _ h n).1, by rw [← hl]; exact hi⟩, fun n' u _ => ⟨(u.keep a _ h n).1, by rw [hl]; exact Nat.le_refl _⟩, fun i n' x H' u g hi y => ?_⟩
  obtain ⟨rfl, k, v, h1, rfl⟩ := y
  obtain ⟨d, h2, _⟩ := l.at i k v h1
  exact ⟨n', keyAs k, rfl, Step.refl n', g, rfl, rfl, by rw [keysD, List.getElem?_map, h2]; rfl, den_key k⟩
theorem pi_other (R : EnOk W r) (ok : EOk W X Z G) (tg e : Expr) : PI X tg e (TIof W Z fun ρ => do let d ← r.e G e ρ; itemsD d) := by
  have pe := R.e ok e
  refine PI.weak (PI.or (pi_list (tg := tg) pe) (PI.or (pi_tup (tg := tg) pe) (PI.or (pi_str (tg := tg) pe) (pi_keys (tg := tg) pe)))) fun σ H Rr h => ?_
  obtain ⟨ρ, m, e1, g, rr, w⟩ := h
  have w' := wpR_bind w
  rw [ok.K]
  have lift : ∀ {P : V → Hp → Prop}, wpR W m (EWish W Z σ) (fun d m' => ∀ v, Den W m' d v → P v m'.H) (r.e G e ρ m.μ) → TEof W Z (r.e G e) σ H P := fun z => ⟨ρ, m, e1, g, rr, z⟩
  cases q : r.e G e ρ m.μ with
  | stuck => rw [q] at w'; exact w'.elim
  | exc x μ' =>
    rw [q] at w'
    exact .inl (lift (by rw [q]; exact w'))
  | ok d μ' =>
    rw [q] at w'
    cases d with
    | str z =>
      refine .inr (.inr (.inl (lift ?_)))
      rw [q]
      intro m1 s1 g1 e2 v hv
      cases den_str hv
      exact ⟨z, rfl, w' m1 s1 g1 e2 m1 (Step.refl m1) g1 rfl _ itm_str⟩
    | tup ds =>
      refine .inr (.inl (lift ?_))
      rw [q]
      intro m1 s1 g1 e2 v hv
      cases hv with
      | tup h1 l1 => exact ⟨_, rfl, ⟨_, h1.sq⟩, w' m1 s1 g1 e2 m1 (Step.refl m1) g1 rfl _ (itm_tup h1 l1)⟩
    | lst ds =>
      refine .inl (lift ?_)
      rw [q]
      intro m1 s1 g1 e2 v hv
      cases hv with
      | lst h1 n1 l1 => exact ⟨_, rfl, ⟨_, .inl (.inl h1)⟩, w' m1 s1 g1 e2 m1 (Step.refl m1) g1 rfl _ (itm_list (.inl ⟨.inl h1, n1⟩) l1)⟩
    | frz ds =>
      refine .inl (lift ?_)
      rw [q]
      intro m1 s1 g1 e2 v hv
      cases hv with
      | frz h1 l1 => exact ⟨_, rfl, ⟨_, h1.sq⟩, w' m1 s1 g1 e2 m1 (Step.refl m1) g1 rfl _ (itm_list h1 l1)⟩
    | cell i => exact .inl (lift (by rw [q]; exact fun m1 s1 g1 e2 => (w' m1 s1 g1 e2 : False).elim))
    | non => exact .inl (lift (by rw [q]; exact fun m1 s1 g1 e2 => (w' m1 s1 g1 e2 : False).elim))
    | bl _ => exact .inl (lift (by rw [q]; exact fun m1 s1 g1 e2 => (w' m1 s1 g1 e2 : False).elim))
    | int _ => exact .inl (lift (by rw [q]; exact fun m1 s1 g1 e2 => (w' m1 s1 g1 e2 : False).elim))
    | dic kvs =>
      refine .inr (.inr (.inr (lift ?_)))
      rw [q]
      intro m1 s1 g1 e2 v hv
      cases hv with
      | @dic _ a kv' ob h1 n1 l1 => exact ⟨a, ob, rfl, .inl ⟨kv', h1, w' m1 s1 g1 e2 m1 (Step.refl m1) g1 rfl _ (itm_keys h1 n1 l1)⟩⟩
    | obj _ _ => exact .inl (lift (by rw [q]; exact fun m1 s1 g1 e2 => (w' m1 s1 g1 e2 : False).elim))
    | ty _ => exact .inl (lift (by rw [q]; exact fun m1 s1 g1 e2 => (w' m1 s1 g1 e2 : False).elim))
    | adr _ => exact .inl (lift (by rw [q]; exact fun m1 s1 g1 e2 => (w' m1 s1 g1 e2 : False).elim))
theorem ti_none {f : Sl → M (List D)} (e : ∀ ρ, f ρ = stuck) : ∀ {σ H R}, TIof W Z f σ H R → False := fun ⟨ρ, m, _, _, _, w⟩ => by rw [e] at w; exact w
/-- range(a) -/
theorem pi_rng1 (R : EnOk W r) (ok : EOk W X Z G) (tg a : Expr) (p pos : Pos) (h1 : glB G.sc "range" = true) (h2 : G.isB "range" = true) (h3 : noStar [a] = true) : PI X tg (.Call (.Name "range" p) [a] [] pos)
    (TIof W Z fun ρ => do let d ← r.e G a ρ; fun μ => match d with
        | .int j => if -(2 ^ 62) ≤ j ∧ j < 2 ^ 62 then .ok (rangeL 0 j.toNat) μ else .stuck
        | _ => .stuck) := by
  obtain ⟨z1, z2⟩ := star_cons (env := X.env) h3
  refine PI.weak (pi_range1 (tg := tg) (gl_of ok h1) (ok.g.bl _ h2) (pa_cons (R.e ok a) pa_nil z1) z1) fun σ H Rr h => ?_
  obtain ⟨ρ, m, e1, g, rr, w⟩ := h
  refine ⟨ρ, m, e1, g, rr, (wpR_bind w).mono (fun _ _ _ _ z => z) fun d m1 s1 g1 w1 v hv => ?_⟩
  cases d with
  | int j =>
    cases den_int hv
    have w2 : wpR W m1 (EWish W Z σ) (fun ds m' => ∀ J, Itm W J m' ds → Rr J m'.H) (if -(2 ^ 62) ≤ j ∧ j < 2 ^ 62 then .ok (rangeL 0 j.toNat) m1.μ else .stuck) := w1
    split at w2
    · rename_i hz
      exact ⟨j, rfl, hz.1, hz.2, w2 m1 (Step.refl m1) g1 rfl _ itm_range⟩
    · exact w2.elim
  | _ => exact (show False from w1).elim
theorem pi_rng2 (R : EnOk W r) (ok : EOk W X Z G) (tg a b : Expr) (p pos : Pos) (h1 : glB G.sc "range" = true) (h2 : G.isB "range" = true) (h3 : noStar [a, b] = true) : PI X tg (.Call (.Name "range" p) [a, b] [] pos)
    (TIof W Z fun ρ => do let d ← r.e G a ρ; let e ← r.e G b ρ; fun μ => match d, e with
        | .int i, .int j => if -(2 ^ 62) ≤ i ∧ i < 2 ^ 62 ∧ -(2 ^ 62) ≤ j ∧ j < 2 ^ 62 then .ok (rangeL i (j - i).toNat) μ else .stuck
        | _, _ => .stuck) := by
  obtain ⟨z1, z2⟩ := star_cons (env := X.env) h3
  obtain ⟨z3, z4⟩ := star_cons (env := X.env) z2
  refine PI.weak (pi_range2 (tg := tg) (gl_of ok h1) (ok.g.bl _ h2) (pa_cons (R.e ok a) (pa_cons (R.e ok b) pa_nil z3) z1) (by rw [z1, z3]; rfl) z3) fun σ H Rr h => ?_
  obtain ⟨ρ, m, e1, g, rr, w⟩ := h
  refine ⟨ρ, m, e1, g, rr, (wpR_bind w).mono (fun _ _ _ _ z => z) fun d m1 s1 g1 w1 v hv => ?_⟩
  refine ⟨ρ, m1, rfl, g1, rr.mono s1, (wpR_bind w1).mono (fun _ _ _ _ z => z) fun e m2 s2 g2 w2 u hu => ?_⟩
  cases d with
  | int i =>
    cases e with
    | int j =>
      cases den_int hv
      cases den_int hu
      have w3 : wpR W m2 (EWish W Z σ) (fun ds m' => ∀ J, Itm W J m' ds → Rr J m'.H) (if -(2 ^ 62) ≤ i ∧ i < 2 ^ 62 ∧ -(2 ^ 62) ≤ j ∧ j < 2 ^ 62 then .ok (rangeL i (j - i).toNat) m2.μ else .stuck) := w2
      split at w3
      · rename_i hz
        exact ⟨i, j, rfl, hz, w3 m2 (Step.refl m2) g2 rfl _ itm_range⟩
      · exact w3.elim
    | _ => exact (show False from w2).elim
  | _ => exact (show False from w2).elim

/-! ### targets -/
def Agree (js : List Nat) (σ σ' : St) : Prop := σ'.length = σ.length ∧ ∀ i : Nat, i ∉ js → σ'[i]? = σ[i]?
theorem Agree.refl (js : List Nat) (σ : St) : Agree js σ σ := ⟨rfl, fun _ _ => rfl⟩
theorem Agree.set {js : List Nat} {σ σ' : St} (h : Agree js σ σ') {i : Nat} (hi : i ∈ js) (v : Option V) : Agree js σ (σ'.set i v) :=
  ⟨by rw [List.length_set]; exact h.1, fun j hj => by
    have ne : i ≠ j := fun e => hj (by rw [← e]; exact hi)
    rw [List.getElem?_set_ne ne]; exact h.2 j hj⟩
theorem wipe_get {σ : St} : ∀ {vs : List Nat} {i : Nat}, (L2.wipe σ vs)[i]? = if i ∈ vs then (if i < σ.length then some none else none) else σ[i]?
  | [], i => by simp [L2.wipe]
  | v :: vs, i => by
    unfold L2.wipe
    by_cases h : v = i
    · subst h
      rw [if_pos List.mem_cons_self]
      by_cases hl : v < σ.length
      · rw [if_pos hl, List.getElem?_set_self (by rw [wipe_length]; exact hl)]
      · rw [if_neg hl]
        exact List.getElem?_eq_none (by rw [List.length_set, wipe_length]; omega)
    · rw [List.getElem?_set_ne h, wipe_get]
      have e : (i ∈ v :: vs) ↔ i ∈ vs := by simp [Ne.symm h]
      simp only [e]
theorem Agree.wipe {js vs : List Nat} {σ σ' : St} (h : Agree js σ σ') (hs : ∀ i ∈ js, i ∈ vs) : L2.wipe σ' vs = L2.wipe σ vs := by
  apply List.ext_getElem?
  intro i
  rw [wipe_get, wipe_get, h.1]
  split
  · rfl
  · rename_i hi
    exact h.2 i fun z => hi (hs i z)
theorem wipe_idem {σ : St} {vs : List Nat} : L2.wipe (L2.wipe σ vs) vs = L2.wipe σ vs := by
  apply List.ext_getElem?
  intro i
  rw [wipe_get, wipe_get, wipe_length]
  split <;> rfl
/-- a target that stores names alone -/
def TGp (W : Wd) (js : List Nat) (f : D → Sl → Option Sl) : TG := fun v σ H Q => ∃ ρ m d ρ', m.H = H ∧ Okm W m ∧ EnvOk W m ρ σ ∧ Den W m d v ∧ f d ρ = some ρ' ∧ ∀ σ', EnvOk W m ρ' σ' → Agree js σ σ' → Q σ' H
theorem PG.weak {X : Cx} {e : Expr} {t t' : TG} (h : PG X e t) (w : ∀ v σ H Q, t' v σ H Q → t v σ H Q) : PG X e t' := ⟨fun pins s σ H v u Q I rv q => h.run pins s σ H v u Q I rv (w v σ H Q q)⟩
theorem PG.any {X : Cx} {e : Expr} : PG X e (fun _ _ _ _ => False) := ⟨fun _ _ _ _ _ _ _ _ _ q => q.elim⟩
theorem PGs.weak {X : Cx} {e : List Expr} {t t' : TGs} (h : PGs X e t) (w : ∀ v σ H Q, t' v σ H Q → t v σ H Q) : PGs X e t' := ⟨fun pins s σ H v u Q I rv q => h.run pins s σ H v u Q I rv (w v σ H Q q)⟩
theorem PGs.any {X : Cx} {e : List Expr} : PGs X e (fun _ _ _ _ => False) := ⟨fun _ _ _ _ _ _ _ _ _ q => q.elim⟩
theorem gN_ix {x : Str} {d : D} {ρ ρ' : Sl} (h : gN G x d ρ = some ρ') : ∃ i, G.ix x = some i ∧ G.N.idxOf x = i ∧ (G.sc.names.lookup x = some .local ∨ (G.sc.names.lookup x = some .cell ∧ G.own x = true)) ∧ ρ' = ρ.set i (some d) := by
  unfold gN at h
  cases q : G.ix x with
  | none => rw [q] at h; cases h
  | some i =>
    rw [q] at h
    simp only at h
    split at h
    · rename_i hz
      cases h
      refine ⟨i, rfl, ?_, hz, rfl⟩
      unfold Ctx.ix at q
      split at q
      · exact Option.some.inj q
      · cases q
    · cases h
theorem pg_gN (ok : EOk W X Z G) (x : Str) (pos : Pos) : PG X (.Name x pos) (TGp W [G.N.idxOf x] (gN G x)) := by
  by_cases hz : ∃ i, G.ix x = some i ∧ (G.sc.names.lookup x = some .local ∨ (G.sc.names.lookup x = some .cell ∧ G.own x = true))
  · obtain ⟨i, h1, h2⟩ := hz
    rw [← ok.sc] at h2
    have h2' : Loc X.env.scope x := h2.elim .inl fun z => .inr z.1
    refine PG.weak (pg_name (i := i) ok.nd (by rw [ok.N]; exact Ctx.ix_at h1) h2' ?_) fun v σ H Q h => ?_
    · rcases h2 with z | z
      · exact .inr z
      · exact .inl (by rw [ok.own]; exact z.2)
    · obtain ⟨ρ, m, d, ρ', e, g, rr, hd, hf, q⟩ := h
      obtain ⟨j, e1, e2, _, e4⟩ := gN_ix hf
      rw [h1] at e1; cases e1
      subst e4
      exact q _ (rr.set i hd) ((Agree.refl _ σ).set (by rw [e2]; exact List.mem_singleton.mpr rfl) _)
  · refine PG.weak PG.any fun v σ H Q h => ?_
    obtain ⟨ρ, m, d, ρ', e, g, rr, hd, hf, q⟩ := h
    obtain ⟨j, e1, e2, e3, e4⟩ := gN_ix hf
    exact hz ⟨j, e1, e3⟩
def TGsp (W : Wd) (js : List Nat) (f : List D → Sl → Option Sl) : TGs := fun vs σ H Q => ∃ ρ m ds ρ', m.H = H ∧ Okm W m ∧ EnvOk W m ρ σ ∧ DenL W m ds vs ∧ f ds ρ = some ρ' ∧ ∀ σ', EnvOk W m ρ' σ' → Agree js σ σ' → Q σ' H
theorem pgs_gNs (ok : EOk W X Z G) (js : List Nat) : ∀ es : List Expr, (∀ e ∈ es, nslot G e ∈ js) → PGs X es (TGsp W js (gNs G es))
  | [], _ => PGs.weak pgs_nil fun vs σ H Q h => by
    obtain ⟨ρ, m, ds, ρ', e, g, rr, hd, hf, q⟩ := h
    cases hd with
    | nil =>
      cases (show some ρ = some ρ' from hf)
      exact ⟨rfl, q σ rr (Agree.refl _ σ)⟩
    | cons _ _ => cases (show (none : Option Sl) = some ρ' from hf)
  | .Name x p :: es, hj => by
    have ih := pgs_gNs ok js es fun e he => hj e (List.mem_cons_of_mem _ he)
    have hx : G.N.idxOf x ∈ js := hj _ List.mem_cons_self
    refine PGs.weak (pgs_cons (pg_gN ok x p) ih) fun vs σ H Q h => ?_
    obtain ⟨ρ, m, ds, ρ', e, g, rr, hd, hf, q⟩ := h
    cases hd with
    | nil => cases (show (none : Option Sl) = some ρ' from hf)
    | @cons d v ds vs hd hds =>
      have hf' : (gN G x d ρ).bind (fun ρ' => gNs G es ds ρ') = some ρ' := hf
      cases q1 : gN G x d ρ with
      | none => rw [q1] at hf'; cases hf'
      | some ρ1 =>
        rw [q1] at hf'
        refine ⟨v, vs, rfl, ρ, m, d, ρ1, e, g, rr, hd, q1, fun σ1 r1 a1 => ?_⟩
        refine ⟨ρ1, m, ds, ρ', e, g, r1, hds, hf', fun σ2 r2 a2 => q σ2 r2 ⟨a2.1.trans a1.1, fun i hi => (a2.2 i hi).trans (a1.2 i fun z => hi ?_)⟩⟩
        have : i = G.N.idxOf x := by simpa using z
        rw [this]; exact hx
  | .BoolOp .. :: es, hj | .NamedExpr .. :: es, hj | .BinOp .. :: es, hj | .UnaryOp .. :: es, hj | .Lambda .. :: es, hj | .IfExp .. :: es, hj | .Dict .. :: es, hj | .Set .. :: es, hj | .ListComp .. :: es, hj | .SetComp .. :: es, hj | .DictComp .. :: es, hj | .GeneratorExp .. :: es, hj | .Await .. :: es, hj | .Yield .. :: es, hj | .YieldFrom .. :: es, hj | .Compare .. :: es, hj | .Call .. :: es, hj | .FormattedValue .. :: es, hj | .JoinedStr .. :: es, hj | .Constant .. :: es, hj | .Attribute .. :: es, hj | .Subscript .. :: es, hj | .Starred .. :: es, hj | .List .. :: es, hj | .Tuple .. :: es, hj | .Slice .. :: es, hj =>
    PGs.weak PGs.any fun vs σ H Q h => by
      obtain ⟨ρ, m, ds, ρ', e, g, rr, hd, hf, q⟩ := h
      cases hd <;> cases (show (none : Option Sl) = some ρ' from hf)
theorem gNs_names : ∀ {es : List Expr} {ds : List D} {ρ ρ' : Sl} (env : Env), gNs G es ds ρ = some ρ' → (assignEach es env).length = ds.length ∧ (assignEach es env).findIdx? (·.1) = none
  | [], [], _, _, _, _ => ⟨rfl, rfl⟩
  | [], _ :: _, _, _, _, h => by cases h
  | .Name x p :: es, [], _, _, _, h => by cases h
  | .Name x p :: es, d :: ds, ρ, ρ', env, h => by
    have h' : (gN G x d ρ).bind (fun ρ1 => gNs G es ds ρ1) = some ρ' := h
    cases q : gN G x d ρ with
    | none => rw [q] at h'; cases h'
    | some ρ1 =>
      rw [q] at h'
      obtain ⟨h1, h2⟩ := gNs_names env (show gNs G es ds ρ1 = some ρ' from h')
      refine ⟨congrArg (· + 1) h1, ?_⟩
      show List.findIdx? (·.1) ((false, assign (.Name x p) env) :: assignEach es env) = none
      rw [List.findIdx?_cons, h2]
      rfl
  | .BoolOp .. :: _, _, _, _, _, h | .NamedExpr .. :: _, _, _, _, _, h | .BinOp .. :: _, _, _, _, _, h | .UnaryOp .. :: _, _, _, _, _, h | .Lambda .. :: _, _, _, _, _, h | .IfExp .. :: _, _, _, _, _, h | .Dict .. :: _, _, _, _, _, h | .Set .. :: _, _, _, _, _, h | .ListComp .. :: _, _, _, _, _, h | .SetComp .. :: _, _, _, _, _, h | .DictComp .. :: _, _, _, _, _, h | .GeneratorExp .. :: _, _, _, _, _, h | .Await .. :: _, _, _, _, _, h | .Yield .. :: _, _, _, _, _, h | .YieldFrom .. :: _, _, _, _, _, h | .Compare .. :: _, _, _, _, _, h | .Call .. :: _, _, _, _, _, h | .FormattedValue .. :: _, _, _, _, _, h | .JoinedStr .. :: _, _, _, _, _, h | .Constant .. :: _, _, _, _, _, h | .Attribute .. :: _, _, _, _, _, h | .Subscript .. :: _, _, _, _, _, h | .Starred .. :: _, _, _, _, _, h | .List .. :: _, _, _, _, _, h | .Tuple .. :: _, _, _, _, _, h | .Slice .. :: _, _, _, _, _, h => by
    rename_i ds ρ ρ' env
    cases ds <;> cases (show (none : Option Sl) = some ρ' from h)
theorem pg_gD (ok : EOk W X Z G) (hc : X.calm = true) (tg : Expr) : PG X tg (TGp W (gslots G tg) (gD G tg)) := by
  have none_of : (∀ d ρ, gD G tg d ρ = none) → PG X tg (TGp W (gslots G tg) (gD G tg)) := fun z => PG.weak PG.any fun v σ H Q h => by
    obtain ⟨ρ, m, d, ρ', e, g, rr, hd, hf, q⟩ := h
    rw [z] at hf; cases hf
  cases tg with
  | Name x p => exact pg_gN ok x p
  | Tuple es k p =>
    by_cases hz : ∃ (ds : List D) (ρ ρ' : Sl), gNs G es ds ρ = some ρ'
    · obtain ⟨ds0, ρ0, ρ0', hz⟩ := hz
      obtain ⟨n1, n2⟩ := gNs_names X.env hz
      refine PG.weak (pg_tup (n := (assignEach es X.env).length) hc (pgs_gNs ok (es.map (nslot G)) es fun e he => List.mem_map.mpr ⟨e, he, rfl⟩) rfl n2) fun v σ H Q h => ?_
      obtain ⟨ρ, m, d, ρ', e, g, rr, hd, hf, q⟩ := h
      cases d with
      | tup ds =>
        cases hd with
        | tup h1 l1 =>
          obtain ⟨n3, _⟩ := gNs_names X.env (show gNs G es ds ρ = some ρ' from hf)
          subst e
          exact ⟨_, _, rfl, by rw [ok.K]; exact h1.sq, by rw [n3]; exact l1.lenEq, ρ, m, ds, ρ', rfl, g, rr, l1, hf, q⟩
      | _ => cases (show (none : Option Sl) = some ρ' from hf)
    · refine none_of fun d ρ => ?_
      cases d with
      | tup ds =>
        cases q : gNs G es ds ρ with
        | none => exact q
        | some ρ' => exact absurd ⟨ds, ρ, ρ', q⟩ hz
      | _ => rfl
  | _ => exact none_of fun _ _ => rfl

/-! ### comprehensions -/
theorem blk_ok (ok : EOk W X Z G) {sc : Scope} (s : Shared) (H : Hp) (C : Addr) (cl : List (Str × Addr)) (fp : List Addr) : EOk W (X.blk s H sc (PySem.compEnvC sc cl C X.env) fp) (fun _ _ _ _ => False) (blkG G sc) := by
  refine ⟨ok.K, ok.N, ok.nd, ?_, rfl, takes0, ok.calm, ok.room, ok.un, ok.gd, ⟨ok.g.glob, ok.g.bl, ok.g.fn, ok.g.xc, ok.g.cat, ⟨ok.g.ob.fld, ok.g.ob.meth, ok.g.ob.make, ok.g.ob.dun, ok.g.ob.prop, ok.g.ob.ne, ok.g.ob.cmeth, ok.g.ob.cls, ok.g.ob.sub⟩⟩⟩
  show (PySem.compEnvC sc cl C X.env).scope = relS sc G.sc
  rw [← ok.sc]
  rfl
theorem pts_D (R : EnOk W r) (ok : EOk W X Z G) : ∀ ifs : List Expr, PTs X ifs (TTof W Z (testsD r G ifs))
  | [] => ⟨fun pins s σ H Q I h => pts_nil.run pins s σ H Q I (let ⟨ρ, m, e, g, rr, w⟩ := h; e ▸ w m (Step.refl m) g rfl)⟩
  | [c] => pts_one (R.t ok c)
  | _ :: _ :: _ => ⟨fun _ _ _ _ _ _ h => (show False from let ⟨_, _, _, _, _, w⟩ := h; w).elim⟩
/-- what one turn promises -/
theorem noX_wp0 {α : Type} {m : Mem} {E : Ex → Mem → Prop} {P : α → Mem → Prop} {x : R α} {y : R α} (hy : y = (match x with | .exc _ _ => .stuck | r => r)) (w : wpR W m E P y) : wpR W m (fun _ _ => False) P x := by
  subst hy
  cases x with
  | ok a μ => exact w
  | exc e μ => exact w.elim
  | stuck => exact w.elim
/-- the list is made -/
theorem fix_out {m m2 : Mem} {ds : List D} {vs : List V} {n : Nat} {E : Ex → Mem → Prop} {L : Addr} (g : Okm W m) (hL : m.H L = none) (g2 : Okm W m2) (k : Mk m m2 L) (h2 : m2.H L = some (.lst vs)) (l : DenL W m2 ds vs) (w : out W m E Q (fixL n ds m2.μ)) : Q (.ref L) m2.H := by
  unfold fixL at w
  split at w
  · obtain ⟨st, ok⟩ := k.fix g hL g2 h2 l
    have hd : Den W (m2.fix L m.pv ds) (.cell m2.μ.length) (.ref L) := .cell (by
      show (m2.as ++ [L])[m2.μ.length]? = some L
      rw [← g2.len]
      simp)
    exact w (m2.fix L m.pv ds) st ok rfl _ hd
  · obtain ⟨n1, n2⟩ := k.new g hL g2
    refine w (m2.cls m.pv) k.cls (okm_cls g2 k.pv) rfl _ (.lst h2 (fun z => ?_) (l.up (up_cls k.pv)))
    rcases z with ⟨i, o, e, _⟩ | z
    · exact n1 (List.mem_of_getElem? e)
    · exact n2 z
/-- what the rest of a comprehension promises -/
def CRest (W : Wd) (m1 : Mem) (L : Addr) (Q : VK) (n : Nat) (x : R (List D)) : Prop := match x with
  | .ok ys μ' => out W m1 (fun _ _ => True) Q (fixL n ys μ')
  | _ => False
theorem iD_gen (R : EnOk W r) (ok : EOk W X Z G) (tg iter : Expr) : PI X tg iter (TIof W Z (iD r G tg iter)) → PI X tg iter (TIof W Z (iD r G tg iter)) := id
def CompIf (G : Ctx) (tg iter : Expr) (sc : Scope) : Prop := G.hot = false ∧ blkC G.N G.sc sc (ownOf G.N sc) = true ∧ (∀ i ∈ gslots G tg, i ∈ (ownOf G.N sc).map (·.2)) ∧ notSet iter = true
theorem comp_read {elt tg iter : Expr} {ifs : List Expr} {sc : Scope} {pos : Pos} (h0 : CompIf G tg iter sc) (h : TEof W Z (compD r G elt tg iter ifs sc pos) σ H Q) :
    tLc (TIof W Z (iD r G tg iter)) (TGp W (gslots (blkG G sc) tg) (gD (blkG G sc) tg)) (TTof W (fun _ _ _ _ => False) (testsD r (blkG G sc) ifs)) (TEof W (fun _ _ _ _ => False) (r.e (blkG G sc) elt)) ((ownOf G.N sc).map (·.2)) σ H Q := by
  have h3 := h0.2.2.1
  obtain ⟨ρ, m, e, g, rr, w⟩ := h
  unfold compD at w
  rw [if_pos (show _ ∧ _ ∧ _ ∧ _ from h0)] at w
  refine ⟨ρ, m, e, g, rr, (wpR_bind w).mono (fun _ _ _ _ z => z) fun ds m1 s1 g1 w1 J itm L hL => ?_⟩
  have r1 := rr.mono s1
  generalize hvs : (ownOf G.N sc).map (·.2) = vs at *
  generalize hf : turnD r (blkG G sc) elt tg ifs (wipeL ρ vs) = f at w1
  -- the whole run from m1 on
  have whole : CRest W m1 L Q (G.hint pos) (compL f ds [] m1.μ) := by
    have w2 := wpR_bind w1
    cases q : compL f ds [] m1.μ with
    | ok ys μ' =>
      have w3 : wpR W m1 (EWish W Z σ) (fun d m' => ∀ v, Den W m' d v → Q v m'.H) (fixL (G.hint pos) ys μ') := by
        have w4 : wpR W m1 (EWish W Z σ) (fun d m' => ∀ v, Den W m' d v → Q v m'.H) (M.bind (noX (compL f ds [])) (fun ys => fixL (G.hint pos) ys) m1.μ) := w1
        unfold M.bind noX at w4
        rw [q] at w4
        exact w4
      exact w3.mono (fun _ _ _ _ _ => trivial) fun _ _ _ _ z => z
    | exc x μ' =>
      have w4 : wpR W m1 (EWish W Z σ) (fun d m' => ∀ v, Den W m' d v → Q v m'.H) (M.bind (noX (compL f ds [])) (fun ys => fixL (G.hint pos) ys) m1.μ) := w1
      unfold M.bind noX at w4
      rw [q] at w4
      exact w4
    | stuck =>
      have w4 : wpR W m1 (EWish W Z σ) (fun d m' => ∀ v, Den W m' d v → Q v m'.H) (M.bind (noX (compL f ds [])) (fun ys => fixL (G.hint pos) ys) m1.μ) := w1
      unfold M.bind noX at w4
      rw [q] at w4
      exact w4
  let Iv : Nat → Hp → Prop := fun i H' => ∃ mm acc vacc, mm.H = H' ∧ Okm W mm ∧ Mk m1 mm L ∧ mm.H L = some (.lst vacc) ∧ DenL W mm acc vacc ∧ CRest W m1 L Q (G.hint pos) (compL f (ds.drop i) acc mm.μ)
  refine ⟨fun i k H' => k = ds.length - i ∧ i ≤ ds.length ∧ Iv i H', ⟨ds.length, by simp, Nat.zero_le _, m1.opn L (.lst []), [], [], rfl, okm_opn g1 hL, Mk.opn g1 hL, upd_same, .nil, whole⟩, ?_⟩
  rintro i k H' ⟨rfl, hi, mm, acc, vacc, rfl, gm, km, hm, lm, cm⟩
  by_cases hlt : i < ds.length
  · refine .inr ⟨itm.go i mm km.up gm hlt, Iv (i + 1), fun H2 z => ⟨ds.length - (i + 1), by omega, rfl, hlt, z⟩, fun x H2 y => ?_⟩
    obtain ⟨m2, d, rfl, s2, g2, e2, _, e3, hd⟩ := itm.yld i mm x H2 km.up gm hlt y
    have hdrop : ds.drop i = d :: ds.drop (i + 1) := by
      obtain ⟨hi', he⟩ := List.getElem?_eq_some_iff.mp e3
      rw [← he]
      exact List.drop_eq_getElem_cons hi'
    rw [hdrop] at cm
    have cm' : CRest W m1 L Q (G.hint pos) (M.bind (f d) (fun y => match y with
      | some z => if acc.length < sizeLine then compL f (ds.drop (i + 1)) (acc ++ [z]) else stuck
      | none => compL f (ds.drop (i + 1)) acc) m2.μ) := by rw [e2]; exact cm
    have r2 : EnvOk W m2 (wipeL ρ vs) (L2.wipe σ vs) := by
      have r3 := r1.wipes vs
      refine ⟨r3.len, fun j d' z => ?_⟩
      obtain ⟨v', z1, z2⟩ := r3.get j d' z
      exact ⟨v', z1, (z2.up km.up).mono s2⟩
    have k2 := km.step s2
    have hL2 : m2.H L = some (.lst vacc) := (s2.pvk L km.mem).trans hm
    have lm2 := lm.mono s2
    cases q1 : gD (blkG G sc) tg d (wipeL ρ vs) with
    | none =>
      have fd : f d = stuck := by
        rw [← hf]
        unfold turnD
        rw [q1]
      rw [fd] at cm'
      exact (show False from cm').elim
    | some ρ1 =>
      have fd : f d = M.bind (testsD r (blkG G sc) ifs ρ1) (fun b => if b then M.bind (r.e (blkG G sc) elt ρ1) (fun y => yes (some y)) else yes none) := by
        rw [← hf]
        unfold turnD
        rw [q1]
        rfl
      rw [fd] at cm'
      have cm2 := cm'
      refine ⟨wipeL ρ vs, m2, d, ρ1, rfl, g2, r2, hd, q1, fun σ2 r3 ag => ⟨(ag.wipe (vs := vs) h3).trans wipe_idem, ?_⟩⟩
      -- the tests
      refine ⟨ρ1, m2, rfl, g2, r3, ?_⟩
      unfold M.bind at cm2
      cases q2 : testsD r (blkG G sc) ifs ρ1 m2.μ with
      | stuck => rw [q2] at cm2; exact (show False from cm2).elim
      | exc x' μ' => rw [q2] at cm2; exact (show False from cm2).elim
      | ok b μ3 =>
        rw [q2] at cm2
        intro m3 s3 g3 e4
        have k3 := k2.step s3
        have hL3 : m3.H L = some (.lst vacc) := (s3.pvk L k2.mem).trans hL2
        have lm3 := lm2.mono s3
        cases b with
        | false =>
          show (if false = true then _ else _)
          rw [if_neg Bool.false_ne_true]
          refine ⟨m3, acc, vacc, rfl, g3, k3, hL3, lm3, ?_⟩
          rw [e4]
          exact cm2
        | true =>
          show (if true = true then _ else _)
          rw [if_pos rfl]
          simp only [↓reduceIte] at cm2
          refine ⟨ρ1, m3, rfl, g3, r3.mono s3, ?_⟩
          rw [e4]
          cases q3 : r.e (blkG G sc) elt ρ1 μ3 with
          | stuck => rw [q3] at cm2; exact (show False from cm2).elim
          | exc x' μ' => rw [q3] at cm2; exact (show False from cm2).elim
          | ok yv μ4 =>
            rw [q3] at cm2
            intro m4 s4 g4 e5 v hv
            have k4 := k3.step s4
            have hL4 : m4.H L = some (.lst vacc) := (s4.pvk L k3.mem).trans hL3
            have lm4 := lm3.mono s4
            have cm3 : CRest W m1 L Q (G.hint pos) ((if acc.length < sizeLine then compL f (ds.drop (i + 1)) (acc ++ [yv]) else stuck) μ4) := cm2
            by_cases hz : acc.length < sizeLine
            · rw [if_pos hz] at cm3
              refine ⟨vacc, hL4, by rw [lm4.lenEq]; exact hz, m4.gro L (.lst (vacc ++ [v])), acc ++ [yv], vacc ++ [v], rfl, okm_gro g4 k4.mem, k4.gro g1 hL, upd_same, ?_, ?_⟩
              · exact (lm4.append (.cons hv .nil)).up (up_gro k4.mem)
              · show CRest W m1 L Q (G.hint pos) (compL f (ds.drop (i + 1)) (acc ++ [yv]) m4.μ)
                rw [e5]
                exact cm3
            · rw [if_neg hz] at cm3
              exact (show False from cm3).elim
  · have ei : i = ds.length := by omega
    subst ei
    refine .inl ⟨itm.stop mm km.up gm, ?_⟩
    rw [List.drop_length] at cm
    exact fix_out (E := fun _ _ => True) g1 hL gm km hm lm cm
theorem pe_compD (R : EnOk W r) (hI : ∀ {X : Cx} {Z : WX} {G : Ctx}, EOk W X Z G → ∀ tg iter, PI X tg iter (TIof W Z (iD r G tg iter))) (ok : EOk W X Z G) (elt tg iter : Expr) (ifs : List Expr) (sc : Scope) (pos : Pos) :
    PE X (.ListComp elt [⟨tg, iter, ifs, 0⟩] sc pos) (TEof W Z (compD r G elt tg iter ifs sc pos)) := by
  by_cases h0 : CompIf G tg iter sc
  · obtain ⟨h1, h2, h3, h4⟩ := id h0
    have bo : BlkOk X.N X.env.scope sc (ownOf G.N sc) := by rw [ok.N, ok.sc]; exact blkOk_by h2
    have hs : ∀ x, foldedSetIterable iter X.env x = pure x := by
      intro x
      unfold foldedSetIterable
      cases iter <;> first | rfl | cases h4
    exact PE.weak (pe_lc (own := ownOf G.N sc) (ok.calm h1) ok.nd (hI ok tg iter) bo
      (fun s H C cl fp => pg_gD (blk_ok ok s H C cl fp) (ok.calm h1) tg) (fun s H C cl fp => pts_D R (blk_ok ok s H C cl fp) ifs) (fun s H C cl fp => R.e (blk_ok ok s H C cl fp) elt) hs) fun σ H Q h => comp_read h0 h
  · refine PE.weak PE.any fun σ H Q h => te_none (f := compD r G elt tg iter ifs sc pos) (fun ρ => ?_) h
    unfold compD
    exact if_neg h0
/-- y = [..], stored within the comprehension's frame -/
theorem ps_compD (R : EnOk W r) (hI : ∀ {X : Cx} {Z : WX} {G : Ctx}, EOk W X Z G → ∀ tg iter, PI X tg iter (TIof W Z (iD r G tg iter))) (ok : EOk W X Z G) {i : Nat} {y : Str} {py spos : Pos} {elt tg iter : Expr} {ifs : List Expr} {sc : Scope} {pos : Pos} (hy : X.N[i]? = some y) (hyl : X.env.scope.names.lookup y = some .local)
    (hsw : swapsWith (.ListComp elt [⟨tg, iter, ifs, 0⟩] sc pos) (some (.Name y py)) spos.line X.env = pure true) :
    PS X (.Assign [.Name y py] (.ListComp elt [⟨tg, iter, ifs, 0⟩] sc pos) spos) (tAsg (TEof W Z (compD r G elt tg iter ifs sc pos)) (gName i)) := by
  by_cases h0 : CompIf G tg iter sc
  · obtain ⟨h1, h2, h3, h4⟩ := id h0
    have bo : BlkOk X.N X.env.scope sc (ownOf G.N sc) := by rw [ok.N, ok.sc]; exact blkOk_by h2
    have hs : ∀ x, foldedSetIterable iter X.env x = pure x := by
      intro x
      unfold foldedSetIterable
      cases iter <;> first | rfl | cases h4
    exact PS.weak (ps_setLc (own := ownOf G.N sc) (ok.calm h1) ok.nd hy hyl hsw (hI ok tg iter) bo
      (fun s H C cl fp => pg_gD (blk_ok ok s H C cl fp) (ok.calm h1) tg) (fun s H C cl fp => pts_D R (blk_ok ok s H C cl fp) ifs) (fun s H C cl fp => R.e (blk_ok ok s H C cl fp) elt) hs) fun D σ H h => comp_read h0 h
  · refine PS.weak PS.any fun D σ H h => te_none (f := compD r G elt tg iter ifs sc pos) (fun ρ => ?_) h
    unfold compD
    exact if_neg h0
end
end Pu

set_option Elab.async false
set_option linter.all false
set_option maxRecDepth 100000
/-! Pu10: zip of two texts; all that is walked. -/
namespace Pu
open PySem L2

/-- two texts, sign by sign, in new pairs -/
def ItzS (x y : Str) : It :=
  ⟨fun i _ => i < min x.cps.size y.cps.size,
    fun i H v H' => ∃ T c d, v = .ref T ∧ H T = none ∧ H' = upd H T (.tup [.str ⟨#[c]⟩, .str ⟨#[d]⟩]) ∧ x.cps[i]? = some c ∧ y.cps[i]? = some d,
    fun i _ => i = min x.cps.size y.cps.size⟩
theorem turn_zipS {P : Program} {w : World} {K : PySem.W.Frag} {elts : List Expr} {kk : Nat} {tpos : Pos} {x y : Str} {t1 t2 : Tok} {N : Nat} :
    Turn P w K (.Tuple elts kk tpos) (ItzS x y) ((N + 4) :: (N + 2) :: (N + 3) :: ([N] ++ [N + 1])) (N + 4)
      (fun i h => IsZip h (N + 4) (N + 2) (N + 3) .none ∧ IsTupOf2 h (N + 2) (.ref N) (.ref (N + 1)) ∧ (∃ a1 a2, IsTupOf2 h (N + 3) a1 a2) ∧ h.IsStrIter N (strIterType x) x t1 i ∧ h.IsStrIter (N + 1) (strIterType y) y t2 i) := by
  have S : ZipSep2 (N + 4) (N + 2) (N + 3) N (N + 1) [N] [N + 1] := zip_sep2 (fp1 := []) (fp2 := []) (fun _ z => nomatch z) (fun _ z => nomatch z)
  have walk : ∀ {A : Around}, A.handled = none → _ := fun {A} (hh : A.handled = none) => WalksT.zipD2 (prog := P) (w := w) (A := A) S (Draws.text (A := A.in1) hh N x t1) (Draws.text (A := A.in1) hh (N + 1) y t2)
  refine ⟨List.mem_cons_self, fun i h st c hc => ?_, fun i h h' st k => ?_, ?_, ?_, fun A i s Q E st q => wpAny_pyIter_zip st.1 q⟩
  · obtain ⟨hz, hTI, ⟨a1, a2, hTO⟩, ⟨o1, e1, _, d1⟩, ⟨o2, e2, _, d2⟩⟩ := st
    have e' : c = N + 4 ∨ c = N + 2 ∨ c = N + 3 ∨ c = N ∨ c = N + 1 := by simpa using hc
    rcases e' with q | q | q | q | q
    · rw [q]; exact ⟨_, hz, fun v q => nomatch q⟩
    · rw [q]; exact ⟨_, hTI, fun v q => nomatch q⟩
    · rw [q]; exact ⟨_, hTO, fun v q => nomatch q⟩
    · rw [q]; exact ⟨o1, e1, fun v q => by rw [d1] at q; cases q⟩
    · rw [q]; exact ⟨o2, e2, fun v q => by rw [d2] at q; cases q⟩
  · obtain ⟨hz, hTI, ⟨a1, a2, hTO⟩, ⟨o1, e1, r1⟩, ⟨o2, e2, r2⟩⟩ := st
    exact ⟨k _ (by simp) _ hz, k _ (by simp) _ hTI, ⟨a1, a2, k _ (by simp) _ hTO⟩, ⟨o1, k _ (by simp) _ e1, r1⟩, ⟨o2, k _ (by simp) _ e2, r2⟩⟩
  · intro X hP hw hK hc i pins s σ H E I hf st hg
    subst hP hw hK
    have hh : X.A.handled = none := I.ok.hd hc
    have Wk := walk hh
    refine Wk.item i s _ E hg st fun T vals h1 tk hPt hT htup hmid hk => ⟨.ref T, rfl, ?_⟩
    have hap := Wk.apart i T h1 hmid
    refine Wk.go elts kk tpos i T { s with heap := h1, toks := tk } _ E hmid fun h2 st2 hk2 => ?_
    obtain ⟨u1, u2, ⟨c, k1, hc1, rfl⟩, ⟨d, k2, hd1, rfl⟩, rfl⟩ := hPt
    obtain ⟨o, ho, ocls, n, od⟩ := htup
    have ho2 : h2.get? T = some o := hk2 T o hap ho
    have new : ObjOk X.prog X.w (upd H T (.tup [.str ⟨#[c]⟩, .str ⟨#[d]⟩])) h2 T (.tup [.str ⟨#[c]⟩, .str ⟨#[d]⟩]) :=
      ⟨by show 2 ≤ sizeLine; decide, [.str ⟨#[c]⟩ k1, .str ⟨#[d]⟩ k2], .cons ⟨_, rfl⟩ (.cons ⟨_, rfl⟩ .nil), ⟨o, ho2, ocls, n, od⟩⟩
    have sub : ∀ b, b ∈ [N + 4, N + 3, N, N + 1] → b ∈ (N + 4) :: (N + 2) :: (N + 3) :: ([N] ++ [N + 1]) := Wk.sub
    have I1 := I.turnedNew (t' := tk) (ch := (N + 4) :: (N + 2) :: (N + 3) :: ([N] ++ [N + 1])) (fun b ob hb q => hk2 b ob (fun z => hb (sub b z)) (hk b ob (fun z => hb (sub b z)) q)) hf hT new
    refine ⟨.ref T, _, I1, rfl, ⟨T, c, d, rfl, I.hok.fresh hT, rfl, hc1, hd1⟩, st2, fun b hb => ?_⟩
    have hlt : b < s.heap.objs.size := by
      obtain ⟨hz, hTI, ⟨a1, a2, hTO⟩, ⟨o1, e1, _⟩, ⟨o2, e2, _⟩⟩ := st
      have e' : b = N + 4 ∨ b = N + 2 ∨ b = N + 3 ∨ b = N ∨ b = N + 1 := by simpa using hb
      rcases e' with q | q | q | q | q
      · rw [q]; exact Heap.lt_size hz
      · rw [q]; exact Heap.lt_size hTI
      · rw [q]; exact Heap.lt_size hTO
      · rw [q]; exact Heap.lt_size e1
      · rw [q]; exact Heap.lt_size e2
    rw [upd_ne (Nat.ne_of_lt (Nat.lt_of_lt_of_le hlt hT))]
    exact (hf b hb).1
  · intro X hP hw hK hc i pins s σ H E I hf st hg
    subst hP hw hK
    have hh : X.A.handled = none := I.ok.hd hc
    have Wk := walk hh
    have hg' : i = min x.cps.size y.cps.size := hg
    subst hg'
    exact Wk.done s _ E st fun h1 tk hk => ⟨rfl, I.turnedL (t' := tk) (ch := (N + 4) :: (N + 2) :: (N + 3) :: ([N] ++ [N + 1])) (fun b ob hb q => hk b ob (fun z => hb (Wk.sub b z)) q) hf⟩
def iZipS (ta : TA) : TI := fun σ H R => ta σ H fun vs H1 => ∃ x y : Str, vs = [.str x, .str y] ∧ R (ItzS x y) H1
theorem pi_zipS {X : Cx} {e e2 : Expr} {ta : TA} {p pos tpos : Pos} {elts : List Expr} {kk : Nat} (hg : Gl X "zip") (hm : X.mg "zip" = none) (ha : PA X [e, e2] ta)
    (hs : starEach [e, e2] X.env = (false, eval e X.env) :: starEach [e2] X.env) (hpl : (backTo pos (starEach [e2] X.env)).any (·.1) = false) :
    PI X (.Tuple elts kk tpos) (.Call (.Name "zip" p) [e, e2] [] pos) (iZipS ta) := by
  refine ⟨fun pins s σ H R I h => ?_⟩
  refine PyProof.Rows.Call_ (ld_blt I hg hm PyProof.Rows.boot_zip (PyProof.Rows.callWith_type1 (thn (ha.run pos pins s σ H _ I h) fun us s1 ⟨vs, H1, I1, r1, q1⟩ => ?_) hs hpl))
  obtain ⟨x, y, rfl, q⟩ := q1
  obtain ⟨u1, u2, rfl, ⟨t1, rfl⟩, ⟨t2, rfl⟩⟩ := vals2 r1
  refine zip_begins2 (begins_text x t1) (begins_text y t2) trivial trivial fun h1 hz hTI hTO e1 e2 hsz hk => wpAny_pyIter_zip hz ?_
  have I2 : Inv X pins σ H1 { s1 with heap := h1 } := I1.kept (t' := s1.toks) hk
  refine ⟨s1.heap.objs.size + 4, _, _, _, H1, rfl, I2, turn_zipS (N := s1.heap.objs.size) (t1 := t1) (t2 := t2), ⟨hz, hTI, ⟨_, _, hTO⟩, ⟨_, e1, rfl, rfl⟩, ⟨_, e2, rfl, rfl⟩⟩, fun b hb => ?_, q⟩
  have hle : s1.heap.objs.size ≤ b := by
    have e' : b = s1.heap.objs.size + 4 ∨ b = s1.heap.objs.size + 2 ∨ b = s1.heap.objs.size + 3 ∨ b = s1.heap.objs.size ∨ b = s1.heap.objs.size + 1 := by simpa using hb
    rcases e' with z | z | z | z | z
    · rw [z]; exact Nat.le_add_right _ _
    · rw [z]; exact Nat.le_add_right _ _
    · rw [z]; exact Nat.le_add_right _ _
    · rw [z]; exact Nat.le_refl _
    · rw [z]; exact Nat.le_add_right _ _
  exact I1.fpOk hle (I1.hok.fresh hle)
section
variable {W : Wd} {Z : WX} {X : Cx} {G : Ctx} {r : Dn}
theorem zip_get {xs ys : List D} {i : Nat} {x y : D} (h1 : xs[i]? = some x) (h2 : ys[i]? = some y) : (List.zipWith (fun p q => D.tup [p, q]) xs ys)[i]? = some (.tup [x, y]) := by
  rw [List.getElem?_zipWith, h1, h2]
theorem itm_zipS {m : Mem} {x y : Str} : Itm W (ItzS x y) m (List.zipWith (fun p q => .tup [p, q]) (signsL x) (signsL y)) := by
  have hl : (List.zipWith (fun p q => D.tup [p, q]) (signsL x) (signsL y)).length = min x.cps.size y.cps.size := by simp [signsL]
  refine ⟨fun i n _ _ h => by rw [hl] at h; exact h, fun n _ _ => hl, fun i n v H' _ g h z => ?_⟩
  obtain ⟨T, c, d, rfl, hT, rfl, e1, e2⟩ := z
  refine ⟨n.put T (.tup [.str ⟨#[c]⟩, .str ⟨#[d]⟩]), .tup [.str ⟨#[c]⟩, .str ⟨#[d]⟩], rfl, step_put g hT, good_put g hT, rfl, rfl, zip_get ?_ ?_, den_tup g hT (.cons (.str _) (.cons (.str _) .nil))⟩
  · simp only [signsL, List.getElem?_map, Array.getElem?_toList, e1, Option.map_some]
  · simp only [signsL, List.getElem?_map, Array.getElem?_toList, e2, Option.map_some]
theorem itm_zipL {m : Mem} {a b : Addr} {xs ys : List D} {vs ws : List V} (h1 : PurL W m a vs) (l1 : DenL W m xs vs) (h2 : PurL W m b ws) (l2 : DenL W m ys ws) : Itm W (Itz W.K a b) m (List.zipWith (fun p q => .tup [p, q]) xs ys) := by
  have s1 : ∀ n, Up m n → SqL W.K n.H a vs := fun n u => (h1.up u).sq
  have s2 : ∀ n, Up m n → SqL W.K n.H b ws := fun n u => (h2.up u).sq
  have hl : (List.zipWith (fun p q => D.tup [p, q]) xs ys).length = min vs.length ws.length := by simp [l1.length, l2.length]
  refine ⟨fun i n u _ h => ?_, fun n u _ => ⟨vs, ws, s1 n u, s2 n u, by rw [hl]; omega⟩, fun i n v H' u g h z => ?_⟩
  · rw [hl] at h
    have z1 : i < vs.length := by omega
    have z2 : i < ws.length := by omega
    exact ⟨vs, ws, vs[i], ws[i], s1 n u, s2 n u, by simp [z1], by simp [z2]⟩
  · obtain ⟨T, x, y, rfl, hT, rfl, e1, e2⟩ := z
    obtain ⟨dx, f1, f2⟩ := (l1.up u).getV (e1 vs (s1 n u))
    obtain ⟨dy, f3, f4⟩ := (l2.up u).getV (e2 ws (s2 n u))
    exact ⟨n.put T (.tup [x, y]), .tup [dx, dy], rfl, step_put g hT, good_put g hT, rfl, rfl, zip_get f1 f3, den_tup g hT (.cons f2 (.cons f4 .nil))⟩
theorem itm_zipT {m : Mem} {a b : Addr} {xs ys : List D} {vs ws : List V} (h1 : PurT W m a vs) (l1 : DenL W m xs vs) (h2 : PurT W m b ws) (l2 : DenL W m ys ws) : Itm W (RZ.ItzT W.K a b) m (List.zipWith (fun p q => .tup [p, q]) xs ys) := by
  have s1 : ∀ n, Up m n → SqT W.K n.H a vs := fun n u => (h1.up u).sq
  have s2 : ∀ n, Up m n → SqT W.K n.H b ws := fun n u => (h2.up u).sq
  have hl : (List.zipWith (fun p q => D.tup [p, q]) xs ys).length = min vs.length ws.length := by simp [l1.length, l2.length]
  refine ⟨fun i n u _ h => ?_, fun n u _ => ⟨vs, ws, s1 n u, s2 n u, by rw [hl]; omega⟩, fun i n v H' u g h z => ?_⟩
  · rw [hl] at h
    have z1 : i < vs.length := by omega
    have z2 : i < ws.length := by omega
    exact ⟨vs, ws, vs[i], ws[i], s1 n u, s2 n u, by simp [z1], by simp [z2]⟩
  · obtain ⟨T, x, y, rfl, hT, rfl, e1, e2⟩ := z
    obtain ⟨dx, f1, f2⟩ := (l1.up u).getV (e1 vs (s1 n u))
    obtain ⟨dy, f3, f4⟩ := (l2.up u).getV (e2 ws (s2 n u))
    exact ⟨n.put T (.tup [x, y]), .tup [dx, dy], rfl, step_put g hT, good_put g hT, rfl, rfl, zip_get f1 f3, den_tup g hT (.cons f2 (.cons f4 .nil))⟩
theorem pi_zipD (R : EnOk W r) (ok : EOk W X Z G) (elts : List Expr) (kk : Nat) (tpos : Pos) (a b : Expr) (p pos : Pos) (h1 : glB G.sc "zip" = true) (h2 : G.isB "zip" = true) (h3 : noStar [a, b] = true) :
    PI X (.Tuple elts kk tpos) (.Call (.Name "zip" p) [a, b] [] pos) (TIof W Z fun ρ => do let d ← r.e G a ρ; let e ← r.e G b ρ; zipD d e) := by
  obtain ⟨z1, z2⟩ := star_cons (env := X.env) h3
  obtain ⟨z3, z4⟩ := star_cons (env := X.env) z2
  have pa : PA X [a, b] (tCons (TEof W Z (r.e G a)) (tCons (TEof W Z (r.e G b)) tNil)) := pa_cons (R.e ok a) (pa_cons (R.e ok b) pa_nil z3) z1
  refine PI.weak (PI.or (pi_zipS (gl_of ok h1) (ok.g.bl _ h2) pa z1 (star_any z2)) (RZ.pi_zipA (gl_of ok h1) (ok.g.bl _ h2) pa z1 (star_any z2))) fun σ H Rr h => ?_
  obtain ⟨ρ, m, e1, g, rr, w⟩ := h
  rw [ok.K]
  have w1 := wpR_bind w
  -- which of the two: by what the operands are
  have left : ∀ {P : List V → Hp → Prop}, (∀ (d e : D) (m2 : Mem), Okm W m2 → ∀ v u, Den W m2 d v → Den W m2 e u → wpR W m2 (EWish W Z σ) (fun ds m' => ∀ J, Itm W J m' ds → Rr J m'.H) (zipD d e m2.μ) → r.e G a ρ m.μ = .ok d (r.e G a ρ m.μ |> fun z => match z with | .ok _ μ => μ | _ => m.μ) → P [v, u] m2.H) →
      tCons (TEof W Z (r.e G a)) (tCons (TEof W Z (r.e G b)) tNil) σ H P := by
    intro P hP
    refine ⟨ρ, m, e1, g, rr, ?_⟩
    cases q : r.e G a ρ m.μ with
    | stuck => rw [q] at w1; exact w1.elim
    | exc x μ' => rw [q] at w1; exact w1
    | ok d μ1 =>
      rw [q] at w1
      intro m1 s1 g1 e2 v hv
      refine ⟨ρ, m1, rfl, g1, rr.mono s1, (wpR_bind (w1 m1 s1 g1 e2)).mono (fun _ _ _ _ z => z) fun e m2 s2 g2 w2 u hu => ?_⟩
      exact hP d e m2 g2 v u (hv.mono s2) hu w2 (by rw [q])
  cases q : r.e G a ρ m.μ with
  | stuck => rw [q] at w1; exact w1.elim
  | exc x μ' =>
    refine .inl (left fun d e m2 g2 v u hv hu w2 z => ?_)
    rw [q] at z; cases z
  | ok d0 μ1 =>
    have text : (∃ x, d0 = .str x) → iZipS (tCons (TEof W Z (r.e G a)) (tCons (TEof W Z (r.e G b)) tNil)) σ H Rr := fun ⟨x, ex⟩ => (left (P := fun vs H1 => ∃ x y : Str, vs = [V.str x, V.str y] ∧ Rr (ItzS x y) H1) fun d e m2 g2 v u hv hu w2 z => by
      rw [q] at z
      cases z
      subst ex
      cases e with
      | str y =>
        cases den_str hv
        cases den_str hu
        exact ⟨x, y, rfl, w2 m2 (Step.refl m2) g2 rfl _ itm_zipS⟩
      | _ => exact (show False from w2).elim)
    have seq : (∀ x, d0 ≠ .str x) → RZ.iZipA W.K (tCons (TEof W Z (r.e G a)) (tCons (TEof W Z (r.e G b)) tNil)) σ H Rr := fun nx => (left (P := fun vs H1 => ∃ a b xs ys, vs = [V.ref a, V.ref b] ∧ ((SqL W.K H1 a xs ∧ SqL W.K H1 b ys ∧ Rr (Itz W.K a b) H1) ∨ (SqT W.K H1 a xs ∧ SqT W.K H1 b ys ∧ Rr (RZ.ItzT W.K a b) H1))) fun d e m2 g2 v u hv hu w2 z => by
      rw [q] at z
      cases z
      cases d0 with
      | str x => exact absurd rfl (nx x)
      | tup xs =>
        cases e with
        | tup ys =>
          cases hv with
          | tup a1 a2 =>
            cases hu with
            | tup b1 b2 => exact ⟨_, _, _, _, rfl, .inr ⟨a1.sq, b1.sq, w2 m2 (Step.refl m2) g2 rfl _ (itm_zipT a1 a2 b1 b2)⟩⟩
        | _ => exact (show False from w2).elim
      | lst xs =>
        cases e with
        | lst ys =>
          cases hv with
          | lst a1 an a2 =>
            cases hu with
            | lst b1 bn b2 => exact ⟨_, _, _, _, rfl, .inl ⟨.inl (.inl a1), .inl (.inl b1), w2 m2 (Step.refl m2) g2 rfl _ (itm_zipL (.inl ⟨.inl a1, an⟩) a2 (.inl ⟨.inl b1, bn⟩) b2)⟩⟩
        | _ => exact (show False from w2).elim
      | _ => exact (show False from w2).elim)
    cases d0 with
    | str x => exact .inl (text ⟨x, rfl⟩)
    | _ => exact .inr (seq fun x z => nomatch z)
theorem ish_1 {tg iter a : Expr} (h : ishape tg iter = .rng1 a) : ∃ p pos, iter = .Call (.Name "range" p) [a] [] pos := by
  unfold ishape at h
  split at h
  · split at h
    · rename_i e; cases h; subst e; exact ⟨_, _, rfl⟩
    · cases h
  · split at h
    · cases h
    · split at h <;> cases h
  · split at h <;> cases h
  · cases h
theorem ish_2 {tg iter a b : Expr} (h : ishape tg iter = .rng2 a b) : ∃ p pos, iter = .Call (.Name "range" p) [a, b] [] pos := by
  unfold ishape at h
  split at h
  · split at h <;> cases h
  · split at h
    · rename_i e; cases h; subst e; exact ⟨_, _, rfl⟩
    · split at h <;> cases h
  · split at h
    · rename_i e; cases h; subst e; exact ⟨_, _, rfl⟩
    · cases h
  · cases h
theorem ish_z {tg iter a b : Expr} (h : ishape tg iter = .zip a b) : ∃ elts kk tpos p pos, tg = .Tuple elts kk tpos ∧ iter = .Call (.Name "zip" p) [a, b] [] pos := by
  unfold ishape at h
  split at h
  · split at h <;> cases h
  · split at h
    · cases h
    · split at h
      · rename_i e; cases h; subst e; exact ⟨_, _, _, _, _, rfl, rfl⟩
      · cases h
  · split at h <;> cases h
  · cases h
theorem pi_D (R : EnOk W r) (ok : EOk W X Z G) (tg iter : Expr) : PI X tg iter (TIof W Z (iD r G tg iter)) := by
  have none_of : (∀ ρ, iD r G tg iter ρ = stuck) → PI X tg iter (TIof W Z (iD r G tg iter)) := fun z => PI.weak PI.any fun σ H Rr h => ti_none z h
  cases h : ishape tg iter with
  | rng1 a =>
    obtain ⟨p, pos, rfl⟩ := ish_1 h
    by_cases hz : glB G.sc "range" = true ∧ G.isB "range" = true ∧ noStar [a] = true
    · refine PI.weak (pi_rng1 R ok tg a p pos hz.1 hz.2.1 hz.2.2) fun σ H Rr q => ?_
      obtain ⟨ρ, m, e1, g, rr, w⟩ := q
      unfold iD at w
      rw [h] at w
      simp only at w
      rw [if_pos hz] at w
      exact ⟨ρ, m, e1, g, rr, w⟩
    · refine none_of fun ρ => ?_
      unfold iD
      rw [h]
      simp only
      rw [if_neg hz]
  | rng2 a b =>
    obtain ⟨p, pos, rfl⟩ := ish_2 h
    by_cases hz : glB G.sc "range" = true ∧ G.isB "range" = true ∧ noStar [a, b] = true
    · refine PI.weak (pi_rng2 R ok tg a b p pos hz.1 hz.2.1 hz.2.2) fun σ H Rr q => ?_
      obtain ⟨ρ, m, e1, g, rr, w⟩ := q
      unfold iD at w
      rw [h] at w
      simp only at w
      rw [if_pos hz] at w
      exact ⟨ρ, m, e1, g, rr, w⟩
    · refine none_of fun ρ => ?_
      unfold iD
      rw [h]
      simp only
      rw [if_neg hz]
  | zip a b =>
    obtain ⟨elts, kk, tpos, p, pos, rfl, rfl⟩ := ish_z h
    by_cases hz : glB G.sc "zip" = true ∧ G.isB "zip" = true ∧ noStar [a, b] = true
    · refine PI.weak (pi_zipD R ok elts kk tpos a b p pos hz.1 hz.2.1 hz.2.2) fun σ H Rr q => ?_
      obtain ⟨ρ, m, e1, g, rr, w⟩ := q
      unfold iD at w
      rw [h] at w
      simp only at w
      rw [if_pos hz] at w
      exact ⟨ρ, m, e1, g, rr, w⟩
    · refine none_of fun ρ => ?_
      unfold iD
      rw [h]
      simp only
      rw [if_neg hz]
  | other =>
    refine PI.weak (pi_other R ok tg iter) fun σ H Rr q => ?_
    obtain ⟨ρ, m, e1, g, rr, w⟩ := q
    unfold iD at w
    rw [h] at w
    exact ⟨ρ, m, e1, g, rr, w⟩
end
end Pu

set_option Elab.async false
set_option linter.all false
set_option maxRecDepth 100000
/-! Pu11: one step of an expression, one step of a test: kept by the model. -/
namespace Pu
open PySem L2
section
variable {W : Wd} {Z : WX} {X : Cx} {G : Ctx} {σ : St} {H : Hp} {Q : VK} {r : Dn}
/-! ### dict displays -/
theorem DenK.any {m : Mem} (k : Key) : ∀ {ds : List (Key × D)} {vs : List (Key × V)}, DenK W m ds vs → (ds.any fun kv => decide (kv.1 = k)) = (vs.any fun kv => decide (kv.1 = k))
  | _, _, .nil => rfl
  | _, _, .cons _ t => by rw [List.any_cons, List.any_cons, DenK.any k t]
theorem DenK.append {m : Mem} : ∀ {ds es : List (Key × D)} {vs ws : List (Key × V)}, DenK W m ds vs → DenK W m es ws → DenK W m (ds ++ es) (vs ++ ws)
  | _, _, _, _, .nil, s => s
  | _, _, _, _, .cons r t, s => .cons r (DenK.append t s)
theorem DenK.map {m : Mem} {d : D} {v : V} (k : Key) (h : Den W m d v) : ∀ {ds : List (Key × D)} {vs : List (Key × V)}, DenK W m ds vs → DenK W m (ds.map fun kv => if kv.1 = k then (kv.1, d) else kv) (vs.map fun kv => if kv.1 = k then (kv.1, v) else kv)
  | _, _, .nil => .nil
  | _, _, .cons (k := k') r t => by
    rw [List.map_cons, List.map_cons]
    by_cases e : k' = k
    · simp only [e, ↓reduceIte]
      exact .cons h (DenK.map k h t)
    · simp only [e, ↓reduceIte]
      exact .cons r (DenK.map k h t)
theorem DenK.put {m : Mem} {d : D} {v : V} (k : Key) (h : Den W m d v) {ds : List (Key × D)} {vs : List (Key × V)} (l : DenK W m ds vs) : DenK W m (putD ds k d) (putK vs k v) := by
  unfold putD putK
  rw [l.any k]
  split
  · exact l.map k h
  · exact l.append (.cons h .nil)
theorem DenK.merge {m : Mem} : ∀ {es : List (Key × D)} {ws : List (Key × V)} {ds : List (Key × D)} {vs : List (Key × V)}, DenK W m es ws → DenK W m ds vs → DenK W m (mergeD ds es) (mergeK vs ws)
  | _, _, _, _, .nil, l => l
  | _, _, ds, vs, .cons (k := k) (d := d) (v := v) (ds := es) (vs := ws) h t, l => show DenK W m (mergeD (putD ds k d) es) (mergeK (putK vs k v) ws) from DenK.merge t (l.put _ h)
/-- what an expression leaves may be locked -/
theorem pe_lk {e : Expr} {t : TE} (h : PE X e t) : PE X e (fun σ H Q => t σ H fun x H1 => Q x H1 ∨ ∃ d u, H1 d = some u ∧ Mut (some u) ∧ ∀ od, Q x (upd H1 d (.frz od u))) := by
  refine ⟨fun pins s σ H Q I q => thn (h.run pins s σ H _ I q) fun v s1 ⟨x, H1, I1, rx, q1⟩ => ?_⟩
  rcases q1 with q1 | ⟨d, u, e, mu, q1⟩
  · exact ⟨x, H1, I1, rx, q1⟩
  · obtain ⟨od, I2⟩ := I1.lock e mu
    exact ⟨x, _, I2, rx, q1 od⟩
theorem EnvOk.up {m m' : Mem} {ρ : Sl} (s : Up m m') (h : EnvOk W m ρ σ) : EnvOk W m' ρ σ := ⟨h.len, fun i d e => let ⟨v, e1, e2⟩ := h.get i d e; ⟨v, e1, e2.up s⟩⟩
theorem keyOf_den {m : Mem} {d : D} {v : V} {k : Key} (h : Den W m d v) (e : keyOf d = some k) : v = kV k := by
  cases d with
  | int i => cases h; cases e; rfl
  | str i => cases h; cases e; rfl
  | _ => cases e
def trsOf (W : Wd) (Z : WX) (r : Dn) (G : Ctx) : List (Option Expr) → List Expr → List (TE × TE)
  | some k :: ks, v :: vs => (TEof W Z (r.e G k), TEof W Z (r.e G v)) :: trsOf W Z r G ks vs
  | _, _ => []
theorem pps_D (R : EnOk W r) (ok : EOk W X Z G) {pos : Pos} : ∀ {ks : List (Option Expr)} {vs : List Expr}, ks.all (·.isSome) = true → ks.length = vs.length → PPs X pos ks vs (trsOf W Z r G ks vs)
  | [], [], _, _ => pps_nil
  | some k :: ks, v :: vs, h, l => pps_cons (R.e ok k) (R.e ok v) (pps_D R ok (by rw [List.all_cons] at h; exact (Bool.and_eq_true_iff.mp h).2) (Nat.succ.inj l))
  | none :: ks, _, h, _ => by rw [List.all_cons] at h; cases h
theorem pairs_read {P : List (V × V) → Hp → Prop} {ρ : Sl} {E : Ex → Mem → Prop} : ∀ (ks : List (Option Expr)) (vs : List Expr) (P : List (V × V) → Hp → Prop) (m : Mem), EnvOk W m ρ σ → Okm W m → wpR W m (EWish W Z σ) (fun l m' => ∀ kvs, DenK W m' l kvs → P (kvs.map fun kv => (kV kv.1, kv.2)) m'.H) (pairsD r G ks vs ρ m.μ) → tPairs (trsOf W Z r G ks vs) σ m.H P
  | [], [], P, m, rr, g, w => w m (Step.refl m) g rfl [] .nil
  | [], _ :: _, P, m, rr, g, w => (show False from w).elim
  | none :: _, _, P, m, rr, g, w => (show False from w).elim
  | some k :: ks, [], P, m, rr, g, w => (show False from w).elim
  | some k :: ks, v :: vs, P, m, rr, g, w => by
    refine ⟨ρ, m, rfl, g, rr, (wpR_bind w).mono (fun _ _ _ _ z => z) fun x m1 s1 g1 w1 vx hx => ⟨ρ, m1, rfl, g1, rr.mono s1, (wpR_bind w1).mono (fun _ _ _ _ z => z) fun y m2 s2 g2 w2 vy hy => ?_⟩⟩
    refine pairs_read (E := E) (P := P) ks vs (fun ps H3 => P ((vx, vy) :: ps) H3) m2 ((rr.mono s1).mono s2) g2 ((wpR_bind w2).mono (fun _ _ _ _ z => z) fun l m3 s3 g3 w3 kvs hk => ?_)
    cases q : keyOf x with
    | none => rw [q] at w3; exact (show False from w3).elim
    | some q1 =>
      rw [q] at w3
      have z := w3 m3 (Step.refl m3) g3 rfl ((q1, vy) :: kvs) (.cons (hy.mono s3) hk)
      rw [List.map_cons, ← keyOf_den hx q] at z
      exact z
theorem pairs_len {ρ : Sl} : ∀ (ks : List (Option Expr)) (vs : List Expr) (μ μ' : Sto) (l : List (Key × D)), pairsD r G ks vs ρ μ = .ok l μ' → l.length = ks.length
  | [], [], μ, μ', l, h => by cases h; rfl
  | [], _ :: _, μ, μ', l, h => by cases h
  | none :: _, _, μ, μ', l, h => by cases h
  | some k :: ks, [], μ, μ', l, h => by cases h
  | some k :: ks, v :: vs, μ, μ', l, h => by
    have h' : M.bind (r.e G k ρ) (fun x => M.bind (r.e G v ρ) fun y => M.bind (pairsD r G ks vs ρ) fun l => fun μ => match keyOf x with | some q => .ok ((q, y) :: l) μ | none => .stuck) μ = .ok l μ' := h
    unfold M.bind at h'
    cases q1 : r.e G k ρ μ with
    | ok x μ1 =>
      rw [q1] at h'
      simp only at h'
      cases q2 : r.e G v ρ μ1 with
      | ok y μ2 =>
        rw [q2] at h'
        simp only at h'
        cases q3 : pairsD r G ks vs ρ μ2 with
        | ok l2 μ3 =>
          rw [q3] at h'
          simp only at h'
          cases q4 : keyOf x with
          | some q => rw [q4] at h'; cases h'; rw [List.length_cons, List.length_cons, pairs_len ks vs μ2 μ' l2 q3]
          | none => rw [q4] at h'; cases h'
        | exc e μ3 => rw [q3] at h'; cases h'
        | stuck => rw [q3] at h'; cases h'
      | exc e μ2 => rw [q2] at h'; cases h'
      | stuck => rw [q2] at h'; cases h'
    | exc e μ1 => rw [q1] at h'; cases h'
    | stuck => rw [q1] at h'; cases h'
/-- a dict in the making is made, and locked -/
theorem dic_end {m m2 : Mem} {p : Addr} {ob : Obj} {kvs : List (Key × D)} {kv : List (Key × V)} {E : Ex → Mem → Prop} (g : Okm W m) (hp : m.H p = none) (k : Mk m m2 p) (g2 : Okm W m2) (l : DenK W m2 kvs kv) (w : out W m E Q (.ok (.dic kvs) m2.μ)) : Q (.ref p) (upd m2.H p (.frz ob (.dK kv))) := by
  have k3 : Mk m (m2.gro p (.frz ob (.dK kv))) p := k.gro g hp
  have g3 : Okm W (m2.gro p (.frz ob (.dK kv))) := okm_gro g2 k.mem
  obtain ⟨n1, n2⟩ := k3.new g hp g3
  refine w ((m2.gro p (.frz ob (.dK kv))).cls m.pv) k3.cls (okm_cls g3 k3.pv) rfl _ (.dic upd_same (fun z => ?_) ((l.up (up_gro k.mem)).up (up_cls k3.pv)))
  rcases z with ⟨i, o, e, _⟩ | z
  · exact n1 (List.mem_of_getElem? e)
  · exact n2 z
theorem pe_dispE (R : EnOk W r) (ok : EOk W X Z G) (ks : List (Option Expr)) (vs : List Expr) (pos : Pos) : PE X (.Dict ks vs pos) (TEof W Z (dispE r G ks vs)) := by
  by_cases hz : ks.all (·.isSome) = true ∧ ks.length = vs.length ∧ ks.length ≤ 15
  · obtain ⟨h1, h2, h3⟩ := id hz
    have open_ : ∀ {σ H Q}, TEof W Z (dispE r G ks vs) σ H Q → ∃ ρ m l μ', m.H = H ∧ Okm W m ∧ EnvOk W m ρ σ ∧ pairsD r G ks vs ρ m.μ = .ok l μ' ∧ out W m (EWish W Z σ) Q (.ok (.dic (mergeD [] l)) μ') := by
      rintro σ H Q ⟨ρ, m, e, g, rr, w⟩
      unfold dispE at w
      rw [if_pos hz] at w
      replace w : out W m (EWish W Z σ) Q (M.bind (noX (pairsD r G ks vs ρ)) (fun l => yes (.dic (mergeD [] l))) m.μ) := w
      unfold M.bind noX at w
      cases q : pairsD r G ks vs ρ m.μ with
      | ok l μ' => rw [q] at w; exact ⟨ρ, m, l, μ', e, g, rr, q, w⟩
      | exc x μ' => rw [q] at w; exact (show False from w).elim
      | stuck => rw [q] at w; exact (show False from w).elim
    by_cases h0 : ks = []
    · subst h0
      have e1 : vs = [] := by cases vs with | nil => rfl | cons _ _ => cases h2
      subst e1
      refine PE.weak (pe_lk pe_dnewK) fun σ H Q h => ?_
      obtain ⟨ρ, m, l, μ', e, g, rr, q, w⟩ := open_ h
      cases q
      subst e
      refine fun p hp => .inr ⟨p, .dK [], upd_same, trivial, fun od => ?_⟩
      rw [upd_upd]
      exact out.dic (ks := []) w g .nil hp od
    · refine PE.weak (pe_lk (pe_disp (pps_D R ok h1 h2) h1 h2 h0 h3)) fun σ H Q h => ?_
      obtain ⟨ρ, m, l, μ', e, g, rr, q, w⟩ := open_ h
      subst e
      intro p hp
      refine pairs_read (E := fun _ _ => True) (P := fun _ _ => True) ks vs _ (m.opn p (.dK [])) (rr.up (up_opn hp)) (okm_opn g hp) ?_
      rw [show pairsD r G ks vs ρ (m.opn p (.dK [])).μ = .ok l μ' from q]
      intro m2 s2 g2 e2 kvs hk
      have hl : kvs.length ≤ 15 := by rw [← hk.length, pairs_len ks vs _ _ _ q]; exact h3
      refine ⟨(s2.pvk p List.mem_cons_self).trans upd_same, kvs, rfl, hl, .inr ⟨p, _, upd_same, trivial, fun od => ?_⟩⟩
      rw [upd_upd]
      rw [← e2] at w
      exact dic_end g hp ((Mk.opn g hp).step s2) g2 (DenK.merge hk .nil) w
  · exact PE.weak PE.any fun σ H Q h => by
      obtain ⟨ρ, m, e, g, rr, w⟩ := h
      unfold dispE at w
      rw [if_neg hz] at w
      exact w
/-! ### join -/
theorem te_if {c : Prop} [Decidable c] {f : Sl → M D} (h : TEof W Z (fun ρ => if c then f ρ else stuck) σ H Q) : c ∧ TEof W Z f σ H Q := by
  obtain ⟨ρ, m, e, g, rr, w⟩ := h
  by_cases hc : c
  · refine ⟨hc, ρ, m, e, g, rr, ?_⟩
    simp only [hc, ↓reduceIte] at w
    exact w
  · simp only [hc, ↓reduceIte] at w
    exact (show False from w).elim
theorem isStr_wp {α : Type} {m : Mem} {d : D} {v : V} {E : Ex → Mem → Prop} {P : α → Mem → Prop} {f : Str → M α} (hv : Den W m d v) (w : wpR W m E P ((do let z ← isStr d; f z) m.μ)) : ∃ z, v = .str z ∧ wpR W m E P (f z m.μ) := by
  cases hv with
  | str z => exact ⟨z, rfl, w⟩
  | _ => exact (show False from w).elim
theorem pe_joinD (R : EnOk W r) (ok : EOk W X Z G) {o e : Expr} {ap pos : Pos} (h1 : plainO o = true) (h2 : noStar [e] = true) (h3 : (ap.endLine == pos.line) = true) :
    PE X (.Call (.Attribute o "join" ap) [e] [] pos) (TEof W Z fun ρ => do let x ← r.e G o ρ; let z ← isStr x; let y ← r.e G e ρ; joinD z y) := by
  obtain ⟨z1, z2⟩ := star_cons (env := X.env) h2
  refine PE.weak (pe_join (R.e ok o) (R.e ok e) z1 (plainO_base h1 _ _) h3) fun σ H Q h => ?_
  obtain ⟨ρ, m, ee, g, rr, w⟩ := h
  refine ⟨ρ, m, ee, g, rr, (wpR_bind w).mono (fun _ _ _ _ z => z) fun d m1 s1 g1 w1 v hv => ?_⟩
  obtain ⟨z, rfl, w2⟩ := isStr_wp hv w1
  refine ⟨⟨_, rfl⟩, ρ, m1, rfl, g1, rr.mono s1, (wpR_bind w2).mono (fun _ _ _ _ z => z) fun y m2 s2 g2 w3 u hu => ?_⟩
  unfold joinD at w3
  split at w3
  · rename_i ys e3
    split at w3
    · rename_i hz
      cases q2 : asS m2.μ y with
      | none => rw [q2] at e3; cases e3
      | some ds =>
        rw [q2] at e3
        obtain ⟨p, vs, rfl, h5, l⟩ := asS_den g2 hu q2
        have e4 := strsOf_map (show strsOf ds = some ys from e3)
        subst e4
        rw [DenL.of_strs l, ← ok.K] at h5
        exact ⟨z, p, ys, rfl, rfl, h5, hz, out.same (E := EWish W Z σ) w3 g2 (.str _)⟩
    · exact w3.elim
  · exact w3.elim
theorem pe_methD (R : EnOk W r) (ok : EOk W X Z G) (o : Expr) (m : Str) (es : List Expr) (ap pos : Pos) : PE X (.Call (.Attribute o m ap) es [] pos) (TEof W Z (methD r G o m es (ap.endLine == pos.line))) := by
  have none_of : (∀ ρ, methD r G o m es (ap.endLine == pos.line) ρ = stuck) → PE X (.Call (.Attribute o m ap) es [] pos) (TEof W Z (methD r G o m es (ap.endLine == pos.line))) := fun z => PE.weak PE.any fun σ H Q h => te_none z h
  by_cases h0 : plainO o = true ∧ noStar es = true ∧ (ap.endLine == pos.line) = true ∧ G.hot = false
  · match es, h0 with
    | [], h0 => exact none_of fun ρ => by unfold methD; rw [if_pos h0]
    | _ :: _ :: _, h0 => exact none_of fun ρ => by unfold methD; rw [if_pos h0]
    | [e], h0 =>
      by_cases hj : m = "join"
      · subst hj
        exact PE.weak (pe_joinD R ok h0.1 h0.2.1 h0.2.2.1) fun σ H Q h => (te_if (te_if h).2).2
      · refine none_of fun ρ => ?_
        unfold methD
        rw [if_pos h0]
        simp only
        rw [if_neg hj]
  · refine none_of fun ρ => ?_
    unfold methD
    rw [if_neg h0]

/-! ### slices -/
theorem po_D (R : EnOk W r) (ok : EOk W X Z G) : ∀ o : Option Expr, PO X o (TOof W Z (partD r G o))
  | none => ⟨fun pins s σ H Q I h => po_none.run pins s σ H Q I (let ⟨ρ, m, e, g, rr, w⟩ := h; e ▸ w m (Step.refl m) g rfl)⟩
  | some e => by
    have p := po_some (R.e ok e)
    refine ⟨fun pins s σ H Q I h => p.run pins s σ H Q I ?_⟩
    obtain ⟨ρ, m, ee, g, rr, w⟩ := h
    refine ⟨ρ, m, ee, g, rr, (wpR_bind w).mono (fun _ _ _ _ z => z) fun d m1 s1 g1 w1 v hv => ?_⟩
    cases d with
    | int i => cases den_int hv; exact ⟨i, rfl, w1 m1 (Step.refl m1) g1 rfl⟩
    | _ => exact (show False from w1).elim
theorem pe_slD (R : EnOk W r) (ok : EOk W X Z G) (a : Expr) (lo hi : Option Expr) (p pos : Pos) : PE X (.Subscript a (.Slice lo hi none p) pos) (TEof W Z fun ρ => do let x ← r.e G a ρ; let l ← partD r G lo ρ; let h ← partD r G hi ρ; slD x l h) := by
  refine PE.weak (pe_slice (sl_D ok.K) (R.e ok a) (po_D R ok lo) (po_D R ok hi)) fun σ H Q h => ?_
  obtain ⟨ρ, m, ee, g, rr, w⟩ := h
  refine ⟨ρ, m, ee, g, rr, (wpR_bind w).mono (fun _ _ _ _ z => z) fun d m1 s1 g1 w1 v hv => ?_⟩
  refine ⟨ρ, m1, rfl, g1, rr.mono s1, (wpR_bind w1).mono (fun _ _ _ _ z => z) fun l m2 s2 g2 w2 => ?_⟩
  refine ⟨ρ, m2, rfl, g2, (rr.mono s1).mono s2, (wpR_bind w2).mono (fun _ _ _ _ z => z) fun hh m3 s3 g3 w3 => ?_⟩
  exact ⟨_, d, m3, rfl, g3, (hv.mono s2).mono s3, w3⟩
theorem plain_ix {b : Expr} (h : isSlice b = false) : PlainIx b := by
  intro o i
  unfold subscripted
  cases b <;> first | rfl | cases h

/-! ### one step -/
theorem isTrue_plain' {e : Expr} (h : tplain e = true) (env : Env) : ∀ whole, isTrue e env whole = (do let v ← whole; standAt e.pos; holding [v] (truthy v)) := by
  intro whole
  cases e with
  | UnaryOp op a pos => cases op <;> first | rfl | cases h
  | BoolOp _ _ _ => cases h
  | IfExp _ _ _ _ => cases h
  | Compare _ _ _ _ => cases h
  | _ => rfl
theorem notSet_marks {b : Expr} (h : notSet b = true) (op : CmpOp) : behindInMarks op b = false := by
  cases b <;> first | rfl | cases h
theorem chain_out {f1 f2 f3 : Sl → M D} {op op' : CmpOp} (h : TEof W Z (fun ρ => do let x ← f1 ρ; let y ← f2 ρ; chainD G op op' x y (f3 ρ)) σ H Q) :
    tChain (R2of W (cmpO G op)) (R2of W (cmpO G op')) (TEof W Z f1) (TEof W Z f2) (TEof W Z f3) σ H Q := by
  obtain ⟨ρ, m, e, g, rr, w⟩ := h
  refine ⟨ρ, m, e, g, rr, (wpR_bind w).mono (fun _ _ _ _ z => z) fun x m1 s1 g1 w1 v hv => ?_⟩
  refine ⟨ρ, m1, rfl, g1, rr.mono s1, (wpR_bind w1).mono (fun _ _ _ _ z => z) fun y m2 s2 g2 w2 u hu => ?_⟩
  unfold chainD at w2
  refine ⟨EWish W Z σ, x, y, m2, rfl, g2, hv.mono s2, hu, (wpR_bind w2).mono (fun _ _ _ _ z => z) fun z m3 s3 g3 w3 t ht => ?_⟩
  cases z with
  | bl k =>
    cases den_bl ht
    refine ⟨k, rfl, ?_⟩
    cases k with
    | true =>
      rw [if_pos rfl]
      refine ⟨ρ, m3, rfl, g3, ((rr.mono s1).mono s2).mono s3, (wpR_bind w3).mono (fun _ _ _ _ z => z) fun c m4 s4 g4 w4 t2 ht2 => ?_⟩
      exact ⟨_, y, c, m4, rfl, g4, (hu.mono s3).mono s4, ht2, w4⟩
    | false =>
      rw [if_neg Bool.false_ne_true]
      exact out.same (E := EWish W Z σ) w3 g3 (.bl false)
  | _ => exact (show False from w3).elim
theorem pe_cmpE (R : EnOk W r) (ok : EOk W X Z G) (a : Expr) (ops : List CmpOp) (cs : List Expr) (pos : Pos) : PE X (.Compare a ops cs pos) (TEof W Z (cmpE r G a ops cs)) := by
  have none_of : (∀ ρ, cmpE r G a ops cs ρ = stuck) → PE X (.Compare a ops cs pos) (TEof W Z (cmpE r G a ops cs)) := fun z => PE.weak PE.any fun σ H Q h => te_none z h
  match ops, cs with
  | [op], [b] =>
    by_cases hb : notSet b = true
    · exact PE.weak (pe_cmpR (op_cmpO ok op) (R.e ok a) (R.e ok b) (notSet_marks hb op)) fun σ H Q h => te_op (te_if h).2
    · exact PE.weak PE.any fun σ H Q h => hb (te_if h).1
  | [op, op'], [b, c] =>
    by_cases hb : notSet c = true
    · exact PE.weak (pe_chain (op_cmpO ok op) (op_cmpO ok op') (R.e ok a) (R.e ok b) (R.e ok c) (notSet_marks hb op')) fun σ H Q h => chain_out (te_if h).2
    · exact PE.weak PE.any fun σ H Q h => hb (te_if h).1
  | [], _ => exact none_of fun _ => rfl
  | [_], [] => exact none_of fun _ => rfl
  | [_], _ :: _ :: _ => exact none_of fun _ => rfl
  | [_, _], [] => exact none_of fun _ => rfl
  | [_, _], [_] => exact none_of fun _ => rfl
  | [_, _], _ :: _ :: _ :: _ => exact none_of fun _ => rfl
  | _ :: _ :: _ :: _, _ => exact none_of fun _ => rfl
theorem pe_boolE (R : EnOk W r) (ok : EOk W X Z G) (op : BoolOp) (vs : List Expr) (pos : Pos) : PE X (.BoolOp op vs pos) (TEof W Z (boolE r G op vs pos)) := by
  match op, vs with
  | _, [] => exact PE.weak PE.any fun σ H Q h => te_none (f := fun _ => stuck) (fun _ => rfl) h
  | op, [a] => exact pe_one (R.e ok a)
  | .And, a :: b :: rest =>
    refine PE.weak (pe_andT (R.e ok a) (R.e ok (.BoolOp .And (b :: rest) pos))) fun σ H Q h => ?_
    obtain ⟨ρ, m, e, g, rr, w⟩ := h
    refine ⟨ρ, m, e, g, rr, (wpR_bind w).mono (fun _ _ _ _ z => z) fun x m1 s1 g1 w1 v hv => ?_⟩
    obtain ⟨k, h1, h2⟩ := te_truth ok.K g1 hv w1
    refine ⟨k, h1, ?_⟩
    cases k with
    | true => rw [if_pos rfl]; exact ⟨ρ, m1, rfl, g1, rr.mono s1, h2⟩
    | false => rw [if_neg Bool.false_ne_true]; exact out.same (E := EWish W Z σ) (d := x) h2 g1 hv
  | .Or, a :: b :: rest =>
    refine PE.weak (pe_orT (R.e ok a) (R.e ok (.BoolOp .Or (b :: rest) pos))) fun σ H Q h => ?_
    obtain ⟨ρ, m, e, g, rr, w⟩ := h
    refine ⟨ρ, m, e, g, rr, (wpR_bind w).mono (fun _ _ _ _ z => z) fun x m1 s1 g1 w1 v hv => ?_⟩
    obtain ⟨k, h1, h2⟩ := te_truth ok.K g1 hv w1
    refine ⟨k, h1, ?_⟩
    cases k with
    | true => rw [if_pos rfl]; exact out.same (E := EWish W Z σ) (d := x) h2 g1 hv
    | false => rw [if_neg Bool.false_ne_true]; exact ⟨ρ, m1, rfl, g1, rr.mono s1, h2⟩
theorem pe_unE (R : EnOk W r) (ok : EOk W X Z G) (op : UnaryOp) (a : Expr) (pos : Pos) : PE X (.UnaryOp op a pos) (TEof W Z (unE r G op a)) := by
  cases op with
  | USub => exact PE.weak (pe_un un_negD (R.e ok a)) fun σ H Q h => te_un h
  | Not =>
    refine PE.weak (pe_notT (R.e ok a)) fun σ H Q h => ?_
    obtain ⟨ρ, m, e, g, rr, w⟩ := h
    refine ⟨ρ, m, e, g, rr, (wpR_bind w).mono (fun _ _ _ _ z => z) fun x m1 s1 g1 w1 v hv => ?_⟩
    obtain ⟨k, h1, h2⟩ := te_truth ok.K g1 hv w1
    exact ⟨k, h1, out.same (E := EWish W Z σ) (d := .bl (!k)) h2 g1 (.bl _)⟩
  | _ => exact PE.weak PE.any fun σ H Q h => te_none (f := fun _ => stuck) (fun _ => rfl) h
theorem pe_subE (R : EnOk W r) (ok : EOk W X Z G) (a b : Expr) (pos : Pos) : PE X (.Subscript a b pos) (TEof W Z (subE r G a b)) := by
  have plain : isSlice b = false → (∀ ρ, subE r G a b ρ = (do let x ← r.e G a ρ; let y ← r.e G b ρ; ixD x y)) → PE X (.Subscript a b pos) (TEof W Z (subE r G a b)) := fun hb z =>
    PE.weak (pe_ix (ix_D ok.K) (R.e ok a) (R.e ok b) (plain_ix hb)) fun σ H Q h => te_op (by
      obtain ⟨ρ, m, e, g, rr, w⟩ := h
      exact ⟨ρ, m, e, g, rr, by rw [z] at w; exact w⟩)
  cases b with
  | Slice lo hi st p =>
    cases st with
    | none => exact pe_slD R ok a lo hi p pos
    | some _ => exact PE.weak PE.any fun σ H Q h => te_none (f := fun _ => stuck) (fun _ => rfl) h
  | _ => exact plain rfl fun _ => rfl
theorem pe_lcE (R : EnOk W r) (ok : EOk W X Z G) (elt : Expr) (gs : List Comprehension) (sc : Scope) (pos : Pos) : PE X (.ListComp elt gs sc pos) (TEof W Z (lcE r G elt gs sc pos)) := by
  match gs with
  | [] => exact PE.weak PE.any fun σ H Q h => te_none (f := fun _ => stuck) (fun _ => rfl) h
  | _ :: _ :: _ => exact PE.weak PE.any fun σ H Q h => te_none (f := fun _ => stuck) (fun _ => rfl) h
  | [⟨tg, iter, ifs, k⟩] =>
    by_cases hk : k = 0
    · subst hk
      exact PE.weak (pe_compD R (fun ok tg iter => pi_D R ok tg iter) ok elt tg iter ifs sc pos) fun σ H Q h => h
    · exact PE.weak PE.any fun σ H Q h => hk (te_if h).1
theorem pe_cllE (R : EnOk W r) (ok : EOk W X Z G) (f : Expr) (es : List Expr) (kws : List Keyword) (pos : Pos) : PE X (.Call f es kws pos) (TEof W Z (cllE r G f es kws pos)) := by
  cases kws with
  | nil =>
    cases f with
    | Name x p => exact pe_callD R ok x p es pos
    | Attribute o m p => exact pe_methD R ok o m es p pos
    | _ => exact PE.weak PE.any fun σ H Q h => te_none (f := fun _ => stuck) (fun _ => rfl) h
  | cons _ _ => exact PE.weak PE.any fun σ H Q h => te_none (f := fun _ => stuck) (fun _ => rfl) h
theorem pe_stepE (R : EnOk W r) (ok : EOk W X Z G) (ex : Expr) : PE X ex (TEof W Z (stepE r G ex)) := by
  cases ex with
  | Constant c k pos => exact pe_const ok c k pos
  | Name x pos => exact pe_name ok x pos
  | BinOp a op b pos => exact PE.weak (pe_op (op_binD ok.K op) (R.e ok a) (R.e ok b)) fun σ H Q h => te_op h
  | UnaryOp op a pos => exact pe_unE R ok op a pos
  | BoolOp op vs pos => exact pe_boolE R ok op vs pos
  | Compare a ops cs pos => exact pe_cmpE R ok a ops cs pos
  | IfExp c a b pos =>
    refine PE.weak (pe_ifExp (R.t ok c) (R.e ok a) (R.e ok b)) fun σ H Q h => ?_
    obtain ⟨ρ, m, e, g, rr, w⟩ := h
    refine ⟨ρ, m, e, g, rr, (wpR_bind w).mono (fun _ _ _ _ z => z) fun k m1 s1 g1 w1 => ?_⟩
    cases k with
    | true => rw [if_pos rfl]; exact ⟨ρ, m1, rfl, g1, rr.mono s1, w1⟩
    | false => rw [if_neg Bool.false_ne_true]; exact ⟨ρ, m1, rfl, g1, rr.mono s1, w1⟩
  | Tuple es k pos =>
    by_cases hb : noStar es = true
    · exact PE.weak (pe_tupD R ok hb) fun σ H Q h => (te_if h).2
    · exact PE.weak PE.any fun σ H Q h => hb (te_if h).1
  | List es pos =>
    by_cases hb : noStar es = true
    · exact PE.weak (pe_lstD R ok (n := G.hint pos) hb) fun σ H Q h => (te_if h).2
    · exact PE.weak PE.any fun σ H Q h => hb (te_if h).1
  | Dict ks vs pos => exact pe_dispE R ok ks vs pos
  | Subscript a b pos => exact pe_subE R ok a b pos
  | Call f es kws pos => exact pe_cllE R ok f es kws pos
  | ListComp elt gs sc pos => exact pe_lcE R ok elt gs sc pos
  | _ => exact PE.weak PE.any fun σ H Q h => te_none (f := fun _ => stuck) (fun _ => rfl) h
/-! ### one step of a test -/
theorem tt_none {f : Sl → M Bool} (e : ∀ ρ, f ρ = stuck) : ∀ {σ H P}, TTof W Z f σ H P → False := fun ⟨ρ, m, _, _, _, w⟩ => by rw [e] at w; exact w
theorem pt_plain (R : EnOk W r) (ok : EOk W X Z G) {e : Expr} (h : tplain e = true) : PT X e (TTof W Z fun ρ => do let x ← r.e G e ρ; truthD x) := by
  refine PT.weak (pt_truth (R.e ok e) (isTrue_plain' h X.env)) fun σ H P h => ?_
  obtain ⟨ρ, m, ee, g, rr, w⟩ := h
  refine ⟨ρ, m, ee, g, rr, (wpR_bind w).mono (fun _ _ _ _ z => z) fun x m1 s1 g1 w1 v hv => ?_⟩
  cases q : truthD x m1.μ with
  | stuck => rw [q] at w1; exact w1.elim
  | exc y μ' =>
    exfalso
    unfold truthD at q
    repeat' split at q
    all_goals cases q
  | ok k μ' =>
    rw [q] at w1
    obtain ⟨rfl, h2⟩ := truth_den g1 hv q
    exact ⟨k, by rw [ok.K]; exact h2, w1 m1 (Step.refl m1) g1 rfl⟩
theorem pw_bool {op : BoolOp} {vs : List Expr} {pos : Pos} {t : TT} (h : PT X (.BoolOp op vs pos) t) : PW X (.BoolOp op vs pos) t := ⟨fun _ pins s σ H Q I q => h.run pins s σ H Q I q⟩
theorem pt_stepT (R : EnOk W r) (ok : EOk W X Z G) (ex : Expr) : PT X ex (TTof W Z (stepT r G ex)) := by
  cases ex with
  | UnaryOp op a pos =>
    cases op with
    | Not =>
      refine PT.weak (pt_not (R.t ok a)) fun σ H P h => ?_
      obtain ⟨ρ, m, e, g, rr, w⟩ := h
      exact ⟨ρ, m, e, g, rr, (wpR_bind w).mono (fun _ _ _ _ z => z) fun k m1 s1 g1 w1 => w1 m1 (Step.refl m1) g1 rfl⟩
    | _ => exact pt_plain R ok rfl
  | BoolOp op vs pos =>
    match op, vs with
    | _, [] => exact PT.weak PT.any fun σ H Q h => tt_none (f := fun _ => stuck) (fun _ => rfl) h
    | .And, [a] => exact (pw_and1 (R.t ok a)).pt
    | .Or, [a] => exact (pw_or1 (R.t ok a)).pt
    | .And, a :: b :: rest =>
      refine PT.weak (pw_and (R.t ok a) (pw_bool (R.t ok (.BoolOp .And (b :: rest) pos)))).pt fun σ H P h => ?_
      obtain ⟨ρ, m, e, g, rr, w⟩ := h
      refine ⟨ρ, m, e, g, rr, (wpR_bind w).mono (fun _ _ _ _ z => z) fun k m1 s1 g1 w1 => ?_⟩
      cases k with
      | true => show (if true = true then _ else _); rw [if_pos rfl]; exact ⟨ρ, m1, rfl, g1, rr.mono s1, w1⟩
      | false => show (if false = true then _ else _); rw [if_neg Bool.false_ne_true]; exact w1 m1 (Step.refl m1) g1 rfl
    | .Or, a :: b :: rest =>
      refine PT.weak (pw_or (R.t ok a) (pw_bool (R.t ok (.BoolOp .Or (b :: rest) pos)))).pt fun σ H P h => ?_
      obtain ⟨ρ, m, e, g, rr, w⟩ := h
      refine ⟨ρ, m, e, g, rr, (wpR_bind w).mono (fun _ _ _ _ z => z) fun k m1 s1 g1 w1 => ?_⟩
      cases k with
      | true => show (if true = true then _ else _); rw [if_pos rfl]; exact w1 m1 (Step.refl m1) g1 rfl
      | false => show (if false = true then _ else _); rw [if_neg Bool.false_ne_true]; exact ⟨ρ, m1, rfl, g1, rr.mono s1, w1⟩
  | Compare a ops cs pos =>
    have lift : ∀ {f : Sl → M D} {σ H P}, TTof W Z (fun ρ => do let z ← f ρ; asB z) σ H P → TEof W Z f σ H fun x H' => ∃ k, x = .bl k ∧ P k H' := by
      rintro f σ H P ⟨ρ, m, e, g, rr, w⟩
      refine ⟨ρ, m, e, g, rr, (wpR_bind w).mono (fun _ _ _ _ z => z) fun z m1 s1 g1 w1 v hv => ?_⟩
      cases z with
      | bl k => cases den_bl hv; exact ⟨k, rfl, w1 m1 (Step.refl m1) g1 rfl⟩
      | _ => exact (show False from w1).elim
    match ops, cs with
    | [op], [b] =>
      by_cases hb : notSet b = true
      · exact PT.weak (pt_cmpR (op_cmpO ok op) (R.e ok a) (R.e ok b) (notSet_marks hb op)) fun σ H Q h => te_op (te_if (lift h)).2
      · exact PT.weak PT.any fun σ H Q h => hb (te_if (lift h)).1
    | [op, op'], [b, c] =>
      by_cases hb : notSet c = true
      · exact PT.weak (pt_chain (op_cmpO ok op) (op_cmpO ok op') (R.e ok a) (R.e ok b) (R.e ok c) (notSet_marks hb op')) fun σ H Q h => chain_out (te_if (lift h)).2
      · exact PT.weak PT.any fun σ H Q h => hb (te_if (lift h)).1
    | [], _ => exact PT.weak PT.any fun σ H Q h => te_none (f := fun _ => stuck) (fun _ => rfl) (lift h)
    | [_], [] => exact PT.weak PT.any fun σ H Q h => te_none (f := fun _ => stuck) (fun _ => rfl) (lift h)
    | [_], _ :: _ :: _ => exact PT.weak PT.any fun σ H Q h => te_none (f := fun _ => stuck) (fun _ => rfl) (lift h)
    | [_, _], [] => exact PT.weak PT.any fun σ H Q h => te_none (f := fun _ => stuck) (fun _ => rfl) (lift h)
    | [_, _], [_] => exact PT.weak PT.any fun σ H Q h => te_none (f := fun _ => stuck) (fun _ => rfl) (lift h)
    | [_, _], _ :: _ :: _ :: _ => exact PT.weak PT.any fun σ H Q h => te_none (f := fun _ => stuck) (fun _ => rfl) (lift h)
    | _ :: _ :: _ :: _, _ => exact PT.weak PT.any fun σ H Q h => te_none (f := fun _ => stuck) (fun _ => rfl) (lift h)
  | IfExp c a b pos => exact PT.weak PT.any fun σ H Q h => tt_none (f := fun _ => stuck) (fun _ => rfl) h
  | _ => exact pt_plain R ok rfl
end
end Pu

set_option Elab.async false
set_option linter.all false
set_option maxRecDepth 100000
/-! Pu15: set(text), set(list of texts), sorted of it. -/
namespace Pu
open PySem PySem.Spec PyProof.Rows L2 PySem.Froz
/-- the table's places rise; the walk is by the text or led -/
structure TabR (w : World) (D : SD) : Prop where
  ris : Ris D.2.2.place.toList
  led : w.params.followText "set-order" = true ∨ D.2.2.led = true
theorem tab_add {w : World} {D : SD} (h : Int) (v : Value) (T : TabR w D) : TabR w (addTx h v D) := by
  obtain ⟨es, ep, t⟩ := D
  have r1 := layNew_ris t es h v T.ris
  have l1 := layNew_led t es h v
  show TabR w (tailTx ep (layNew t es h v).1 (if (layNew t es h v).2.1.plain = true then { (layNew t es h v).2.1 with plain := false } else (layNew t es h v).2.1) (layNew t es h v).2.2.1)
  generalize hz : (if (layNew t es h v).2.1.plain = true then { (layNew t es h v).2.1 with plain := false } else (layNew t es h v).2.1) = t2
  have r2 : Ris t2.place.toList := by
    rw [← hz]
    split
    · exact r1
    · exact r1
  have l2 : t2.led = t.led := by
    rw [← hz]
    split
    · exact l1
    · exact l1
  unfold tailTx
  split
  · refine ⟨relayAll_ris _ _ _, T.led.imp_right fun z => ?_⟩
    rw [relayAll_led, l2]
    exact z
  · exact ⟨r2, T.led.imp_right fun z => l2.trans z⟩
/-- the set at a holds just the texts ks -/
def SetX0 (P : Program) (w : World) (a : Addr) (ks : List Str) (h : Heap) : Prop := ∃ (D : SD) (l : List Str), h.get? a = some (sObj "set" D) ∧ TxOk P w D l ∧ TabR w D ∧ l.Nodup ∧ l.length ≤ ks.length ∧ ∀ k, k ∈ l ↔ k ∈ ks
def TxtAt (ks : List Str) (i : Nat) (v : Value) : Prop := ∃ k u, ks[i]? = some k ∧ v = Value.str k u
theorem walks_imp {prog : Program} {w : World} {A : Around} {I : Addr} {fp wr : List Addr} {n : Nat} {P P' : Nat → Value → Prop} {St : Nat → Heap → Prop} (V : Walks prog w A I fp wr n P St) (h : ∀ i v, P i v → P' i v) : Walks prog w A I fp wr n P' St where
  sub := V.sub
  frame := V.frame
  item := fun i s Q E hi st hQ => V.item i s Q E hi st fun v h' tk p => hQ v h' tk (h i v p)
  done := V.done
  self := V.self
section
variable {P : Program} {w : World} {A : Around} {E : Value → Shared → Prop} {s : Shared}
theorem old_x {a : Addr} {T : String} {D : SD} {l : List Str} {k : Str} {u : Tok} {Q : Bool → Shared → Prop} (ho : s.heap.get? a = some (sObj T D)) (F : TxOk P w D l) (hk : k ∈ l) (hb : l.length < scanBound) (h : Q false s) :
    wpAny (model P w) A (setAddHashed a (.str k u) (hashStr w k)) Q E s := by
  obtain ⟨es, ep, t⟩ := D
  have e1 : (sObj T (es, ep, t)).data = .set es ep t := rfl
  have e2 : (strKind P w).is k (.str k u) = true := is_str k u
  have e3 : ElemsOf (strKind P w) es.toList := F.el
  have e4 : es.size < scanBound := by rw [show es.size = l.length from F.sz]; exact hb
  unfold setAddHashed setAddHashedIn
  refine wpAny_holding (wpAny_bind (wpAny_setState_of ho e1 F.fit ?_))
  dsimp only
  rw [byScan_of rfl e4 e3]
  simp only [↓reduceIte]
  unfold setAddByScan
  refine wpAny_bind (wpAny_bind (wpAny_rule (wpAny_bind (wpAny_setScan_of (knd := strKind P w) (k := k) e2 ho e1 F.fit e3 ?_))))
  cases hr : List.findIdx? (fun e => (strKind P w).is k e.2) es.toList with
  | none =>
    obtain ⟨e, he, q⟩ := (F.mem k).mp hk
    have z := List.findIdx?_eq_none_iff.mp hr e he
    rw [q] at z
    cases z
  | some j => exact wpAny_pure (wpAny_pure h)
theorem take_at {ks : List Str} {i : Nat} {k : Str} (h : ks[i]? = some k) : ks.take (i + 1) = ks.take i ++ [k] := by
  rw [List.take_add_one, h]
  rfl
variable {R : Result → Shared → Prop} {I : Addr} {fp wr : List Addr} {ks : List Str} {St : Nat → Heap → Prop} {a : Addr}
theorem upd_loop (V : Walks P w A.in1 I fp wr ks.length (TxtAt ks) St) (ha : a ∉ fp) (hb : ks.length + 1 < scanBound) : ∀ (m i : Nat) (s : Shared), ks.length - i = m → i ≤ ks.length → St i s.heap → SetX0 P w a (ks.take i) s.heap →
    (∀ h' tk, (∀ b o, b ∉ wr → b ≠ a → s.heap.get? b = some o → h'.get? b = some o) → SetX0 P w a ks h' → R (.ok (.ret .none)) { s with heap := h', toks := tk }) →
    codeAny (model P w) A (.builtin "set.update.loop" ⟨[.ref a, .ref I], []⟩) R s := by
  have haw : a ∉ wr := fun z => ha (V.sub _ z)
  intro m
  induction m with
  | zero =>
    intro i s hm hi hst hS hR
    have ei : i = ks.length := by omega
    refine codeAny_builtin PyProof.Rows.F.entry_set_update_loop ?_
    rw [Around.under_plainId PyProof.Rows.F.plain_set_update_loop]
    refine wpAny_bind (m := pyNext (.ref I)) (V.done s _ _ (by rw [← ei]; exact hst) fun h' tk kp => ?_)
    refine wpAny_pure (hR h' tk (fun b o q _ e => kp b o q e) ?_)
    obtain ⟨D, l, e, r⟩ := hS
    rw [ei, List.take_length] at r
    exact ⟨D, l, kp a _ haw e, r⟩
  | succ m ih =>
    intro i s hm hi hst hS hR
    have hlt : i < ks.length := by omega
    refine codeAny_builtin PyProof.Rows.F.entry_set_update_loop ?_
    rw [Around.under_plainId PyProof.Rows.F.plain_set_update_loop]
    refine wpAny_bind (m := pyNext (.ref I)) (V.item i s _ _ hlt hst fun v h' tk hP hst' kp => ?_)
    obtain ⟨c, u, hc, rfl⟩ := hP
    obtain ⟨D, l, e, F, T, nd, len, mem⟩ := hS
    have ea := kp a _ haw e
    have tk1 := take_at hc
    have hl : l.length ≤ i := Nat.le_trans len (by rw [List.length_take]; exact Nat.min_le_left _ _)
    refine wpAny_bind (m := holding [Value.str c u] (setAdd a (.str c u))) (wpAny_holding ?_)
    unfold setAdd
    refine wpAny_holding (wpAny_bind ((strKind P w).pyHash (k := c) (is_str _ _) ?_))
    by_cases hm : c ∈ l
    · refine old_x (s := { s with heap := h', toks := tk + 1 }) ea F hm (by omega) ?_
      refine wpAny_pure ⟨plainId_quiet PyProof.Rows.F.plain_set_update_loop _, ih (i + 1) { s with heap := h', toks := tk + 1 } (by omega) hlt hst' ⟨D, l, ea, F, T, nd, ?_, fun k => ?_⟩ fun h2 tk2 kp2 => hR h2 tk2 fun b o q1 q2 e => kp2 b o q1 q2 (kp b o q1 e)⟩
      · rw [tk1, List.length_append]
        exact Nat.le_trans len (Nat.le_add_right _ _)
      · rw [mem k, tk1]
        constructor
        · exact fun h1 => List.mem_append_left _ h1
        · intro h1
          rcases List.mem_append.mp h1 with h1 | h1
          · exact h1
          · rw [List.mem_singleton] at h1
            subst h1
            exact (mem _).mp hm
    · refine add_x (s := { s with heap := h', toks := tk + 1 }) ea F hm (by omega) ?_
      have ea2 : (h'.update a (fun _ => sObj "set" (addTx (hashStr w c) (.str c u) D))).get? a = some (sObj "set" (addTx (hashStr w c) (.str c u) D)) := get_upd _ ea rfl
      have oth : ∀ b o, b ≠ a → h'.get? b = some o → (h'.update a (fun _ => sObj "set" (addTx (hashStr w c) (.str c u) D))).get? b = some o := fun b o q e => PySem.Heap.get?_update_of_ne _ (Ne.symm q) e
      refine wpAny_pure ⟨plainId_quiet PyProof.Rows.F.plain_set_update_loop _, ih (i + 1) { s with heap := h'.update a (fun _ => sObj "set" (addTx (hashStr w c) (.str c u) D)), toks := tk + 1 } (by omega) hlt
        (V.frame _ _ _ hst' fun b hb o e => oth b o (fun z => ha (z ▸ hb)) e) ⟨_, c :: l, ea2, add_ok u F, tab_add _ _ T, List.nodup_cons.mpr ⟨hm, nd⟩, ?_, fun k => ?_⟩ fun h2 tk2 kp2 => hR h2 tk2 fun b o q1 q2 e => kp2 b o q1 q2 (oth b o q2 (kp b o q1 e))⟩
      · rw [tk1, List.length_append]
        exact Nat.succ_le_succ len
      · rw [List.mem_cons, mem k, tk1, List.mem_append, List.mem_singleton]
        exact Or.comm
end
section
variable {P : Program} {w : World} {A : Around} {E : Value → Shared → Prop} {s : Shared}
abbrev emptyX (w : World) : Obj := { cls := .type "set", dict := none, data := .set #[] 0 (.fresh 0 0 (!w.params.followText "set-order")) }
theorem empty_ok {h : Heap} {a : Addr} (e : h.get? a = some (emptyX w)) : SetX0 P w a [] h := by
  refine ⟨(#[], 0, .fresh 0 0 (!w.params.followText "set-order")), [], e, TxOk.nil rfl, ⟨List.Pairwise.nil, ?_⟩, List.nodup_nil, Nat.le_refl _, fun k => by simp⟩
  cases q : w.params.followText "set-order" with
  | true => exact .inl rfl
  | false => exact .inr rfl
set_option maxHeartbeats 3200000 in
theorem call_set_text {x : Str} {u : Tok} {Q : Value → Shared → Prop} (hh : A.handled = none) (hb : x.cps.size + 1 < scanBound)
    (h : ∀ (h' : Heap) (tk : Nat), SetX0 P w s.heap.objs.size (x.cps.toList.map sing) h' → (∀ b o, s.heap.get? b = some o → h'.get? b = some o) → Q (.ref s.heap.objs.size) { s with heap := h', toks := tk }) :
    wpAny (model P w) A (call (.type "set") [.str x u]) Q E s := by
  obtain ⟨_, _, hmro⟩ := F.called_set.mro
  have g1 := F.called_set.made
  have g2 := F.called_set.sub
  refine wpAny_call (codeAny_of_tree (wpAny_pure ⟨Code.quiet_builtin _ (by decide +kernel), codeAny_builtin F.entry_type_call ?_⟩))
  rw [Around.under_plain (weight_type_call_type "set" [.str x u] []) rfl]
  have g3 := F.called_set.notType
  have g4 := F.called_set.canCreate
  have g5 := F.typeCall_set_1 (.str x u)
  repeat (any_goals (first | assumption | wp_step))
  refine codeAny_mono (code_set_led1 (.str x u) (E := E) (Q₁ := fun obj s₁ => obj = .ref s.heap.objs.size ∧ s₁ = { s with heap := s.heap.push (emptyX w) }) ⟨rfl, rfl⟩) fun r s₁ hr => ?_
  match r, hr with
  | .error e, hr => exact hr
  | .ok .next, hr => exact hr.elim
  | .ok .brk, hr => exact hr.elim
  | .ok .cont, hr => exact hr.elim
  | .ok (.ret obj), hr =>
    obtain ⟨rfl, rfl⟩ := hr
    have hS : (s.heap.push (emptyX w)).get? s.heap.objs.size = some (emptyX w) := Heap.get?_push_size _ rfl
    have hT : Shared.TypeIs { s with heap := s.heap.push (emptyX w) } (.ref s.heap.objs.size) "set" := ⟨_, hS, rfl⟩
    have g6 := F.called_set.init.lookup
    have g7 := F.called_set.init.bind (.ref s.heap.objs.size)
    repeat (any_goals (first | assumption | wp_step))
    refine codeAny_mono (codeAny_call_builtin (R := wants (fun r s₂ => r = .none ∧ ∃ h' tk, s₂ = { s with heap := h', toks := tk } ∧ SetX0 P w s.heap.objs.size (x.cps.toList.map sing) h' ∧ (∀ b o, s.heap.get? b = some o → h'.get? b = some o)) E) F.called_set.init.plain F.entry_set_init (check_set_init_1 hT ?_)) fun r₂ s₂ hr₂ => ?_
    · have g8 := F.sub_str_set
      have g9 := F.sub_str_frozenset
      have g10 : (Value.type "str" == Value.type "dict") = false := by decide
      unfold Builtin.«set.__init__» noKeywords Builtin.Frozenset.updateFrom
      generalize hPI : pyIter = PI
      wp_walk
      subst hPI
      refine wpAny_pyIter_str fun o St hW hst => ?_
      refine wpAny_bind (wpAny_runValue ?_)
      have z1 : (s.heap.push (emptyX w)).objs.size = s.heap.objs.size + 1 := Heap.size_push ..
      have ne : s.heap.objs.size ∉ [(s.heap.push (emptyX w)).objs.size] := by
        rw [z1, List.mem_singleton]
        omega
      have hW2 : Walks P w A.in1.in1.in1 (s.heap.push (emptyX w)).objs.size [(s.heap.push (emptyX w)).objs.size] [(s.heap.push (emptyX w)).objs.size] (x.cps.toList.map sing).length (TxtAt (x.cps.toList.map sing)) St := by
        rw [List.length_map, Array.length_toList]
        refine walks_imp (hW _ (by simp [hh])) fun i v hv => ?_
        obtain ⟨c, u, hc, e⟩ := hv
        exact ⟨sing c, u, by rw [List.getElem?_map, Array.getElem?_toList, hc]; rfl, e⟩
      refine upd_loop hW2 ne (by rw [List.length_map, Array.length_toList]; exact hb) _ 0 { s with heap := (s.heap.push (emptyX w)).push o } rfl (Nat.zero_le _) hst (empty_ok (Heap.get?_push_of_some _ hS)) fun h' tk kp hx => ?_
      refine wpAny_pure (wpAny_pure ⟨rfl, h', tk, rfl, hx, fun b ob e => kp b ob ?_ (Nat.ne_of_lt (Heap.lt_size e)) (Heap.get?_push_of_some _ (Heap.get?_push_of_some _ e))⟩)
      rw [z1, List.mem_singleton]
      exact Nat.ne_of_lt (Nat.lt_succ_of_lt (Heap.lt_size e))
    · match r₂, hr₂ with
      | .error e, hr₂ => exact hr₂
      | .ok .next, hr₂ => exact hr₂.elim
      | .ok .brk, hr₂ => exact hr₂.elim
      | .ok .cont, hr₂ => exact hr₂.elim
      | .ok (.ret r), hr₂ =>
        obtain ⟨rfl, h', tk, rfl, hx, kp⟩ := hr₂
        repeat (any_goals (first | assumption | wp_step))
        exact h _ _ hx kp
theorem strsAre_len : ∀ {vs : List Value} {ss : List Str}, StrsAre vs ss → ss.length = vs.length
  | _, _, .nil => rfl
  | _, _, .cons _ _ r => congrArg (· + 1) (strsAre_len r)
theorem strsAre_at : ∀ {vs : List Value} {ss : List Str}, StrsAre vs ss → ∀ (i : Nat) (v : Value), vs[i]? = some v → ∃ k u, ss[i]? = some k ∧ v = Value.str k u
  | _, _, .nil, i, v, h => by simp at h
  | _, _, .cons y t r, 0, v, h => by cases h; exact ⟨y, t, rfl, rfl⟩
  | _, _, .cons y t r, i + 1, v, h => strsAre_at r i v h
set_option maxHeartbeats 3200000 in
theorem call_set_strs {l : Addr} {items : Array Value} {ks : List Str} {Q : Value → Shared → Prop} (hh : A.handled = none) (hl : s.heap.IsList l items) (hks : StrsAre items.toList ks) (hb : ks.length + 1 < scanBound)
    (h : ∀ (h' : Heap) (tk : Nat), SetX0 P w s.heap.objs.size ks h' → (∀ b o, s.heap.get? b = some o → h'.get? b = some o) → Q (.ref s.heap.objs.size) { s with heap := h', toks := tk }) :
    wpAny (model P w) A (call (.type "set") [.ref l]) Q E s := by
  obtain ⟨_, _, hmro⟩ := F.called_set.mro
  have g1 := F.called_set.made
  have g2 := F.called_set.sub
  refine wpAny_call (codeAny_of_tree (wpAny_pure ⟨Code.quiet_builtin _ (by decide +kernel), codeAny_builtin F.entry_type_call ?_⟩))
  rw [Around.under_plain (weight_type_call_type "set" [.ref l] []) rfl]
  have g3 := F.called_set.notType
  have g4 := F.called_set.canCreate
  have g5 := F.typeCall_set_1 (.ref l)
  repeat (any_goals (first | assumption | wp_step))
  refine codeAny_mono (code_set_led1 (.ref l) (E := E) (Q₁ := fun obj s₁ => obj = .ref s.heap.objs.size ∧ s₁ = { s with heap := s.heap.push (emptyX w) }) ⟨rfl, rfl⟩) fun r s₁ hr => ?_
  match r, hr with
  | .error e, hr => exact hr
  | .ok .next, hr => exact hr.elim
  | .ok .brk, hr => exact hr.elim
  | .ok .cont, hr => exact hr.elim
  | .ok (.ret obj), hr =>
    obtain ⟨rfl, rfl⟩ := hr
    have hS : (s.heap.push (emptyX w)).get? s.heap.objs.size = some (emptyX w) := Heap.get?_push_size _ rfl
    have hT : Shared.TypeIs { s with heap := s.heap.push (emptyX w) } (.ref s.heap.objs.size) "set" := ⟨_, hS, rfl⟩
    have g6 := F.called_set.init.lookup
    have g7 := F.called_set.init.bind (.ref s.heap.objs.size)
    repeat (any_goals (first | assumption | wp_step))
    refine codeAny_mono (codeAny_call_builtin (R := wants (fun r s₂ => r = .none ∧ ∃ h' tk, s₂ = { s with heap := h', toks := tk } ∧ SetX0 P w s.heap.objs.size ks h' ∧ (∀ b o, s.heap.get? b = some o → h'.get? b = some o)) E) F.called_set.init.plain F.entry_set_init (check_set_init_1 hT ?_)) fun r₂ s₂ hr₂ => ?_
    · obtain ⟨ol, hol, hcl, nl, hdl⟩ := hl
      obtain ⟨ocls, odict, odata, oslots⟩ := ol
      simp only at hcl hdl
      subst hcl; subst hdl
      have hol' : (s.heap.push (emptyX w)).get? l = some { cls := .type "list", dict := odict, data := .seq items nl, slots := oslots } := Heap.get?_push_of_some _ hol
      have g8 := F.sub_list_set
      have g9 := F.sub_list_frozenset
      have g10 : (Value.type "list" == Value.type "dict") = false := by decide
      have hl1 : (s.heap.push (emptyX w)).IsList l items := ⟨_, hol', rfl, nl, rfl⟩
      unfold Builtin.«set.__init__» noKeywords Builtin.Frozenset.updateFrom
      generalize hPI : pyIter = PI
      wp_walk
      subst hPI
      refine wpAny_pyIter_list hl1 ?_
      refine wpAny_bind (wpAny_runValue ?_)
      have z1 : (s.heap.push (emptyX w)).objs.size = s.heap.objs.size + 1 := Heap.size_push ..
      have hlS : l < s.heap.objs.size := Heap.lt_size hol
      have ne : s.heap.objs.size ∉ [(s.heap.push (emptyX w)).objs.size, l] := by
        rw [z1]
        simp only [List.mem_cons, List.not_mem_nil, or_false, not_or]
        exact ⟨Nat.ne_of_lt (Nat.lt_succ_self _), Nat.ne_of_gt hlS⟩
      have hneI : l ≠ (s.heap.push (emptyX w)).objs.size := by rw [z1]; exact Nat.ne_of_lt (Nat.lt_succ_of_lt hlS)
      have hlen : items.size = ks.length := by rw [← Array.length_toList]; exact (strsAre_len hks).symm
      have hW2 : Walks P w A.in1.in1.in1 (s.heap.push (emptyX w)).objs.size [(s.heap.push (emptyX w)).objs.size, l] [(s.heap.push (emptyX w)).objs.size] ks.length (TxtAt ks) (fun i h => h.IsListIter (s.heap.push (emptyX w)).objs.size l i ∧ h.IsList l items) := by
        rw [← hlen]
        refine walks_imp (Walks.list (by simp [hh]) _ l hneI items) fun i v hv => ?_
        obtain ⟨k, u, e1, e2⟩ := strsAre_at hks i v (by rw [Array.getElem?_toList]; exact hv)
        exact ⟨k, u, e1, e2⟩
      refine upd_loop hW2 ne hb _ 0 { s with heap := (s.heap.push (emptyX w)).push { cls := .type "list_iterator", data := .fields #[.ref l, .int 0 0] } } rfl (Nat.zero_le _) ⟨⟨_, Heap.get?_push_size _ rfl, rfl, rfl⟩, ⟨_, Heap.get?_push_of_some _ hol', rfl, nl, rfl⟩⟩ (empty_ok (Heap.get?_push_of_some _ hS)) fun h' tk kp hx => ?_
      refine wpAny_pure (wpAny_pure ⟨rfl, h', tk, rfl, hx, fun b ob e => kp b ob ?_ (Nat.ne_of_lt (Heap.lt_size e)) (Heap.get?_push_of_some _ (Heap.get?_push_of_some _ e))⟩)
      rw [z1, List.mem_singleton]
      exact Nat.ne_of_lt (Nat.lt_succ_of_lt (Heap.lt_size e))
    · match r₂, hr₂ with
      | .error e, hr₂ => exact hr₂
      | .ok .next, hr₂ => exact hr₂.elim
      | .ok .brk, hr₂ => exact hr₂.elim
      | .ok .cont, hr₂ => exact hr₂.elim
      | .ok (.ret r), hr₂ =>
        obtain ⟨rfl, h', tk, rfl, hx, kp⟩ := hr₂
        repeat (any_goals (first | assumption | wp_step))
        exact h _ _ hx kp
end
end Pu

set_option Elab.async false
set_option linter.all false
set_option maxRecDepth 100000
/-! Pu16: sorted(set(text)) as one expression; the den once more with it. -/
namespace Pu
open PySem PySem.Spec PyProof.Rows L2 PySem.Froz
/-! ### the plain part: rising lists of texts -/
abbrev ltS (a b : Str) : Bool := decide (a.cps.toList < b.cps.toList)
theorem ltS_irr (a : Str) : ltS a a = false := by simpa using List.lt_irrefl a.cps.toList
theorem ltS_trans {a b c : Str} (h1 : ltS a b = true) (h2 : ltS b c = true) : ltS a c = true := by
  simp only [ltS, decide_eq_true_eq] at *
  exact List.lt_trans h1 h2
theorem str_ext {a b : Str} (h : a.cps.toList = b.cps.toList) : a = b := by
  have hc : a.cps = b.cps := Array.toList_inj.mp h
  cases a; cases b
  simp only [Str.mk.injEq]
  exact hc
theorem ltS_tot {a b : Str} (h1 : ltS a b = false) (h2 : ltS b a = false) : a = b := by
  simp only [ltS, decide_eq_false_iff_not] at *
  exact str_ext (List.le_antisymm (List.not_lt.mp h2) (List.not_lt.mp h1))
def insS (c : Str) : List Str → List Str
  | [] => [c]
  | x :: r => if ltS c x = true then c :: x :: r else if c = x then x :: r else x :: insS c r
def sortS (l : List Str) : List Str := l.foldr insS []
abbrev RisS (l : List Str) : Prop := l.Pairwise fun x y => ltS x y = true
theorem mem_insS {c k : Str} : ∀ l, k ∈ insS c l ↔ k = c ∨ k ∈ l
  | [] => by simp [insS]
  | x :: r => by
    unfold insS
    split
    · simp
    · split
      · rename_i e
        subst e
        simp
      · simp only [List.mem_cons, mem_insS r]
        constructor
        · rintro (h | h | h)
          · exact .inr (.inl h)
          · exact .inl h
          · exact .inr (.inr h)
        · rintro (h | h | h)
          · exact .inr (.inl h)
          · exact .inl h
          · exact .inr (.inr h)
theorem ris_insS {c : Str} : ∀ l : List Str, RisS l → RisS (insS c l)
  | [], _ => by simp [insS]
  | x :: r, h => by
    obtain ⟨h1, h2⟩ := List.pairwise_cons.mp h
    unfold insS
    split
    · rename_i lt
      exact List.pairwise_cons.mpr ⟨fun y hy => (List.mem_cons.mp hy).elim (fun e => e ▸ lt) fun e => ltS_trans lt (h1 y e), h⟩
    · rename_i nlt
      split
      · exact h
      · rename_i ne
        refine List.pairwise_cons.mpr ⟨fun y hy => ?_, ris_insS r h2⟩
        rcases (mem_insS r).mp hy with e | e
        · subst e
          cases q : ltS x y with
          | true => rfl
          | false => exact absurd (ltS_tot (by simpa using nlt) q) ne
        · exact h1 y e
theorem mem_sortS {k : Str} : ∀ l, k ∈ sortS l ↔ k ∈ l
  | [] => Iff.rfl
  | x :: r => by
    show k ∈ insS x (sortS r) ↔ _
    rw [mem_insS, mem_sortS r, List.mem_cons]
theorem ris_sortS : ∀ l : List Str, RisS (sortS l)
  | [] => List.Pairwise.nil
  | x :: r => ris_insS _ (ris_sortS r)
theorem ris_uniqS : ∀ l m : List Str, RisS l → RisS m → (∀ k, k ∈ l ↔ k ∈ m) → l = m
  | [], [], _, _, _ => rfl
  | [], y :: m, _, _, h => absurd ((h y).mpr List.mem_cons_self) List.not_mem_nil
  | x :: l, [], _, _, h => absurd ((h x).mp List.mem_cons_self) List.not_mem_nil
  | x :: l, y :: m, h1, h2, h => by
    obtain ⟨a1, a2⟩ := List.pairwise_cons.mp h1
    obtain ⟨b1, b2⟩ := List.pairwise_cons.mp h2
    have e : x = y := by
      rcases List.mem_cons.mp ((h x).mp List.mem_cons_self) with e | e
      · exact e
      · rcases List.mem_cons.mp ((h y).mpr List.mem_cons_self) with e' | e'
        · exact e'.symm
        · have z := ltS_trans (b1 x e) (a1 y e')
          rw [ltS_irr] at z
          cases z
    subst e
    refine congrArg (x :: ·) (ris_uniqS l m a2 b2 fun k => ?_)
    have hk := h k
    simp only [List.mem_cons] at hk
    constructor
    · intro z
      rcases hk.mp (.inr z) with q | q
      · subst q; have z := a1 k z; rw [ltS_irr] at z; cases z
      · exact q
    · intro z
      rcases hk.mpr (.inr z) with q | q
      · subst q; have z := b1 k z; rw [ltS_irr] at z; cases z
      · exact q
theorem rising_ris : ∀ (r : List Str) (c : Str), risingS c r = true → (c :: r).Nodup → RisS (c :: r)
  | [], c, _, _ => List.pairwise_singleton ..
  | d :: r, c, h, nd => by
    have h' : (!ltCps d.cps.toList c.cps.toList && risingS d r) = true := h
    rw [Bool.and_eq_true, Bool.not_eq_true', ltCps_eq] at h'
    obtain ⟨n1, n2⟩ := List.nodup_cons.mp nd
    have ih := rising_ris r d h'.2 n2
    have lt : ltS c d = true := by
      cases q : ltS c d with
      | true => rfl
      | false => exact absurd (ltS_tot q h'.1) fun z => n1 (z ▸ List.mem_cons_self)
    obtain ⟨p1, p2⟩ := List.pairwise_cons.mp ih
    exact List.pairwise_cons.mpr ⟨fun y hy => (List.mem_cons.mp hy).elim (fun e => e ▸ lt) fun e => ltS_trans lt (p1 y e), ih⟩
theorem sort_uniq {ys ks : List Str} (h1 : sortedS ys = true) (h2 : ys.Nodup) (h3 : ∀ k, k ∈ ys ↔ k ∈ ks) : ys = sortS ks := by
  refine ris_uniqS ys _ ?_ (ris_sortS ks) fun k => by rw [h3, mem_sortS]
  cases ys with
  | nil => exact List.Pairwise.nil
  | cons c r => exact rising_ris r c h1 h2
/-! ### the machine's part -/
theorem strs_of {P : Program} {w : World} {D : SD} {l : List Str} (F : TxOk P w D l) : ∀ (vs : List Value), (∀ v ∈ vs, ∃ e ∈ D.1.toList, e.2 = v) → ∃ ss, StrsAre vs ss ∧ ∀ x ∈ ss, x ∈ l
  | [], _ => ⟨[], .nil, fun _ z => nomatch z⟩
  | v :: vs, h => by
    obtain ⟨ss, h1, h2⟩ := strs_of F vs fun u hu => h u (List.mem_cons_of_mem _ hu)
    obtain ⟨e, he, q⟩ := h v List.mem_cons_self
    obtain ⟨⟨k, z1, _⟩, _⟩ := F.el e he
    obtain ⟨t, z2⟩ := Value.isStrOf_shape (x := k) (v := e.2) z1
    rw [← q, z2]
    exact ⟨k :: ss, .cons k t h1, fun x hx => (List.mem_cons.mp hx).elim (fun z => z ▸ (F.mem k).mpr ⟨e, he, z1⟩) (h2 x)⟩
theorem strs_mem : ∀ {vs : List Value} {ss : List Str}, StrsAre vs ss → ∀ (k : Str) (t : Tok), Value.str k t ∈ vs → k ∈ ss
  | _, _, .nil, _, _, h => nomatch h
  | _, _, .cons y u r, k, t, h => by
    rcases List.mem_cons.mp h with e | e
    · cases e; exact List.mem_cons_self
    · exact List.mem_cons_of_mem _ (strs_mem r k t e)
theorem strs_len : ∀ {vs : List Value} {ss : List Str}, StrsAre vs ss → ss.length = vs.length
  | _, _, .nil => rfl
  | _, _, .cons _ _ r => congrArg (· + 1) (strs_len r)
theorem perm_len : ∀ (l ss : List Str), l.Nodup → (∀ k ∈ l, k ∈ ss) → ss.length ≤ l.length → ss.Perm l
  | [], ss, _, _, e => by
    rw [List.eq_nil_of_length_eq_zero (Nat.le_zero.mp e)]
  | x :: l, ss, nd, sub, e => by
    obtain ⟨n1, n2⟩ := List.nodup_cons.mp nd
    have hx := sub x List.mem_cons_self
    have p := List.perm_cons_erase hx
    refine p.trans ((perm_len l (ss.erase x) n2 (fun k hk => ?_) ?_).cons x)
    · exact (List.mem_erase_of_ne (fun z : k = x => n1 (z ▸ hk))).mpr (sub k (List.mem_cons_of_mem _ hk))
    · have := p.length_eq
      simp only [List.length_cons] at this e
      omega
theorem len_insS {c : Str} : ∀ l, (insS c l).length ≤ l.length + 1
  | [] => Nat.le_refl _
  | x :: r => by
    unfold insS
    split
    · exact Nat.le_refl _
    · split
      · exact Nat.le_succ _
      · exact Nat.succ_le_succ (len_insS r)
theorem len_sortS : ∀ l, (sortS l).length ≤ l.length
  | [] => Nat.le_refl _
  | x :: r => Nat.le_trans (len_insS _) (Nat.succ_le_succ (len_sortS r))
section
variable {P : Program} {w : World} {A : Around} {E : Value → Shared → Prop} {s : Shared}
theorem sorted_setX {a : Addr} {cs : List Str} {Q : Value → Shared → Prop} (R : SetX0 P w a cs s.heap) (hh : A.handled = none) (h64 : cs.length < 64)
    (hQ : ∀ s' p (out : Array Value) (c : Nat), (∀ b o, s.heap.get? b = some o → s'.heap.get? b = some o) → s'.gens = s.gens → s'.os = s.os → s.heap.objs.size ≤ p →
      s'.heap.get? p = some (seqObj "list" out c) → StrsAre out.toList (sortS cs) → Q (.ref p) s') :
    wpAny (model P w) A (call (.builtin "sorted") [.ref a]) Q E s := by
  obtain ⟨D, l, ho, F, T, nd, len, mem⟩ := R
  obtain ⟨es, ep, t⟩ := D
  have hs : es.size = l.length := F.sz
  refine Calls.call_function_entry kind_sorted plain_sorted entry_sorted (args_sorted1 (.ref a)) ?_
  unfold Builtin.«sorted»
  refine wpAny_bind (m := checkCount "sorted" 1 1 _) (wpAny_pure (wpAny_bind (collect_set (A := A.in1) hh ⟨_, ho, rfl, rfl⟩ F.fit (by show es.size < scanBound; unfold scanBound; omega) T.ris T.led fun s1 vs k1 hz g1 o1 pm => ?_)))
  have lv : vs.length = l.length := by rw [pm.length_eq, List.length_map, Array.length_toList, hs]
  obtain ⟨ss, hS, hsub⟩ := strs_of F vs fun v hv => by
    obtain ⟨e, he, q⟩ := List.mem_map.mp (pm.mem_iff.mp hv)
    exact ⟨e, he, q⟩
  have hmem : ∀ k ∈ l, k ∈ ss := fun k hk => by
    obtain ⟨e, he, q⟩ := (F.mem k).mp hk
    obtain ⟨u, z⟩ := Value.isStrOf_shape (x := k) (v := e.2) q
    exact strs_mem hS k u (pm.mem_iff.mpr (List.mem_map.mpr ⟨e, he, z⟩))
  have ndS : ss.Nodup := (perm_len l ss nd hmem (by rw [strs_len hS, lv]; exact Nat.le_refl _)).nodup_iff.mpr nd
  refine wpAny_bind (wpAny_newList ?_ (by rw [lv, sizeLine_eq]; omega))
  have oL : (s1.heap.push (seqObj "list" vs.toArray 0)).get? s1.heap.objs.size = some (seqObj "list" vs.toArray 0) := Heap.get?_push_size _ rfl
  refine wpAny_bind (wpAny_holding (wpAny_call_entry slot_list_sort ⟨_, oL, rfl⟩ entry_list_sort
    (list_sort_treeK strKind_oneLt oL hS.keysOf (fun v₁ v₂ rest e => keyKind_strs (by rw [← e]; exact hS)) (by omega) fun st' hp hs => ?_) (args_list_sort _)))
  obtain ⟨ys, y1, y2, y3⟩ := sorted_out_str hS hp hs
  obtain ⟨c, hc⟩ := sortedHeap_at (vs := vs) (out := (arrOf st').map (·.2)) oL
  have ey : ys = sortS cs := sort_uniq y3 (y2.nodup_iff.mpr ndS) fun k => by
    rw [y2.mem_iff, ← mem k]
    exact ⟨hsub k, hmem k⟩
  rw [ey] at y1
  refine ⟨_, rfl, wpAny_pure ⟨_, rfl, hQ _ s1.heap.objs.size _ c (fun b u e => ?_) g1 o1 hz hc y1⟩⟩
  have q := k1 b u e
  have lt := Heap.lt_size q
  show (sortedHeap (s1.heap.push (seqObj "list" vs.toArray 0)) s1.heap.objs.size vs ((arrOf st').map (·.2))).get? b = some u
  rw [sortedHeap_old (Nat.ne_of_lt lt) (by rw [size_push']; exact Nat.lt_succ_of_lt lt)]
  exact Heap.get?_push_of_some _ q
end
/-! ### the rules -/
def SetXO (P : Program) (w : World) (a : Addr) (cs : List Str) : HO := .ext fun h => SetX0 P w a cs h
theorem setXO_new {P : Program} {w : World} {H : Hp} {h : Heap} {a : Addr} {cs : List Str} (R : SetX0 P w a cs h) : ObjOk P w H h a (SetXO P w a cs) := by
  obtain ⟨D, l, e, q⟩ := id R
  refine ⟨R, ⟨_, e⟩, fun h1 h2 p k => ?_⟩
  obtain ⟨D', l', e', q'⟩ := (show SetX0 P w a cs h1 from p)
  exact ⟨D', l', k _ e', q'⟩
section
variable {X : Cx}
/-- the texts of a text or of a list -/
def rSetX (K : PySem.W.Frag) (P : Program) (w : World) : List V → Hp → VK → Prop := fun xs H Q => ∃ (y : V) (ks : List Str), xs = [y] ∧ ((∃ x : Str, y = V.str x ∧ ks = x.cps.toList.map sing) ∨ ∃ b, y = V.ref b ∧ SqL K H b (ks.map V.str)) ∧ ks.length < 64 ∧ ∀ a, H a = none → Q (.ref a) (upd H a (SetXO P w a ks))
theorem cr_setX (hc : X.calm = true) : CallR X (.type "set") (rSetX X.K X.prog X.w) := by
  intro pins s σ H xs us Q I r h
  obtain ⟨y, ks, rfl, hy, hz, q⟩ := h
  rcases hy with ⟨x, rfl, rfl⟩ | ⟨b, rfl, hb⟩
  · obtain ⟨u, rfl, t, rfl⟩ := vals1 r
    refine call_set_text (P := X.prog) (w := X.w) (I.ok.hd hc) (by rw [List.length_map, Array.length_toList] at hz; unfold scanBound; omega) fun h' tk R kp => ?_
    exact ⟨.ref s.heap.objs.size, upd H s.heap.objs.size (SetXO X.prog X.w s.heap.objs.size _), I.laid (t' := tk) kp (Nat.le_refl _) (setXO_new R), rfl, q _ (I.hok.fresh (Nat.le_refl _))⟩
  · rw [Vals.ref1 r]
    obtain ⟨its, rv, hl, _⟩ := I.list hb
    refine call_set_strs (P := X.prog) (w := X.w) (I.ok.hd hc) hl.isList rv.strs (by unfold scanBound; omega) fun h' tk R kp => ?_
    exact ⟨.ref s.heap.objs.size, upd H s.heap.objs.size (SetXO X.prog X.w s.heap.objs.size _), I.laid (t' := tk) kp (Nat.le_refl _) (setXO_new R), rfl, q _ (I.hok.fresh (Nat.le_refl _))⟩
def rSortX (P : Program) (w : World) : List V → Hp → VK → Prop := fun vs H Q => ∃ (a : Addr) (cs : List Str), vs = [V.ref a] ∧ H a = some (SetXO P w a cs) ∧ cs.length < 64 ∧ ∀ p, H p = none → Q (.ref p) (upd H p (.lst ((sortS cs).map V.str)))
theorem cr_sortX (hc : X.calm = true) : CallR X (.builtin "sorted") (rSortX X.prog X.w) := by
  intro pins s σ H vs us Q I r h
  obtain ⟨a, cs, rfl, ha, h64, q⟩ := h
  have R : SetX0 X.prog X.w a cs s.heap := (I.hok a _ ha).1
  rw [Vals.ref1 r]
  refine sorted_setX R (I.ok.hd hc) h64 fun s' p out c k g o hp hg hout => ?_
  have hn : H p = none := I.hok.fresh hp
  have hv := vals_of_strs hout
  have lz : ((sortS cs).map V.str).length ≤ sizeLine := by
    have e1 := len_sortS cs
    rw [List.length_map, sizeLine_eq]
    omega
  have J : Inv X pins σ (upd H p (.lst ((sortS cs).map V.str))) { s with heap := s'.heap, gens := s'.gens, drawn := s'.drawn, toks := s'.toks } :=
    I.call (ch := []) (Un.laid k hp hn) (I.hok.laid k hp ⟨lz, out.toList, c, hv, hg⟩) (by rw [g]; exact I.bare) (fun _ z => nomatch z)
  have e : s' = { s with heap := s'.heap, gens := s'.gens, drawn := s'.drawn, toks := s'.toks } := by
    cases s'
    cases s
    cases o
    rfl
  rw [e]
  exact ⟨.ref p, _, J, rfl, q p hn⟩
end
/-! ### sorted(set(e)) as one expression -/
def textsOf (μ : Sto) (d : D) : Option (List Str) := match d with
  | .str x => some (x.cps.toList.map sing)
  | d => (asQ μ d).bind strsOf
def srtD (d : D) : M D := fun μ => match textsOf μ d with
  | some ks => if ks.length < 64 then .ok (.lst ((sortS ks).map .str)) μ else .stuck
  | none => .stuck
def srtOk (G : Ctx) : Bool := G.isB "sorted" && G.isB "set" && glB G.sc "sorted" && glB G.sc "set" && !G.hot
def srtE (r : Dn) (G : Ctx) (e : Expr) (ρ : Sl) : M D := if srtOk G = true ∧ noStar [e] = true then (do let d ← r.e G e ρ; srtD d) else stuck
theorem texts_den {W : Wd} {m : Mem} {d : D} {v : V} {ks : List Str} (g : Okm W m) (h : Den W m d v) (e : textsOf m.μ d = some ks) : (∃ x : Str, v = V.str x ∧ ks = x.cps.toList.map sing) ∨ ∃ b, v = V.ref b ∧ SqL W.K m.H b (ks.map V.str) := by
  have gen : (asQ m.μ d).bind strsOf = some ks → ∃ b, v = V.ref b ∧ SqL W.K m.H b (ks.map V.str) := fun e => by
    cases q : asQ m.μ d with
    | none => rw [q] at e; cases e
    | some ds =>
      rw [q] at e
      obtain ⟨a, vs, rfl, h1, l⟩ := asQ_den g h q
      have e2 := strsOf_map (show strsOf ds = some ks from e)
      subst e2
      rw [DenL.of_strs l] at h1
      exact ⟨a, rfl, h1⟩
  cases d with
  | str x => cases h; cases e; exact .inl ⟨x, rfl, rfl⟩
  | _ => exact .inr (gen e)
section
variable {W : Wd} {Z : WX} {X : Cx} {G : Ctx} {r : Dn}
theorem pe_srt (R : EnOk W r) (ok : EOk W X Z G) (e : Expr) (p p2 pos pos2 : Pos) : PE X (.Call (.Name "sorted" p) [.Call (.Name "set" p2) [e] [] pos2] [] pos) (TEof W Z (srtE r G e)) := by
  by_cases hz : srtOk G = true ∧ noStar [e] = true
  · obtain ⟨h0, hs⟩ := id hz
    unfold srtOk at h0
    simp only [Bool.and_eq_true, Bool.not_eq_true'] at h0
    obtain ⟨⟨⟨⟨b1, b2⟩, g1⟩, g2⟩, hot⟩ := h0
    have hc := ok.calm hot
    obtain ⟨z1, z2⟩ := star_cons (env := X.env) hs
    refine PE.weak (pe_callB (cr_sortX hc) (gl_of ok g1) (ok.g.bl _ b1) (by decide +kernel) (pa_cons (pe_callTy (cr_setX hc) (gl_of ok g2) (ok.g.bl _ b2) (by decide +kernel) (pa_cons (R.e ok e) pa_nil (hs := z1)) (by decide +kernel) (by decide +kernel) z1 (star_any z2)) pa_nil) (by decide +kernel) (by decide +kernel) rfl rfl) fun σ H Q h => ?_
    obtain ⟨_, h⟩ := te_if h
    obtain ⟨ρ, m, ee, g, rr, w⟩ := h
    refine ⟨ρ, m, ee, g, rr, (wpR_bind w).mono (fun _ _ _ _ z => z) fun d m1 s1 g1 w1 v hv => ?_⟩
    unfold srtD at w1
    split at w1
    · rename_i ks e
      by_cases hlt : ks.length < 64
      · rw [if_pos hlt] at w1
        refine ⟨v, ks, rfl, by rw [ok.K]; exact texts_den g1 hv e, hlt, fun a ha => ?_⟩
        refine ⟨a, ks, rfl, upd_same, hlt, fun q hq => ?_⟩
        let m2 := m1.put a (SetXO X.prog X.w a ks)
        have s2 : Step m1 m2 := step_put g1 ha
        have g2 : Okm W m2 := good_put g1 ha
        have s3 : Step m2 (m2.put q (.lst ((sortS ks).map V.str))) := step_put g2 hq
        exact w1 (m2.put q _) (s2.trans s3) (good_put g2 hq) rfl _ (den_lst g2 hq (DenL.strs _))
      · rw [if_neg hlt] at w1; exact w1.elim
    · exact w1.elim
  · exact PE.weak PE.any fun σ H Q h => hz (te_if h).1
end
def stepE2 (r : Dn) (G : Ctx) (e : Expr) (ρ : Sl) : M D := match e with
  | .Call (.Name f p) [.Call (.Name h p2) [a] [] pos2] [] pos => if f = "sorted" ∧ h = "set" then srtE r G a ρ else stepE r G (.Call (.Name f p) [.Call (.Name h p2) [a] [] pos2] [] pos) ρ
  | e => stepE r G e ρ
theorem pe_stepE2 {W : Wd} {Z : WX} {X : Cx} {G : Ctx} {r : Dn} (R : EnOk W r) (ok : EOk W X Z G) (e : Expr) : PE X e (TEof W Z (stepE2 r G e)) := by
  unfold stepE2
  split
  · rename_i f p h p2 a pos2 pos
    by_cases q : f = "sorted" ∧ h = "set"
    · simp only [q, and_self, ↓reduceIte]
      exact pe_srt R ok a p p2 pos pos2
    · simp only [q, ↓reduceIte]
      exact pe_stepE R ok _
  · exact pe_stepE R ok _
end Pu

set_option Elab.async false
set_option linter.all false
set_option maxRecDepth 100000
/-! Pu19: methods and instances, where no repr is under way. -/
namespace Pu
open PySem L2
theorem make_guards {A : Around} {C : Addr} {us : List Value} {kw : List (Str × Value)} : (A.under (.builtin "type.__call__" ⟨.ref C :: us, kw⟩)).guards = A.guards := by
  first | rfl | simp [Around.under, Code.isGuard, guardIds]
section
variable {X : Cx} {k : Nat} {f C : Addr} {fd : FuncData} {ps : List Str} {sp : Sp} {Z : WX} {x m : Str} {p pos apos : Pos} {e o : Expr} {es : List Expr} {ta : TE} {t : TA}
/-- C(..): a new instance, then __init__ -/
theorem run_makeG {pins : List (Addr × Obj)} {σ : St} {H : Hp} {s : Shared} {Q : VK} {us : List Value} {vs : List V} (M : L2.Mk X.K C f) (F : FnG X.prog X.w X.K X.mg X.base k f fd ps sp) (room : Room (k + 1) X.A) (gd : X.A.guards = some []) (bs : Binds X.K fd ps []) (tk : Takes X Z)
    (I : Inv X pins σ H s) (r : Vals vs us) (h : ∀ y dx, H y = none → H dx = none → dx ≠ y → sp (.ref y :: vs) (upd (upd H dx (.own y)) y (.ins C dx [])) (fun v H2 => v = .non ∧ Q (.ref y) H2) (WE Z σ)) :
    wpAny (model X.prog X.w) X.A (call (.ref C) us) (EP X pins σ Q) X.xe s := by
  have q := h (s.heap.objs.size + 1) s.heap.objs.size (I.hok.fresh (Nat.le_succ _)) (I.hok.fresh (Nat.le_refl _)) (Nat.ne_of_lt (Nat.lt_add_one _))
  have J := Inv.made (C := C) I
  have r2 : Vals (V.ref (s.heap.objs.size + 1) :: vs) (Value.ref (s.heap.objs.size + 1) :: us) := .cons rfl r
  have n : (Value.ref (s.heap.objs.size + 1) :: us).length = ps.length := by rw [← r2.length]; exact F.arity _ _ _ _ q
  have bb := bs _ (Value.ref (s.heap.objs.size + 1) :: us) J.kIn (by rw [List.append_nil]; exact n)
  rw [List.append_nil] at bb
  refine wpAny_call (make_map (f := f) I.kIn M.makes M.init (beq_iff_eq.mp M.fn) (codeAny_mono (F.go _ X.stack _ _ ⟨Value.ref (s.heap.objs.size + 1) :: us, []⟩ _ _ _ (WE Z σ) (room.make C us []) (by rw [make_guards]; exact gd) (J.env0.make C us []) bb r2 q) fun res s' c => ?_))
  match res, c with
  | .error err, c => exact passAt tk σ pins _ _ err s' J c
  | .ok .next, c => exact c.elim
  | .ok .brk, c => exact c.elim
  | .ok .cont, c => exact c.elim
  | .ok (.ret u), c =>
    obtain ⟨v, H', J2, rv, ev, q2⟩ := J.after c
    subst ev
    exact ⟨rv, V.ref (s.heap.objs.size + 1), H', J2, rfl, q2⟩
/-- a call by values, as code -/
theorem code_G {pins : List (Addr × Obj)} {σ : St} {H : Hp} {s : Shared} {Q : VK} {us : List Value} {vs : List V} (F : FnG X.prog X.w X.K X.mg X.base k f fd ps sp) (room : Room k X.A) (gd : X.A.guards = some []) (bs : Binds X.K fd ps []) (tk : Takes X Z)
    (I : Inv X pins σ H s) (r : Vals vs us) (h : sp vs H Q (WE Z σ)) : codeAny (model X.prog X.w) X.A (.call (.ref f) ⟨us, []⟩) (fun r s' => match r with | .ok (.ret v) => EP X pins σ Q v s' | .ok _ => False | .error e => X.xe e s') s := by
  have n : us.length = ps.length := by rw [← r.length]; exact F.arity _ _ _ _ h
  have bb := bs s us I.kIn (by rw [List.append_nil]; exact n)
  rw [List.append_nil] at bb
  refine codeAny_mono (F.go X.A X.stack s H ⟨us, []⟩ us vs Q (WE Z σ) room gd I.env0 bb r h) fun res s' q => ?_
  match res, q with
  | .error err, q => exact passAt tk σ pins H s err s' I q
  | .ok .next, q => exact q.elim
  | .ok .brk, q => exact q.elim
  | .ok .cont, q => exact q.elim
  | .ok (.ret u), q => exact I.after q
/-- .. out of the machine's own code; nothing is raised -/
theorem code_in {A : Around} {pins : List (Addr × Obj)} {σ : St} {H : Hp} {s : Shared} {Q : VK} {us : List Value} {vs : List V} (F : FnG X.prog X.w X.K X.mg X.base k f fd ps sp) (room : Room k A) (gd : A.guards = some []) (e0 : Env0 X.prog X.w X.K X.mg X.base A X.stack s H)
    (bs : Binds X.K fd ps []) (I : Inv X pins σ H s) (r : Vals vs us) (h : sp vs H Q fun _ _ _ => False) : codeAny (model X.prog X.w) A (.call (.ref f) ⟨us, []⟩) (fun r s' => match r with | .ok (.ret v) => EP X pins σ Q v s' | .ok _ => False | .error e => False) s := by
  have n : us.length = ps.length := by rw [← r.length]; exact F.arity _ _ _ _ h
  have bb := bs s us I.kIn (by rw [List.append_nil]; exact n)
  rw [List.append_nil] at bb
  refine codeAny_mono (F.go A X.stack s H ⟨us, []⟩ us vs Q (fun _ _ _ => False) room gd e0 bb r h) fun res s' q => ?_
  match res, q with
  | .error err, q => obtain ⟨_, _, _, _, _, _, _, _, _, _, _, _, z⟩ := q; exact z.elim
  | .ok .next, q => exact q.elim
  | .ok .brk, q => exact q.elim
  | .ok .cont, q => exact q.elim
  | .ok (.ret u), q => exact I.after q
/-- a property, read -/
theorem getprop_G {a p dx : Addr} {fs : List (Str × V)} {pins : List (Addr × Obj)} {σ : St} {H : Hp} {s : Shared} {Q : VK} {b : Bool} {E' : Value → Shared → Prop} (I : Inv X pins σ H s) (ea : H a = some (.ins C dx fs)) (c : Cls X.K C) (hp : PropOf X.K C m p f)
    (F : FnG X.prog X.w X.K X.mg X.base k f fd ps sp) (hr : Room (k + 1) X.A) (gd : X.A.guards = some []) (hb : Binds X.K fd ps []) (h : sp [.ref a] H Q fun _ _ _ => False) :
    wpAny (model X.prog X.w) X.A (getAttr (.ref a) m b) (EP X pins σ Q) E' s := by
  obtain ⟨mA, O, _, _, _, _⟩ := ins_get I.hok ea
  obtain ⟨od, J, _⟩ := O.look
  obtain ⟨rest, hrec⟩ := hp.rec_
  have I1 := I.tok (s.toks + 1)
  have hc : (PySem.W.clsIn X.K C).isSome = true := by
    obtain ⟨cd, hc, _⟩ := PySem.W.any_some c.hd
    rw [hc]
    rfl
  refine PySem.W.get_bind I.kIn J (PySem.W.plainGet_of (c.get m)).1 (PySem.W.findObj_data hc hp.at_ hp.get hp.tak) (PySem.W.plainGet_of (c.get m)).2 (wpAny_call (PySem.W.prop_get (s := { s with toks := s.toks + 1 }) I.kIn hrec ?_))
  refine codeAny_mono (code_in F hr.in1 (by exact gd) I1.env0.in1 hb I1 (vs := [V.ref a]) (us := [Value.ref a]) (.cons rfl .nil) h) fun r s' hq => ?_
  match r, hq with
  | .error er, hq => exact hq.elim
  | .ok .next, hq => exact hq.elim
  | .ok .brk, hq => exact hq.elim
  | .ok .cont, hq => exact hq.elim
  | .ok (.ret u), hq =>
    obtain ⟨v, H', I3, rv, q3⟩ := hq
    show wpAny _ _ (handedOut u) _ _ _
    rw [PySem.W.handedOut_of (handed_of rv)]
    exact wpAny_pure ⟨v, H', I3, rv, q3⟩
/-- the call of a class method's record -/
theorem run_cmG {q : Addr} {pins : List (Addr × Obj)} {σ : St} {H : Hp} {s : Shared} {Q : VK} {us : List Value} {vs : List V} (F : FnG X.prog X.w X.K X.mg X.base k f fd ps sp) (room : Room k X.A) (gd : X.A.guards = some []) (bs : Binds X.K fd ps []) (tk : Takes X Z)
    (I : Inv X ((q, PySem.W.methodObj (.ref f) (.ref C)) :: pins) σ H s) (r : Vals vs us) (h : sp (.ref C :: vs) H Q (WE Z σ)) : wpAny (model X.prog X.w) X.A (call (.ref q) us) (EP X pins σ Q) X.xe s := by
  have z : wpAny (model X.prog X.w) X.A (call (.ref q) us) (EP X ((q, PySem.W.methodObj (.ref f) (.ref C)) :: pins) σ Q) X.xe s :=
    wpAny_call (PySem.W.method_call (ClX.pin_at I) (code_G (us := .ref C :: us) (vs := .ref C :: vs) F room gd bs tk I (.cons rfl r) h))
  exact thn z fun _ _ y => ClX.unpinE y
theorem pe_cmethG {mc : Value} {g : Addr} {pl : Sem Bool} (ho : PE X o ta) (rd : ClX.CRead X.K C mc) (c : ClX.CMet X.K C mc m g f) (F : FnG X.prog X.w X.K X.mg X.base k f fd ps sp) (room : Room k X.A) (gd : X.A.guards = some []) (bs : Binds X.K fd ps []) (tk : Takes X Z) (ha : PA X (e :: es) t)
    (st : starEach (e :: es) X.env = (false, eval e X.env) :: starEach es X.env) (pn : (backTo pos (starEach es X.env)).any (·.1) = false)
    (hev : eval (.Call (.Attribute o m apos) (e :: es) [] pos) X.env = (do
      let ov ← eval o X.env
      standAt apos.atName
      let (g, first) ← holding [ov] (getMethod ov m pl)
      callWith pos g first (backTo pos (starEach (e :: es) X.env)) (backToKw pos (keywordEach [] X.env)))) :
    PE X (.Call (.Attribute o m apos) (e :: es) [] pos) (fun σ H Q => ta σ H fun y H1 => y = .ref C ∧ t σ H1 fun vs H2 => sp (.ref C :: vs) H2 Q (WE Z σ)) := by
  refine ⟨fun pins s σ H Q I h => PySem.W.methodCall_KW (pl := pl) (thn (ho.run pins s σ H _ I h) fun u s1 ⟨y, H1, I1, ry, ey, q⟩ => ?_) hev⟩
  subst ey
  cases (show u = Value.ref C from ry)
  refine ClX.getmethcm_ok I1 rd c fun s2 I2 => ?_
  refine ClX.callwith_cm I2 (ClX.base_none I1 (Nat.le_refl _)) c.fi (thn (ha.run pos _ s2 σ H1 _ I2 q) fun us s3 ⟨vs, H2, I3, rv, q2⟩ => ⟨⟨ClX.pin_at I3, I3.kIn⟩, ?_⟩) st pn
  exact run_cmG F room gd bs tk I3 rv q2
/-- f(e, ..), f a name of the def whose value is an instance or a class -/
theorem pe_callV {fe : Expr} {tf : TE} (hf : PE X fe tf) (ha : PA X (e :: es) t)
    (ht : eval (.Call fe (e :: es) [] pos) X.env = (do callWith pos (← eval fe X.env) [] (backTo pos (starEach (e :: es) X.env)) (backToKw pos (keywordEach [] X.env))))
    (st : starEach (e :: es) X.env = (false, eval e X.env) :: starEach es X.env) (pn : (backTo pos (starEach es X.env)).any (·.1) = false) (gd : X.A.guards = some []) (tk : Takes X Z) :
    PE X (.Call fe (e :: es) [] pos) (fun σ H Q => tf σ H fun y H1 => ∃ a, y = V.ref a ∧
      ((∃ C g k fd ps sp, StX.CallO X.K C g ∧ FnG X.prog X.w X.K X.mg X.base k g fd ps sp ∧ Room k X.A ∧ Binds X.K fd ps [] ∧ t σ H1 fun vs H2 => (∃ dx fs, H2 a = some (.ins C dx fs)) ∧ sp (V.ref a :: vs) H2 Q (WE Z σ)) ∨
       (∃ g k fd ps sp, L2.Mk X.K a g ∧ FnG X.prog X.w X.K X.mg X.base k g fd ps sp ∧ Room (k + 1) X.A ∧ Binds X.K fd ps [] ∧ t σ H1 fun vs H2 => ∀ y dx, H2 y = none → H2 dx = none → dx ≠ y → sp (.ref y :: vs) (upd (upd H2 dx (.own y)) y (.ins a dx [])) (fun v H3 => v = .non ∧ Q (.ref y) H3) (WE Z σ)))) := by
  refine ⟨fun pins s σ H Q I h => ?_⟩
  refine PyProof.Rows.Call_ (thn (hf.run pins s σ H _ I h) fun u s1 ⟨y, H1, I1, ry, a, ey, q⟩ => ?_) ht
  subst ey
  obtain rfl : u = Value.ref a := ry
  rcases q with ⟨C, g, k, fd, ps, sp, c, F, room, bs, q⟩ | ⟨g, k, fd, ps, sp, M, F, room, bs, q⟩
  · refine StX.callO_with (thn (ha.run pos pins s1 σ H1 _ I1 q) fun us s2 ⟨vs, H2, I2, r, hi, q2⟩ => ?_) st pn
    obtain ⟨ox, od, J, hd⟩ := StX.insC_at (X := X) (C := C) I2 (.inr hi)
    exact ⟨⟨C, ox, od, J, hd⟩, wpAny_call (PySem.W.kco_code I2.kIn J hd c.at_ c.fn c.fi (code_G (us := .ref a :: us) (vs := .ref a :: vs) F room gd bs tk I2 (.cons rfl r) q2))⟩
  · exact PySem.W.callWith_K (h₀ := X.base) I1.ok.mod.kin M.kp (thn (ha.run pos pins s1 σ H1 _ I1 q) fun us s2 ⟨vs, H2, I2, rv, q2⟩ => ⟨I2.kIn, run_makeG M F room gd bs tk I2 rv q2⟩) st pn
/-- o.m(e, ..) -/
theorem pe_methG {pl : Sem Bool} (ho : PE X o ta) (c : Cls X.K C) (hm : Meth X.K C m f) (F : FnG X.prog X.w X.K X.mg X.base k f fd ps sp) (room : Room k X.A) (gd : X.A.guards = some []) (bs : Binds X.K fd ps []) (tk : Takes X Z) (ha : PA X (e :: es) t)
    (st : starEach (e :: es) X.env = (false, eval e X.env) :: starEach es X.env) (pn : (backTo pos (starEach es X.env)).any (·.1) = false)
    (hev : eval (.Call (.Attribute o m apos) (e :: es) [] pos) X.env = (do
      let ov ← eval o X.env
      standAt apos.atName
      let (g, first) ← holding [ov] (getMethod ov m pl)
      callWith pos g first (backTo pos (starEach (e :: es) X.env)) (backToKw pos (keywordEach [] X.env)))) :
    PE X (.Call (.Attribute o m apos) (e :: es) [] pos) (fun σ H Q => ta σ H fun y H1 => ∃ a dx fs, y = .ref a ∧ H1 a = some (.ins C dx fs) ∧ fs.lookup m = none ∧ t σ H1 fun vs H2 => sp (y :: vs) H2 Q (WE Z σ)) := by
  refine ⟨fun pins s σ H Q I h => PySem.W.methodCall_KW (pl := pl) (thn (ho.run pins s σ H _ I h) fun u s1 ⟨y, H1, I1, ry, a, dx, fs, ey, ea, no, q⟩ => ?_) hev⟩
  subst ey
  cases (show u = Value.ref a from ry)
  refine getmeth_ok I1 ea c hm no (PySem.W.callWith_K (first := [.ref a]) (h₀ := X.base) I.ok.mod.kin hm.kp (thn (ha.run pos pins s1 σ H1 _ I1 q) fun us s2 ⟨vs, H2, I2, r, q2⟩ => ⟨I2.kIn, ?_⟩) st pn)
  exact run_G (us := .ref a :: us) (vs := .ref a :: vs) F room gd bs tk I2 (.cons rfl r) q2
/-- o.m() -/
theorem pe_methG0 {pl : Sem Bool} (ho : PE X o ta) (c : Cls X.K C) (hm : Meth X.K C m f) (F : FnG X.prog X.w X.K X.mg X.base k f fd ps sp) (room : Room k X.A) (gd : X.A.guards = some []) (bs : Binds X.K fd ps []) (tk : Takes X Z)
    (hev : eval (.Call (.Attribute o m apos) [] [] pos) X.env = (do
      let ov ← eval o X.env
      standAt apos.atName
      let (g, first) ← holding [ov] (getMethod ov m pl)
      callWith pos g first (backTo pos (starEach [] X.env)) (backToKw pos (keywordEach [] X.env)))) :
    PE X (.Call (.Attribute o m apos) [] [] pos) (fun σ H Q => ta σ H fun y H1 => ∃ a dx fs, y = .ref a ∧ H1 a = some (.ins C dx fs) ∧ fs.lookup m = none ∧ sp [y] H1 Q (WE Z σ)) := by
  refine ⟨fun pins s σ H Q I h => PySem.W.methodCall_KW (pl := pl) (thn (ho.run pins s σ H _ I h) fun u s1 ⟨y, H1, I1, ry, a, dx, fs, ey, ea, no, q⟩ => ?_) hev⟩
  subst ey
  cases (show u = Value.ref a from ry)
  exact getmeth_ok I1 ea c hm no (PySem.W.callWith_K0 (first := [.ref a]) I1.kIn hm.kp (run_G (us := [.ref a]) (vs := [.ref a]) F room gd bs tk I1 (.cons rfl .nil) q))
end
end Pu

set_option Elab.async false
set_option linter.all false
set_option maxRecDepth 100000
/-! Pu22: append and pop of a list that changes. -/
namespace Pu
open PySem L2
def chkL (x : D) : M Unit := fun μ => match x with
  | .cell c => match μ[c]? with
    | some (.lst _) => .ok () μ
    | _ => .stuck
  | _ => .stuck
def appD (x y : D) : M D := fun μ => match x with
  | .cell c => match μ[c]? with
    | some (.lst xs) => if xs.length < sizeLine then .ok .non (μ.set c (.lst (xs ++ [y]))) else .stuck
    | _ => .stuck
  | _ => .stuck
def popD (x y : D) : M D := fun μ => match x, y with
  | .cell c, .int i => match μ[c]? with
    | some (.lst xs) => if -(2 ^ 63) ≤ i ∧ i < 2 ^ 63 then (match seqIndex? i xs.length with
      | some k => (match xs[k]? with
        | some z => .ok z (μ.set c (.lst (xs.eraseIdx k)))
        | none => .stuck)
      | none => .stuck) else .stuck
    | _ => .stuck
  | _, _ => .stuck
/-- xs.append(e), xs.pop(e) -/
def methL (r : Dn) (G : Ctx) (o : Expr) (m : Str) (es : List Expr) (ok : Bool) (ρ : Sl) : M D :=
  if plainO o = true ∧ noStar es = true ∧ ok = true ∧ G.hot = false then
    match es with
    | [e] => if m = "append" then (do let x ← r.e G o ρ; chkL x; let y ← r.e G e ρ; appD x y) else if m = "pop" then (do let x ← r.e G o ρ; chkL x; let y ← r.e G e ρ; popD x y) else stuck
    | _ => stuck
  else stuck
section
variable {W : Wd} {Z : WX} {X : Cx} {G : Ctx} {r : Dn}
theorem chk_den {m : Mem} {d : D} {v : V} {E : Ex → Mem → Prop} {Q : Unit → Mem → Prop} (g : Okm W m) (hv : Den W m d v) (w : wpR W m E Q (chkL d m.μ)) : (∃ c a xs, d = .cell c ∧ v = .ref a ∧ m.as[c]? = some a ∧ m.H a = some (.lst xs)) ∧ Q () m := by
  unfold chkL at w
  split at w
  · rename_i c
    split at w
    · rename_i xs e
      cases hv with
      | @cell _ a h1 =>
        obtain ⟨vs, h2, _⟩ := g.ok c _ a e h1
        exact ⟨⟨c, a, vs, rfl, rfl, h1, h2⟩, w m (Step.refl m) g rfl⟩
    · exact w.elim
  · exact w.elim
theorem denL_erase {m : Mem} : ∀ {ds : List D} {vs : List V}, DenL W m ds vs → ∀ k, DenL W m (ds.eraseIdx k) (vs.eraseIdx k)
  | _, _, .nil, _ => .nil
  | _, _, .cons h t, 0 => t
  | _, _, .cons h t, k + 1 => .cons h (denL_erase t k)
theorem denL_app1 {m : Mem} {d : D} {v : V} (h : Den W m d v) : ∀ {ds : List D} {vs : List V}, DenL W m ds vs → DenL W m (ds ++ [d]) (vs ++ [v])
  | _, _, .nil => .cons h .nil
  | _, _, .cons h1 t => .cons h1 (denL_app1 h t)
theorem denL_at {m : Mem} : ∀ {ds : List D} {vs : List V}, DenL W m ds vs → ∀ (i : Nat) (d : D), ds[i]? = some d → ∃ v, vs[i]? = some v ∧ Den W m d v
  | _, _, .nil, i, d, h => by simp at h
  | _, _, .cons h t, 0, d, e => by cases e; exact ⟨_, rfl, h⟩
  | _, _, .cons h t, i + 1, d, e => denL_at t i d e
theorem app_out {m : Mem} {x y : D} {a : Addr} {u : V} {E : Ex → Mem → Prop} {Q : VK} (g : Okm W m) (hx : Den W m x (.ref a)) (hy : Den W m y u) (w : out W m E Q (appD x y m.μ)) : rAppend (.ref a) [u] m.H Q := by
  unfold appD at w
  split at w
  · rename_i c
    split at w
    · rename_i xs e1
      by_cases hl : xs.length < sizeLine
      · rw [if_pos hl] at w
        cases hx with
        | @cell _ _ h1 =>
          obtain ⟨vs, h2, l⟩ := g.ok c _ a e1 h1
          have lv : m.live a := .inl ⟨c, _, h1, e1, fun z => nomatch z⟩
          have st : Step m (m.wr c a (.lst (vs ++ [u])) (.lst (xs ++ [y]))) := step_wr g h1 lv
          refine ⟨a, vs, u, rfl, rfl, h2, by rw [← l.length]; exact hl, ?_⟩
          exact w (m.wr c a (.lst (vs ++ [u])) (.lst (xs ++ [y]))) st (good_wr g h1 lv ⟨_, upd_same, (denL_app1 hy l).mono st⟩) rfl _ .non
      · rw [if_neg hl] at w
        exact (show False from w).elim
    · exact (show False from w).elim
  · exact (show False from w).elim
theorem pop_out {m : Mem} {x y : D} {a : Addr} {u : V} {E : Ex → Mem → Prop} {Q : VK} (g : Okm W m) (hx : Den W m x (.ref a)) (hy : Den W m y u) (w : out W m E Q (popD x y m.μ)) : rPopAt (.ref a) [u] m.H Q := by
  unfold popD at w
  split at w
  · rename_i c i
    split at w
    · rename_i xs e1
      by_cases hb : -(2 ^ 63) ≤ i ∧ i < 2 ^ 63
      · rw [if_pos hb] at w
        cases q : seqIndex? i xs.length with
        | none => rw [q] at w; exact (show False from w).elim
        | some k =>
          rw [q] at w
          cases q2 : xs[k]? with
          | none => simp only [q2] at w; exact (show False from w).elim
          | some z =>
            simp only [q2] at w
            cases den_int hy
            cases hx with
            | @cell _ _ h1 =>
              obtain ⟨vs, h2, l⟩ := g.ok c _ a e1 h1
              obtain ⟨vz, e2, e3⟩ := denL_at l k z q2
              have lv : m.live a := .inl ⟨c, _, h1, e1, fun z => nomatch z⟩
              have st : Step m (m.wr c a (.lst (vs.eraseIdx k)) (.lst (xs.eraseIdx k))) := step_wr g h1 lv
              refine ⟨a, vs, i, k, vz, rfl, rfl, h2, hb.1, hb.2, by rw [← l.length]; exact q, e2, ?_⟩
              exact w (m.wr c a (.lst (vs.eraseIdx k)) (.lst (xs.eraseIdx k))) st (good_wr g h1 lv ⟨_, upd_same, (denL_erase l k).mono st⟩) rfl _ (e3.mono st)
      · rw [if_neg hb] at w
        exact (show False from w).elim
    · exact (show False from w).elim
  · exact (show False from w).elim
theorem te_else {c : Prop} [Decidable c] {f k : Sl → M D} {σ : St} {H : Hp} {Q : VK} (hc : ¬ c) (h : TEof W Z (fun ρ => if c then f ρ else k ρ) σ H Q) : TEof W Z k σ H Q := by
  obtain ⟨ρ, m, e, g, rr, w⟩ := h
  refine ⟨ρ, m, e, g, rr, ?_⟩
  simp only [hc, ↓reduceIte] at w
  exact w
theorem few1 {pos : Pos} {env : Env} {e : Expr} (h : noStar [e] = true) : ((backTo pos (starEach [e] env)).all (fun x => !x.1) && (backToKw pos (keywordEach [] env)).all (fun x => x.1.isSome) && decide (([e] : List Expr).length + ([] : List Keyword).length + (if ([] : List Keyword).isEmpty then 0 else 1) < 30)) = true := by
  obtain ⟨h1, _⟩ := star_cons (env := env) h
  rw [h1]
  rfl
theorem pe_methL (R : EnOk W r) (ok : EOk W X Z G) (o : Expr) (m : Str) (es : List Expr) (ap pos : Pos) : PE X (.Call (.Attribute o m ap) es [] pos) (TEof W Z (methL r G o m es (ap.endLine == pos.line))) := by
  have none_of : (∀ ρ, methL r G o m es (ap.endLine == pos.line) ρ = stuck) → PE X (.Call (.Attribute o m ap) es [] pos) (TEof W Z (methL r G o m es (ap.endLine == pos.line))) := fun z => PE.weak PE.any fun σ H Q h => te_none z h
  by_cases h0 : plainO o = true ∧ noStar es = true ∧ (ap.endLine == pos.line) = true ∧ G.hot = false
  · match es, h0 with
    | [], h0 => exact none_of fun ρ => by unfold methL; rw [if_pos h0]
    | _ :: _ :: _, h0 => exact none_of fun ρ => by unfold methL; rw [if_pos h0]
    | [e], h0 =>
      obtain ⟨z1, z2⟩ := star_cons (env := X.env) h0.2.1
      by_cases hj : m = "append"
      · subst hj
        refine PE.weak (pe_bm PySem.F.plainAttrs_list PySem.F.slot_list_append PySem.F.type_list_append mt_append (R.e ok o) (pa_cons (R.e ok e) pa_nil (hs := z1)) (plainO_base h0.1 _ X.env) (few1 h0.2.1) h0.2.2.1 z1 (star_any z2)) fun σ H Q h => ?_
        obtain ⟨ρ, mm, ee, g, rr, w⟩ := (te_if (te_if h).2).2
        refine ⟨ρ, mm, ee, g, rr, (wpR_bind w).mono (fun _ _ _ _ z => z) fun x m1 s1 g1 w1 xv hxv => ?_⟩
        obtain ⟨⟨c, a, xs, rfl, rfl, h1, h2⟩, w2⟩ := chk_den g1 hxv (wpR_bind w1)
        refine ⟨.inl ⟨rfl, xs, .inl (.inl h2)⟩, ρ, m1, rfl, g1, rr.mono s1, (wpR_bind w2).mono (fun _ _ _ _ z => z) fun y m2 s2 g2 w3 u hu => ?_⟩
        exact app_out g2 (hxv.mono s2) hu w3
      · by_cases hp : m = "pop"
        · subst hp
          refine PE.weak (pe_bm PySem.F.plainAttrs_list PySem.F.slot_list_pop PySem.F.type_list_pop mt_popAt (R.e ok o) (pa_cons (R.e ok e) pa_nil (hs := z1)) (plainO_base h0.1 _ X.env) (few1 h0.2.1) h0.2.2.1 z1 (star_any z2)) fun σ H Q h => ?_
          obtain ⟨ρ, mm, ee, g, rr, w⟩ := (te_if (te_else hj (te_if h).2)).2
          refine ⟨ρ, mm, ee, g, rr, (wpR_bind w).mono (fun _ _ _ _ z => z) fun x m1 s1 g1 w1 xv hxv => ?_⟩
          obtain ⟨⟨c, a, xs, rfl, rfl, h1, h2⟩, w2⟩ := chk_den g1 hxv (wpR_bind w1)
          refine ⟨.inl ⟨rfl, xs, .inl (.inl h2)⟩, ρ, m1, rfl, g1, rr.mono s1, (wpR_bind w2).mono (fun _ _ _ _ z => z) fun y m2 s2 g2 w3 u hu => ?_⟩
          exact pop_out g2 (hxv.mono s2) hu w3
        · refine none_of fun ρ => ?_
          unfold methL
          rw [if_pos h0]
          simp only
          rw [if_neg hj, if_neg hp]
  · refine none_of fun ρ => ?_
    unfold methL
    rw [if_neg h0]
end
end Pu

set_option Elab.async false
set_option linter.all false
set_option maxRecDepth 100000
/-! Pu20: attributes and methods of instances. -/
namespace Pu
open PySem L2
def attrD (G : Ctx) (f : Str) (d : D) : M D := fun μ => match asO μ d with
  | some (C, fs) => match G.prop C f with
    | some F => if G.hot = false then noX (F [d]) μ else .stuck
    | none => if G.fld C f = true then (match fs.lookup f with | some v => .ok v μ | none => .stuck) else .stuck
  | none => .stuck
def attrE (r : Dn) (G : Ctx) (o : Expr) (f : Str) (ρ : Sl) : M D := if plainO o = true then (do let d ← r.e G o ρ; attrD G f d) else stuck
section
variable {W : Wd} {Z : WX} {X : Cx} {G : Ctx} {r : Dn}
theorem pe_attrE (R : EnOk W r) (ok : EOk W X Z G) (o : Expr) (f : Str) (pos : Pos) : PE X (.Attribute o f pos) (TEof W Z (attrE r G o f)) := by
  by_cases hz : plainO o = true
  · refine ⟨fun pins s σ H Q I h => ?_⟩
    obtain ⟨ρ, m, ee, g, rr, w⟩ := (te_if h).2
    refine attr_of (plainO_base hz f X.env) (thn ((R.e ok o).run pins s σ H (fun v H1 => ∃ m1 d, m1.H = H1 ∧ Okm W m1 ∧ Den W m1 d v ∧ wpR W m1 (EWish W Z σ) (fun d m' => ∀ v, Den W m' d v → Q v m'.H) (attrD G f d m1.μ)) I ⟨ρ, m, ee, g, rr, (wpR_bind w).mono (fun _ _ _ _ z => z) fun d m1 s1 g1 w1 v hv => ⟨m1, d, rfl, g1, hv, w1⟩⟩) fun u s1 ⟨v, H1, I1, rv, m1, d, e1, g1, hv, w1⟩ => ?_)
    subst e1
    unfold attrD at w1
    cases q : asO m1.μ d with
    | none => rw [q] at w1; exact w1.elim
    | some cf =>
      obtain ⟨C, fs⟩ := cf
      rw [q] at w1
      simp only at w1
      obtain ⟨a, dx, fv, rfl, h1, h3⟩ := asO_den g1 hv q
      cases (show u = Value.ref a from rv)
      cases qp : G.prop C f with
      | some F =>
        rw [qp] at w1
        simp only at w1
        by_cases hh : G.hot = false
        · rw [if_pos hh] at w1
          obtain ⟨p, g, fd, ps, j, hj, c, hp, FG, bs⟩ := ok.g.ob.prop C f F qp
          rw [← ok.K] at c hp FG bs
          exact getprop_G I1 h1 c hp FG ((ok.room hh).mono hj) ok.gd bs ⟨rfl, [d], m1, rfl, g1, .cons hv .nil, noX_wp w1⟩
        · rw [if_neg hh] at w1; exact w1.elim
      | none =>
        rw [qp] at w1
        simp only at w1
        by_cases hf : G.fld C f = true
        · rw [if_pos hf] at w1
          cases q2 : fs.lookup f with
          | none => rw [q2] at w1; exact w1.elim
          | some y =>
            rw [q2] at w1
            obtain ⟨u, e1, e2⟩ := (denF_get h3 f).1 y q2
            obtain ⟨c1, c2⟩ := ok.g.ob.fld C f hf
            rw [← ok.K] at c1 c2
            exact getattr_ok I1 h1 c1 c2 e1 fun u' s' I' ru => ⟨u, m1.H, I', ru, w1 m1 (Step.refl m1) g1 rfl u e2⟩
        · rw [if_neg hf] at w1; exact w1.elim
  · exact PE.weak PE.any fun σ H Q h => hz (te_if h).1
/-! ### o.m(..) -/
/-- a method of an instance's class -/
def instD (r : Dn) (G : Ctx) (C m : Str) (d : D) (fs : List (Str × D)) (es : List Expr) (ρ : Sl) : M D := match G.meth C m with
  | some (n, F) => if fs.lookup m = none then (do let ds ← aD r G es ρ; if ds.length = n then F (d :: ds) else stuck) else stuck
  | none => stuck
/-- methods of lists and texts -/
def methF (r : Dn) (G : Ctx) (o : Expr) (m : Str) (es : List Expr) (ok : Bool) (ρ : Sl) : M D := if m = "append" ∨ m = "pop" then methL r G o m es ok ρ else methD r G o m es ok ρ
theorem pe_methF (R : EnOk W r) (ok : EOk W X Z G) (o : Expr) (m : Str) (es : List Expr) (ap pos : Pos) : PE X (.Call (.Attribute o m ap) es [] pos) (TEof W Z (methF r G o m es (ap.endLine == pos.line))) := by
  by_cases h : m = "append" ∨ m = "pop"
  · have e : methF r G o m es (ap.endLine == pos.line) = methL r G o m es (ap.endLine == pos.line) := by
      funext ρ
      unfold methF
      rw [if_pos h]
    rw [e]
    exact pe_methL R ok o m es ap pos
  · have e : methF r G o m es (ap.endLine == pos.line) = methD r G o m es (ap.endLine == pos.line) := by
      funext ρ
      unfold methF
      rw [if_neg h]
    rw [e]
    exact pe_methD R ok o m es ap pos
/-- a class method -/
def clsmD (r : Dn) (G : Ctx) (C m : Str) (es : List Expr) (ρ : Sl) : M D := match G.cmeth C m with
  | some (n, F) => if es ≠ [] then (do let ds ← aD r G es ρ; if ds.length = n then F (.adr C :: ds) else stuck) else stuck
  | none => stuck
def asC : D → Option Str
  | .adr C => some C
  | _ => none
theorem asC_den {W : Wd} {m : Mem} {d : D} {C : Str} (h : asC d = some C) : d = .adr C := by
  cases d <;> first | cases h <;> rfl | cases h
def methE (r : Dn) (G : Ctx) (o : Expr) (m : Str) (es : List Expr) (ok : Bool) (ρ : Sl) : M D := fun μ => match r.e G o ρ μ with
  | .ok d μ1 => (match asO μ1 d with
    | some (C, fs) => if plainO o = true ∧ noStar es = true ∧ ok = true ∧ G.hot = false ∧ es.length < 30 then instD r G C m d fs es ρ μ1 else .stuck
    | none => match asC d with
      | some C => if plainO o = true ∧ noStar es = true ∧ ok = true ∧ G.hot = false ∧ es.length < 30 then clsmD r G C m es ρ μ1 else .stuck
      | none => methF r G o m es ok ρ μ)
  | .exc _ _ => methF r G o m es ok ρ μ
  | .stuck => methF r G o m es ok ρ μ
theorem few_of {pos : Pos} {env : Env} : ∀ {es : List Expr}, noStar es = true → (backTo pos (starEach es env)).all (fun x => !x.1) = true
  | [], _ => rfl
  | e :: es, h => by
    obtain ⟨h1, h2⟩ := star_cons (env := env) h
    rw [h1]
    have ih := few_of (pos := pos) (env := env) h2
    unfold backTo at ih ⊢
    first
      | (rw [List.map_cons, List.all_cons]; rw [ih]; rfl)
      | (simp only [List.all_cons, Bool.not_false, Bool.true_and] at ih ⊢; exact ih)
      | (simp at ih ⊢; exact ih)
theorem hev_of {o : Expr} {m : Str} {apos pos : Pos} {es : List Expr} {env : Env} (h : plainO o = true) (hn : noStar es = true) (hl : es.length < 30) (hp : (apos.endLine == pos.line) = true) : eval (.Call (.Attribute o m apos) es [] pos) env = (do
      let ov ← eval o env
      standAt apos.atName
      let (g, first) ← holding [ov] (getMethod ov m (do return (← importBound o env).getD true))
      callWith pos g first (backTo pos (starEach es env)) (backToKw pos (keywordEach [] env))) := by
  have hf : methodCallForm (es.length + ([] : List Keyword).length) (backTo pos (starEach es env)) (backToKw pos (keywordEach [] env)) = true := by
    show ((backTo pos (starEach es env)).all (fun x => !x.1) && true && decide (es.length + 0 + 0 < 30)) = true
    rw [few_of hn, decide_eq_true (by omega)]
    rfl
  rw [arm_eval_Call, plainO_base h]
  unfold methodCall
  rw [hf]
  unfold calleeOf methodCallPos
  simp only [Bool.not_true, hp, Bool.or_true, ↓reduceIte, pure_bind]
theorem pe_methE (R : EnOk W r) (ok : EOk W X Z G) (old : ∀ (o : Expr) (m : Str) (es : List Expr) (apos pos : Pos), PE X (.Call (.Attribute o m apos) es [] pos) (TEof W Z (methF r G o m es (apos.endLine == pos.line)))) (o : Expr) (m : Str) (es : List Expr) (apos pos : Pos) :
    PE X (.Call (.Attribute o m apos) es [] pos) (TEof W Z (methE r G o m es (apos.endLine == pos.line))) := by
  refine ⟨fun pins s σ H Q I h => ?_⟩
  obtain ⟨ρ, mm, ee, g, rr, w⟩ := h
  unfold methE at w
  cases q : r.e G o ρ mm.μ with
  | stuck => rw [q] at w; exact (old o m es apos pos).run pins s σ H Q I ⟨ρ, mm, ee, g, rr, w⟩
  | exc x μ1 => rw [q] at w; exact (old o m es apos pos).run pins s σ H Q I ⟨ρ, mm, ee, g, rr, w⟩
  | ok d μ1 =>
    rw [q] at w
    cases q2 : asO μ1 d with
    | none =>
      simp only [q2] at w
      cases q4 : asC d with
      | none => simp only [q4] at w; exact (old o m es apos pos).run pins s σ H Q I ⟨ρ, mm, ee, g, rr, w⟩
      | some C =>
        simp only [q4] at w
        have ed := asC_den (W := W) (m := mm) q4
        subst ed
        by_cases hz : plainO o = true ∧ noStar es = true ∧ (apos.endLine == pos.line) = true ∧ G.hot = false ∧ es.length < 30
        · rw [if_pos hz] at w
          obtain ⟨z1, z2, z3, z4, z5⟩ := hz
          have w' : wpR W mm (EWish W Z σ) (fun d m' => ∀ v, Den W m' d v → Q v m'.H) (clsmD r G C m es ρ μ1) := w
          unfold clsmD at w'
          cases q3 : G.cmeth C m with
          | none => rw [q3] at w'; exact (show False from w').elim
          | some nF =>
            obtain ⟨n, F⟩ := nF
            rw [q3] at w'
            replace w' : wpR W mm (EWish W Z σ) (fun d m' => ∀ v, Den W m' d v → Q v m'.H) ((if es ≠ [] then (do let ds ← aD r G es ρ; if ds.length = n then F (.adr C :: ds) else stuck) else stuck : M D) μ1) := w'
            cases es with
            | nil => rw [if_neg (fun z => z rfl)] at w'; exact (show False from w').elim
            | cons e0 es =>
              rw [if_pos (fun z => nomatch z)] at w'
              obtain ⟨mc, p, f, fd, ps, rd, cm, FG, bs⟩ := ok.g.ob.cmeth C m n F q3
              rw [← ok.K] at rd cm FG bs
              obtain ⟨y1, y2⟩ := star_cons (env := X.env) z2
              refine (pe_cmethG (R.e ok o) rd cm FG (ok.room z4) ok.gd bs ok.tk (pa_D R ok z2) y1 (star_any y2) (hev_of z1 z2 z5 z3)).run pins s σ H Q I ⟨ρ, mm, ee, g, rr, ?_⟩
              rw [q]
              intro m1 s1 g1 e1 v hv
              rw [← e1] at w'
              refine ⟨den_adr hv, ρ, m1, rfl, g1, rr.mono s1, (wpR_bind (w'.behind s1)).mono (fun _ _ _ _ z => z) fun ds m2 s2 g2 w2 vs hvs => ?_⟩
              split at w2
              · rename_i hn
                exact ⟨by rw [List.length_cons, hvs.lenEq, hn], .adr C :: ds, m2, rfl, g2, .cons (.adr C) hvs, w2⟩
              · exact (show False from w2).elim
        · rw [if_neg hz] at w; exact w.elim
    | some cf =>
      obtain ⟨C, fs⟩ := cf
      simp only [q2] at w
      by_cases hz : plainO o = true ∧ noStar es = true ∧ (apos.endLine == pos.line) = true ∧ G.hot = false ∧ es.length < 30
      · rw [if_pos hz] at w
        obtain ⟨z1, z2, z3, z4, z5⟩ := hz
        cases q3 : G.meth C m with
        | none =>
          have w' : wpR W mm (EWish W Z σ) (fun d m' => ∀ v, Den W m' d v → Q v m'.H) (instD r G C m d fs es ρ μ1) := w
          unfold instD at w'
          rw [q3] at w'
          exact (show False from w').elim
        | some nF =>
          obtain ⟨n, F⟩ := nF
          have w' : wpR W mm (EWish W Z σ) (fun d m' => ∀ v, Den W m' d v → Q v m'.H) (instD r G C m d fs es ρ μ1) := w
          unfold instD at w'
          rw [q3] at w'
          replace w' : wpR W mm (EWish W Z σ) (fun d m' => ∀ v, Den W m' d v → Q v m'.H) ((if fs.lookup m = none then (do let ds ← aD r G es ρ; if ds.length = n then F (d :: ds) else stuck) else stuck : M D) μ1) := w'
          by_cases hno : fs.lookup m = none
          · rw [if_pos hno] at w'
            obtain ⟨f, fd, ps, c, hm, FG, bs⟩ := ok.g.ob.meth C m n F q3
            rw [← ok.K] at c hm FG bs
            have fin : wpR W mm (EWish W Z σ) (fun d1 m1 => ∀ v, Den W m1 d1 v → ∃ a dx fv, v = .ref a ∧ m1.H a = some (.ins (W.ca C) dx fv) ∧ fv.lookup m = none ∧ TAof W Z (aD r G es) σ m1.H fun vs H2 => spOf W (n + 1) F (v :: vs) H2 Q (WE Z σ)) (r.e G o ρ mm.μ) := by
              rw [q]
              intro m1 s1 g1 e1 v hv
              rw [← e1] at q2 w'
              obtain ⟨a, dx, fv, rfl, h1, h3⟩ := asO_den g1 hv q2
              refine ⟨a, dx, fv, rfl, h1, (denF_get h3 m).2 hno, ρ, m1, rfl, g1, rr.mono s1, (wpR_bind (w'.behind s1)).mono (fun _ _ _ _ z => z) fun ds m2 s2 g2 w2 vs hvs => ?_⟩
              split at w2
              · rename_i hn
                exact ⟨by rw [List.length_cons, hvs.lenEq, hn], d :: ds, m2, rfl, g2, .cons (hv.mono s2) hvs, w2⟩
              · exact (show False from w2).elim
            cases es with
            | nil =>
              refine (pe_methG0 (R.e ok o) c hm FG (ok.room z4) ok.gd bs ok.tk (hev_of z1 z2 z5 z3)).run pins s σ H Q I ⟨ρ, mm, ee, g, rr, fin.mono (fun _ _ _ _ z => z) fun d1 m1 s1 g1 w1 v hv => ?_⟩
              obtain ⟨a, dx, fv, e1, e2, e3, ρ2, m2, e4, g2, r2, w2⟩ := w1 v hv
              refine ⟨a, dx, fv, e1, e2, e3, ?_⟩
              rw [← e4]
              exact w2 m2 (Step.refl m2) g2 rfl [] .nil
            | cons e0 es =>
              obtain ⟨y1, y2⟩ := star_cons (env := X.env) z2
              exact (pe_methG (R.e ok o) c hm FG (ok.room z4) ok.gd bs ok.tk (pa_D R ok z2) y1 (star_any y2) (hev_of z1 z2 z5 z3)).run pins s σ H Q I ⟨ρ, mm, ee, g, rr, fin⟩
          · rw [if_neg hno] at w'
            exact (show False from w').elim
      · rw [if_neg hz] at w
        exact w.elim
end
def stepE3 (r : Dn) (G : Ctx) (e : Expr) (ρ : Sl) : M D := match e with
  | .Attribute o f _ => attrE r G o f ρ
  | .Call (.Attribute o m ap) es [] pos => methE r G o m es (ap.endLine == pos.line) ρ
  | e => stepE2 r G e ρ
theorem pe_stepE3 {W : Wd} {Z : WX} {X : Cx} {G : Ctx} {r : Dn} (R : EnOk W r) (ok : EOk W X Z G) (e : Expr) : PE X e (TEof W Z (stepE3 r G e)) := by
  unfold stepE3
  split
  · exact pe_attrE R ok _ _ _
  · exact pe_methE R ok (fun o m es apos pos => pe_methF R ok o m es apos pos) _ _ _ _ _
  · exact pe_stepE2 R ok _
end Pu

set_option Elab.async false
set_option linter.all false
set_option maxRecDepth 100000
/-! Pu21: a new instance. -/
namespace Pu
open PySem L2
/-- behind __init__: the instance, plain unless it is to change further -/
def madeD (keep : Bool) (i : Nat) (d : D) : M D := fun μ => match d, μ[i]? with
  | .non, some (.obj C fs) => if keep = true then .ok (.cell i) μ else .ok (.obj C fs) (μ.set i .dead)
  | _, _ => .stuck
def newO (C : Str) : M Nat := fun μ => .ok μ.length (μ ++ [.obj C []])
def makeE (r : Dn) (G : Ctx) (x : Str) (n : Nat) (F : List D → M D) (es : List Expr) (pos : Pos) (ρ : Sl) : M D :=
  if okName x = true ∧ noStar es = true ∧ glB G.sc x = true ∧ G.hot = false then (do
    let ds ← aD r G es ρ
    if ds.length = n then (do
      let i ← newO x
      let d ← F (.cell i :: ds)
      madeD (G.hint pos == 3) i d) else stuck) else stuck
section
variable {W : Wd} {Z : WX} {X : Cx} {G : Ctx} {r : Dn}
theorem made_out {m m2 : Mem} {i : Nat} {a : Addr} {C : Str} {keep : Bool} {d : D} {v : V} {E : Ex → Mem → Prop} {Q : VK} (g : Okm W m) (ha : m.as[i]? = some a) (hv : Den W m d v) (w : out W m E Q (madeD keep i d m.μ)) : v = .non ∧ Q (.ref a) m.H := by
  unfold madeD at w
  split at w
  · rename_i C fs e
    cases hv
    refine ⟨rfl, ?_⟩
    by_cases hk : keep = true
    · rw [if_pos hk] at w
      exact w m (Step.refl m) g rfl _ (.cell ha)
    · rw [if_neg hk] at w
      obtain ⟨dx, fv, h2, h3⟩ := g.ok i _ a e ha
      exact w (m.die i) step_die (good_die g) rfl _ (.obj h2 (die_live g ha) (h3.mono step_die))
  · exact (show False from w).elim
theorem pe_makeE (R : EnOk W r) (ok : EOk W X Z G) (x : Str) (n : Nat) (F : List D → M D) (hF : G.make x = some (n, F)) (p : Pos) (es : List Expr) (pos : Pos) : PE X (.Call (.Name x p) es [] pos) (TEof W Z (makeE r G x n F es pos)) := by
  by_cases h0 : okName x = true ∧ noStar es = true ∧ glB G.sc x = true ∧ G.hot = false
  · obtain ⟨h1, h2, h3, h4⟩ := id h0
    obtain ⟨hm, f, fd, ps, j, hj, M, FG, bs⟩ := ok.g.ob.make x n F hF
    rw [← ok.K] at M FG bs
    have room : Room (j + 1) X.A := (ok.room h4).mono hj
    -- what __init__ is asked
    have fin : ∀ {σ H Q}, TEof W Z (makeE r G x n F es pos) σ H Q → TAof W Z (aD r G es) σ H fun vs H1 => ∀ y dx, H1 y = none → H1 dx = none → dx ≠ y → spOf W (n + 1) F (.ref y :: vs) (upd (upd H1 dx (.own y)) y (.ins (W.ca x) dx [])) (fun v H2 => v = .non ∧ Q (.ref y) H2) (WE Z σ) := by
      rintro σ H Q h
      obtain ⟨ρ, m, e, g, rr, w⟩ := (te_if h).2
      refine ⟨ρ, m, e, g, rr, (wpR_bind w).mono (fun _ _ _ _ z => z) fun ds m1 s1 g1 w1 vs hvs y dx hy hdx hne => ?_⟩
      split at w1
      · rename_i hn
        have s2 : Step m1 (m1.put dx (.own y)) := step_put g1 hdx
        have g2 : Okm W (m1.put dx (.own y)) := good_put g1 hdx
        have hy2 : (m1.put dx (.own y)).H y = none := by
          show upd m1.H dx (.own y) y = none
          rw [upd_ne (Ne.symm hne)]
          exact hy
        let m3 : Mem := (m1.put dx (.own y)).grow y (.ins (W.ca x) dx []) (.obj x [])
        have s3 : Step (m1.put dx (.own y)) m3 := step_grow g2 hy2
        have g3 : Okm W m3 := good_grow g2 hy2 ⟨dx, [], upd_same, .nil⟩
        have hi : m3.as[m1.μ.length]? = some y := by
          show (m1.as ++ [y])[m1.μ.length]? = some y
          rw [← g1.len]
          simp
        have w2 := w1.behind (s2.trans s3)
        refine ⟨by rw [List.length_cons, hvs.lenEq, hn], .cell m1.μ.length :: ds, m3, rfl, g3, .cons (.cell hi) ((hvs.mono s2).mono s3), ?_⟩
        have w3 : wpR W m3 (EWish W Z σ) (fun d m' => ∀ v, Den W m' d v → Q v m'.H) ((F (.cell m1.μ.length :: ds) >>= fun d => madeD (G.hint pos == 3) m1.μ.length d) m3.μ) := w2
        exact (wpR_bind w3).mono (fun _ _ _ _ z => z) fun d m4 s4 g4 w4 v hv => made_out (m2 := m4) (C := x) g4 (s4.as hi) hv w4
      · exact (show False from w1).elim
    cases es with
    | nil =>
      refine ⟨fun pins s σ H Q I h => wpAny_Call_Name_kw (ld_glob I (gl_of ok h3) hm ?_ (okName_1 h1))⟩
      obtain ⟨ρ, m, e, g, rr, w⟩ := fin h
      subst e
      exact PySem.W.callWith_K0 I.kIn M.kp (run_makeG (us := []) M FG room ok.gd bs ok.tk I .nil (w m (Step.refl m) g rfl [] .nil))
    | cons e0 es =>
      obtain ⟨z1, z2⟩ := star_cons (env := X.env) h2
      refine ⟨fun pins s σ H Q I h => wpAny_Call_Name_kw (ld_glob I (gl_of ok h3) hm ?_ (okName_1 h1))⟩
      exact PySem.W.callWith_K (h₀ := X.base) I.ok.mod.kin M.kp (thn ((pa_D R ok h2).run pos pins s σ H _ I (fin h)) fun us s1 ⟨vs, H1, I1, rv, q⟩ => ⟨I1.kIn, run_makeG M FG room ok.gd bs ok.tk I1 rv q⟩) z1 (star_any z2)
  · exact PE.weak PE.any fun σ H Q h => h0 (te_if h).1
end
/-- x(e, ..), x a name of the def: an instance, a class -/
def asP : D → Option Str
  | .obj C _ => some C
  | _ => none
def callVD (r : Dn) (G : Ctx) (d : D) (es : List Expr) (pos : Pos) (ρ : Sl) : M D := match asP d with
  | some C => match G.dun C "__call__" with
    | some (n, F) => do
      let ds ← aD r G es ρ
      if ds.length = n then F (d :: ds) else stuck
    | none => stuck
  | none => match asC d with
    | some C => match G.make C with
      | some (n, F) => do
        let ds ← aD r G es ρ
        if ds.length = n then (do
          let i ← newO C
          let y ← F (.cell i :: ds)
          madeD (G.hint pos == 3) i y) else stuck
      | none => stuck
    | none => stuck
def callV (r : Dn) (G : Ctx) (x : Str) (p : Pos) (es : List Expr) (pos : Pos) (ρ : Sl) : M D :=
  if noStar es = true ∧ es ≠ [] ∧ G.hot = false then (do let d ← r.e G (.Name x p) ρ; callVD r G d es pos ρ) else stuck
section
variable {W : Wd} {Z : WX} {X : Cx} {G : Ctx} {r : Dn}
theorem pe_callV' (R : EnOk W r) (ok : EOk W X Z G) (x : Str) (p : Pos) (es : List Expr) (pos : Pos) : PE X (.Call (.Name x p) es [] pos) (TEof W Z (callV r G x p es pos)) := by
  by_cases h0 : noStar es = true ∧ es ≠ [] ∧ G.hot = false
  · obtain ⟨h2, h3, h4⟩ := id h0
    cases es with
    | nil => exact absurd rfl h3
    | cons e0 es =>
      obtain ⟨z1, z2⟩ := star_cons (env := X.env) h2
      refine PE.weak (pe_callV (R.e ok (.Name x p)) (pa_D R ok h2) rfl z1 (star_any z2) ok.gd ok.tk) fun σ H Q h => ?_
      obtain ⟨ρ, m, e, g, rr, w⟩ := (te_if h).2
      refine ⟨ρ, m, e, g, rr, (wpR_bind w).mono (fun _ _ _ _ z => z) fun d m1 s1 g1 w1 v hv => ?_⟩
      unfold callVD at w1
      cases q : asP d with
      | some C =>
        rw [q] at w1
        simp only at w1
        cases d with
        | obj C' fs =>
          cases q
          cases q2 : G.dun C "__call__" with
          | none => rw [q2] at w1; exact (show False from w1).elim
          | some nF =>
            obtain ⟨n, F⟩ := nF
            rw [q2] at w1
            simp only at w1
            cases hv with
            | @obj _ _ a dx fv ha hl hf =>
              obtain ⟨f, fd, ps, j, hj, c, hm, FG, bs, fi⟩ := ok.g.ob.dun C "__call__" n F q2
              rw [← ok.K] at c hm FG bs fi
              refine ⟨a, rfl, .inl ⟨W.ca C, f, j, fd, ps, _, ⟨hm.at_, hm.fn, fi⟩, FG, (ok.room h4).mono (by omega), bs, ρ, m1, rfl, g1, rr.mono s1, (wpR_bind w1).mono (fun _ _ _ _ z => z) fun ds m2 s2 g2 w2 vs hvs => ?_⟩⟩
              have hd2 : Den W m2 (.obj C fs) (.ref a) := (Den.obj ha hl hf).mono s2
              refine ⟨⟨dx, fv, s2.keep a _ ha hl⟩, ?_⟩
              split at w2
              · rename_i hn
                exact ⟨by rw [List.length_cons, hvs.lenEq, hn], .obj C fs :: ds, m2, rfl, g2, .cons hd2 hvs, w2⟩
              · exact (show False from w2).elim
        | _ => cases q
      | none =>
        rw [q] at w1
        simp only at w1
        cases q4 : asC d with
        | none => rw [q4] at w1; exact (show False from w1).elim
        | some C =>
          rw [q4] at w1
          simp only at w1
          have ed := asC_den (W := W) (m := m1) q4
          subst ed
          cases q2 : G.make C with
          | none => rw [q2] at w1; exact (show False from w1).elim
          | some nF =>
            obtain ⟨n, F⟩ := nF
            rw [q2] at w1
            simp only at w1
            obtain ⟨hm, f, fd, ps, j, hj, M, FG, bs⟩ := ok.g.ob.make C n F q2
            rw [← ok.K] at M FG bs
            refine ⟨W.ca C, den_adr hv, .inr ⟨f, j, fd, ps, _, M, FG, (ok.room h4).mono hj, bs, ρ, m1, rfl, g1, rr.mono s1, (wpR_bind w1).mono (fun _ _ _ _ z => z) fun ds m1 s1 g1 w1 vs hvs y dx hy hdx hne => ?_⟩⟩
            split at w1
            · rename_i hn
              have s2 : Step m1 (m1.put dx (.own y)) := step_put g1 hdx
              have g2 : Okm W (m1.put dx (.own y)) := good_put g1 hdx
              have hy2 : (m1.put dx (.own y)).H y = none := by
                show upd m1.H dx (.own y) y = none
                rw [upd_ne (Ne.symm hne)]
                exact hy
              let m3 : Mem := (m1.put dx (.own y)).grow y (.ins (W.ca C) dx []) (.obj C [])
              have s3 : Step (m1.put dx (.own y)) m3 := step_grow g2 hy2
              have g3 : Okm W m3 := good_grow g2 hy2 ⟨dx, [], upd_same, .nil⟩
              have hi : m3.as[m1.μ.length]? = some y := by
                show (m1.as ++ [y])[m1.μ.length]? = some y
                rw [← g1.len]
                simp
              have w2 := w1.behind (s2.trans s3)
              refine ⟨by rw [List.length_cons, hvs.lenEq, hn], .cell m1.μ.length :: ds, m3, rfl, g3, .cons (.cell hi) ((hvs.mono s2).mono s3), ?_⟩
              have w3 : wpR W m3 (EWish W Z σ) (fun d m' => ∀ v, Den W m' d v → Q v m'.H) ((F (.cell m1.μ.length :: ds) >>= fun d => madeD (G.hint pos == 3) m1.μ.length d) m3.μ) := w2
              exact (wpR_bind w3).mono (fun _ _ _ _ z => z) fun d m4 s4 g4 w4 v hv => made_out (m2 := m4) (C := C) g4 (s4.as hi) hv w4
            · exact (show False from w1).elim
  · exact PE.weak PE.any fun σ H Q h => h0 (te_if h).1
end
def stepE4 (r : Dn) (G : Ctx) (e : Expr) (ρ : Sl) : M D := match e with
  | .Call (.Name x p) es [] pos => if glB G.sc x = true then (match G.make x with
    | some (n, F) => makeE r G x n F es pos ρ
    | none => stepE3 r G (.Call (.Name x p) es [] pos) ρ) else callV r G x p es pos ρ
  | e => stepE3 r G e ρ
theorem pe_stepE4 {W : Wd} {Z : WX} {X : Cx} {G : Ctx} {r : Dn} (R : EnOk W r) (ok : EOk W X Z G) (e : Expr) : PE X e (TEof W Z (stepE4 r G e)) := by
  unfold stepE4
  split
  · rename_i x p es pos
    by_cases hg : glB G.sc x = true
    · simp only [hg, ↓reduceIte]
      cases q : G.make x with
      | none => exact pe_stepE3 R ok _
      | some nF => exact pe_makeE R ok x nF.1 nF.2 q p es pos
    · simp only [hg, ↓reduceIte]
      exact pe_callV' R ok x p es pos
  · exact pe_stepE3 R ok _
end Pu

set_option Elab.async false
set_option linter.all false
set_option maxRecDepth 100000
/-! Pu25: f-strings, displays with a star, d.get. -/
namespace Pu
open PySem L2
/-! ### f-strings -/
def fmtD (d : D) : M D := fun μ => match d with
  | .str y => if y.length ≤ sizeLine then .ok (.str y) μ else .stuck
  | .int i => if i.natAbs.log2 < 1920 then .ok (.str (toString i)) μ else .stuck
  | _ => .stuck
def fmtE (r : Dn) (G : Ctx) (a : Expr) (c : Int) (ρ : Sl) : M D := if c = -1 then (do let d ← r.e G a ρ; fmtD d) else stuck
def partsD (r : Dn) (G : Ctx) : List Expr → Sl → Str → M Str
  | [], _, acc => yes acc
  | e :: es, ρ, acc => do
    let d ← r.e G e ρ
    let y ← isStr d
    if (acc ++ y).length ≤ sizeLine then partsD r G es ρ (acc ++ y) else stuck
def jsE (r : Dn) (G : Ctx) (vs : List Expr) (ρ : Sl) : M D := match vs with
  | [] => stuck
  | [a] => r.e G a ρ
  | a :: b :: rest => do let y ← partsD r G (a :: b :: rest) ρ Str.empty; yes (.str y)
/-! ### displays with a star -/
def spliceD (d : D) : M (List D) := fun μ => match asS μ d with
  | some ds => .ok ds μ
  | none => .stuck
def aSD (r : Dn) (G : Ctx) : List Expr → Sl → M (List D)
  | [], _ => yes []
  | .Starred e _ :: es, ρ => do
    let d ← r.e G e ρ
    let ds ← spliceD d
    let rest ← aSD r G es ρ
    yes (ds ++ rest)
  | e :: es, ρ => do let d ← r.e G e ρ; let ds ← aSD r G es ρ; yes (d :: ds)
def starE (r : Dn) (G : Ctx) (es : List Expr) (pos : Pos) (ρ : Sl) : M D := do let ds ← aSD r G es ρ; newL (G.hint pos) ds
/-! ### d.get -/
def isDic (d : D) : M (List (Key × D)) := fun μ => match d with
  | .dic kvs => .ok kvs μ
  | _ => .stuck
def valD (kvs : List (Key × D)) (k : Key) : Option D := (kvs.find? fun kv => decide (kv.1 = k)).map (·.2)
def getK (kvs : List (Key × D)) (x z : D) : M D := fun μ => match keyOf x with
  | some k => .ok ((valD kvs k).getD z) μ
  | none => .stuck
def getE1 (r : Dn) (G : Ctx) (o a : Expr) (ok : Bool) (ρ : Sl) : M D :=
  if plainO o = true ∧ noStar [a] = true ∧ ok = true then (do let d ← r.e G o ρ; let kvs ← isDic d; let x ← r.e G a ρ; getK kvs x .non) else stuck
def getE2 (r : Dn) (G : Ctx) (o a b : Expr) (ok : Bool) (ρ : Sl) : M D :=
  if plainO o = true ∧ noStar [a, b] = true ∧ ok = true then (do let d ← r.e G o ρ; let kvs ← isDic d; let x ← r.e G a ρ; let z ← r.e G b ρ; getK kvs x z) else stuck
section
variable {W : Wd} {Z : WX} {X : Cx} {G : Ctx} {r : Dn}
theorem pe_fmtE (R : EnOk W r) (ok : EOk W X Z G) (a : Expr) (c : Int) (pos : Pos) : PE X (.FormattedValue a c none pos) (TEof W Z (fmtE r G a c)) := by
  by_cases hc : c = -1
  · subst hc
    refine PE.weak (pe_fmt (R.e ok a)) fun σ H Q h => ?_
    obtain ⟨ρ, m, e, g, rr, w⟩ := (te_if h).2
    refine ⟨ρ, m, e, g, rr, (wpR_bind w).mono (fun _ _ _ _ z => z) fun d m1 s1 g1 w1 v hv => ?_⟩
    unfold fmtD at w1
    cases d with
    | str y =>
      cases den_str hv
      simp only at w1
      by_cases hy : y.length ≤ sizeLine
      · rw [if_pos hy] at w1; exact .inl ⟨y, rfl, hy, w1 m1 (Step.refl m1) g1 rfl _ (.str y)⟩
      · rw [if_neg hy] at w1; exact w1.elim
    | int i =>
      cases den_int hv
      simp only at w1
      by_cases hy : i.natAbs.log2 < 1920
      · rw [if_pos hy] at w1; exact .inr ⟨i, rfl, hy, w1 m1 (Step.refl m1) g1 rfl _ (.str _)⟩
      · rw [if_neg hy] at w1; exact w1.elim
    | _ => exact (show False from w1).elim
  · exact PE.weak PE.any fun σ H Q h => hc (te_if h).1
theorem pj_D (R : EnOk W r) (ok : EOk W X Z G) : ∀ es : List Expr, PJ X es (es.map fun e => TEof W Z (r.e G e))
  | [] => .nil
  | e :: es => .cons (R.e ok e) (pj_D R ok es)
theorem parts_read {σ : St} {ρ : Sl} : ∀ (es : List Expr) (acc : Str) (P : Str → Hp → Prop) (m : Mem), EnvOk W m ρ σ → Okm W m → wpR W m (EWish W Z σ) (fun y m' => P y m'.H) (partsD r G es ρ acc m.μ) → tJs (es.map fun e => TEof W Z (r.e G e)) acc σ m.H P
  | [], acc, P, m, rr, g, w => w m (Step.refl m) g rfl
  | e :: es, acc, P, m, rr, g, w => by
    refine ⟨ρ, m, rfl, g, rr, (wpR_bind w).mono (fun _ _ _ _ z => z) fun d m1 s1 g1 w1 v hv => ?_⟩
    obtain ⟨y, rfl, w2⟩ := isStr_wp hv w1
    by_cases hy : (acc ++ y).length ≤ sizeLine
    · rw [if_pos hy] at w2
      exact ⟨y, rfl, hy, parts_read es (acc ++ y) P m1 (rr.mono s1) g1 w2⟩
    · rw [if_neg hy] at w2; exact (show False from w2).elim
theorem pe_jsE (R : EnOk W r) (ok : EOk W X Z G) (vs : List Expr) (pos : Pos) : PE X (.JoinedStr vs pos) (TEof W Z (jsE r G vs)) := by
  match vs with
  | [] => exact PE.weak PE.any fun σ H Q h => te_none (f := fun _ => stuck) (fun _ => rfl) h
  | [a] => exact pe_joined1 (R.e ok a)
  | a :: b :: rest =>
    refine PE.weak (pe_joined (pj_D R ok (a :: b :: rest))) fun σ H Q h => ?_
    obtain ⟨ρ, m, e, g, rr, w⟩ := h
    subst e
    exact parts_read (a :: b :: rest) Str.empty _ m rr g ((wpR_bind w).mono (fun _ _ _ _ z => z) fun y m1 s1 g1 w1 => w1 m1 (Step.refl m1) g1 rfl _ (.str y))
/-! ### displays -/
theorem pas_D (R : EnOk W r) (ok : EOk W X Z G) : ∀ es : List Expr, PA X es (TAof W Z (aSD r G es))
  | [] => PA.weak pa_nil fun σ H Q h => by obtain ⟨ρ, m, rfl, g, rr, w⟩ := h; exact w m (Step.refl m) g rfl _ .nil
  | e :: es => by
    have pl : noStar [e] = true → aSD r G (e :: es) = (fun ρ => do let d ← r.e G e ρ; let ds ← aSD r G es ρ; yes (d :: ds)) → PA X (e :: es) (TAof W Z (aSD r G (e :: es))) := fun hs he => by
      refine PA.weak (pa_cons (R.e ok e) (pas_D R ok es) (hs := (by cases e <;> first | rfl | cases hs))) fun σ H Q h => ?_
      rw [he] at h
      obtain ⟨ρ, m, e1, g, rr, w⟩ := h
      exact ⟨ρ, m, e1, g, rr, (wpR_bind w).mono (fun _ _ _ _ z => z) fun d m1 s1 g1 w1 v hv => ⟨ρ, m1, rfl, g1, rr.mono s1, (wpR_bind w1).mono (fun _ _ _ _ z => z) fun ds m2 s2 g2 w2 vs hvs => w2 m2 (Step.refl m2) g2 rfl _ (.cons (hv.mono s2) hvs)⟩⟩
    cases e with
    | Starred a p =>
      refine PA.weak (StX.pa_star (R.e ok a) (pas_D R ok es)) fun σ H Q h => ?_
      obtain ⟨ρ, m, e1, g, rr, w⟩ := h
      refine ⟨ρ, m, e1, g, rr, (wpR_bind w).mono (fun _ _ _ _ z => z) fun d m1 s1 g1 w1 v hv => ?_⟩
      have w1' := wpR_bind w1
      unfold spliceD at w1'
      cases q : asS m1.μ d with
      | none => rw [q] at w1'; exact w1'.elim
      | some ds =>
        rw [q] at w1'
        obtain ⟨a2, vs, rfl, h1, l1⟩ := asS_den g1 hv q
        refine ⟨a2, vs, rfl, by rw [ok.K]; exact h1.symm, ρ, m1, rfl, g1, rr.mono s1, (wpR_bind (w1' m1 (Step.refl m1) g1 rfl)).mono (fun _ _ _ _ z => z) fun rest m2 s2 g2 w2 ws hws => w2 m2 (Step.refl m2) g2 rfl _ ((l1.mono s2).append hws)⟩
    | _ => exact pl rfl rfl
theorem pe_starE (R : EnOk W r) (ok : EOk W X Z G) (es : List Expr) (pos : Pos) : PE X (.List es pos) (TEof W Z (starE r G es pos)) := by
  refine PE.weak (pe_lst (pas_D R ok es)) fun σ H Q h => ?_
  obtain ⟨ρ, m, e, g, rr, w⟩ := h
  refine ⟨ρ, m, e, g, rr, (wpR_bind w).mono (fun _ _ _ _ z => z) fun ds m1 s1 g1 w1 vs hvs => newL_out g1 hvs w1⟩
/-! ### d.get -/
theorem valD_den {m : Mem} {k : Key} : ∀ {kvs : List (Key × D)} {kv : List (Key × V)}, DenK W m kvs kv → (∀ d, valD kvs k = some d → ∃ v, valV kv k = some v ∧ Den W m d v) ∧ (valD kvs k = none → valV kv k = none)
  | _, _, .nil => ⟨(fun d e => nomatch e), fun _ => rfl⟩
  | _, _, .cons (k := k') (d := d) (v := v) h t => by
    obtain ⟨i1, i2⟩ := valD_den (k := k) t
    unfold valD valV at *
    by_cases e : k' = k
    · subst e
      simp only [List.find?_cons, decide_true, Option.map_some]
      exact ⟨(fun d' e => by cases e; exact ⟨v, rfl, h⟩), (fun e => nomatch e)⟩
    · simp only [List.find?_cons, e, decide_false]
      exact ⟨i1, i2⟩
theorem isDic_wp {α : Type} {m : Mem} {d : D} {v : V} {E : Ex → Mem → Prop} {P : α → Mem → Prop} {f : List (Key × D) → M α} (hv : Den W m d v) (w : wpR W m E P ((do let z ← isDic d; f z) m.μ)) : ∃ kvs, d = .dic kvs ∧ wpR W m E P (f kvs m.μ) := by
  cases d with
  | dic kvs => exact ⟨kvs, rfl, w⟩
  | _ => exact (show False from w).elim
theorem getK_out {m : Mem} {kvs : List (Key × D)} {kv : List (Key × V)} {a : Addr} {ob : Obj} {x z : D} {vx vz : V} {E : Ex → Mem → Prop} {Q : VK} (g : Okm W m) (ha : m.H a = some (.frz ob (.dK kv))) (l : DenK W m kvs kv) (hx : Den W m x vx) (hz : Den W m z vz) (w : out W m E Q (getK kvs x z m.μ)) : ∃ o, DGet m.H a vx o ∧ Q (o.getD vz) m.H := by
  unfold getK at w
  cases q : keyOf x with
  | none => rw [q] at w; exact (show False from w).elim
  | some k =>
    rw [q] at w
    simp only at w
    refine ⟨valV kv k, .inl ⟨kv, k, .inr ⟨ob, ha⟩, keyOf_den hx q, rfl⟩, ?_⟩
    obtain ⟨i1, i2⟩ := valD_den (k := k) l
    cases q2 : valD kvs k with
    | none =>
      rw [i2 q2]
      rw [q2] at w
      exact out.same w g hz
    | some d =>
      obtain ⟨v, e1, e2⟩ := i1 d q2
      rw [e1]
      rw [q2] at w
      exact out.same w g e2
theorem pe_getE1 (R : EnOk W r) (ok : EOk W X Z G) (o a : Expr) (ap pos : Pos) : PE X (.Call (.Attribute o "get" ap) [a] [] pos) (TEof W Z (getE1 r G o a (ap.endLine == pos.line))) := by
  by_cases h0 : plainO o = true ∧ noStar [a] = true ∧ (ap.endLine == pos.line) = true
  · obtain ⟨z1, z2⟩ := star_cons (env := X.env) h0.2.1
    refine PE.weak (pe_dget1 (by have := ok.un; omega) (R.e ok o) (R.e ok a) ⟨plainO_base h0.1 _ X.env, few1 h0.2.1, h0.2.2, by rw [z1]; rfl⟩) fun σ H Q h => ?_
    obtain ⟨ρ, m, e, g, rr, w⟩ := (te_if h).2
    refine ⟨ρ, m, e, g, rr, (wpR_bind w).mono (fun _ _ _ _ z => z) fun d m1 s1 g1 w1 v hv => ?_⟩
    obtain ⟨kvs, rfl, w2⟩ := isDic_wp hv w1
    cases hv with
    | @dic _ b kv' ob h1 n1 l1 =>
      refine ⟨b, rfl, .inl ⟨kv', .inr ⟨ob, h1⟩⟩, ρ, m1, rfl, g1, rr.mono s1, (wpR_bind w2).mono (fun _ _ _ _ z => z) fun x m2 s2 g2 w3 vx hx => ?_⟩
      exact getK_out g2 (s2.keep b _ h1 n1) (l1.mono s2) hx .non w3
  · exact PE.weak PE.any fun σ H Q h => h0 (te_if h).1
theorem few2 {pos : Pos} {env : Env} {e f : Expr} (h : noStar [e, f] = true) : ((backTo pos (starEach [e, f] env)).all (fun x => !x.1) && (backToKw pos (keywordEach [] env)).all (fun x => x.1.isSome) && decide (([e, f] : List Expr).length + ([] : List Keyword).length + (if ([] : List Keyword).isEmpty then 0 else 1) < 30)) = true := by
  obtain ⟨h1, h2⟩ := star_cons (env := env) h
  obtain ⟨h3, _⟩ := star_cons (env := env) h2
  rw [h1, h3]
  rfl
theorem pe_getE2 (R : EnOk W r) (ok : EOk W X Z G) (o a b : Expr) (ap pos : Pos) : PE X (.Call (.Attribute o "get" ap) [a, b] [] pos) (TEof W Z (getE2 r G o a b (ap.endLine == pos.line))) := by
  by_cases h0 : plainO o = true ∧ noStar [a, b] = true ∧ (ap.endLine == pos.line) = true
  · obtain ⟨z1, z2⟩ := star_cons (env := X.env) h0.2.1
    obtain ⟨z3, _⟩ := star_cons (env := X.env) z2
    refine PE.weak (pe_dget2 (by have := ok.un; omega) (R.e ok o) (R.e ok a) (R.e ok b) ⟨plainO_base h0.1 _ X.env, few2 h0.2.1, h0.2.2, by rw [z1, z3]; rfl⟩) fun σ H Q h => ?_
    obtain ⟨ρ, m, e, g, rr, w⟩ := (te_if h).2
    refine ⟨ρ, m, e, g, rr, (wpR_bind w).mono (fun _ _ _ _ z => z) fun d m1 s1 g1 w1 v hv => ?_⟩
    obtain ⟨kvs, rfl, w2⟩ := isDic_wp hv w1
    cases hv with
    | @dic _ b kv' ob h1 n1 l1 =>
      refine ⟨b, rfl, .inl ⟨kv', .inr ⟨ob, h1⟩⟩, ρ, m1, rfl, g1, rr.mono s1, (wpR_bind w2).mono (fun _ _ _ _ z => z) fun x m2 s2 g2 w3 vx hx => ?_⟩
      refine ⟨ρ, m2, rfl, g2, (rr.mono s1).mono s2, (wpR_bind w3).mono (fun _ _ _ _ z => z) fun y m3 s3 g3 w4 vy hy => ?_⟩
      exact getK_out g3 ((s2.trans s3).keep b _ h1 n1) (l1.mono (s2.trans s3)) (hx.mono s3) hy w4
  · exact PE.weak PE.any fun σ H Q h => h0 (te_if h).1
end
end Pu

set_option Elab.async false
set_option linter.all false
set_option maxRecDepth 100000
set_option maxHeartbeats 1000000
/-! Pu26: {k: v for .. for ..} in the machine: a clause's walk, told once for both clauses. -/
namespace Pu
open PySem PySem.Spec PyProof.Rows L2
/-! ### a clause's walk -/
/-- the tests of a clause -/
abbrev testsM (ifs : List Expr) (env : Env) : Sem Bool := forIn ifs true fun c r => if r = true then do let ok ← isTrue c env (eval c env); pure (ForInStep.yield ok) else pure (ForInStep.yield r)
/-- one turn: Body runs where the tests hold -/
def TurnW (M : Model) (A : Around) (tg : Expr) (ifs : List Expr) (env : Env) (it : Value) (Er : Value → Shared → Prop) (Body : Shared → (Shared → Prop) → Prop) (stop : Shared → Prop) (Post : Shared → Prop) (s : Shared) : Prop :=
  wpAny M A (pyNext it) (fun r s1 => match r with
    | none => stop s1
    | some v => wpAny M A (letOwnedTupleGo tg it v) (fun _ s2 => wpAny M A (assign tg env v) (fun _ s3 => wpAny M A (testsM ifs env) (fun b s4 => if b = true then Body s4 Post else Post s4) Er s3) Er s2) Er s1) Er s
/-- a loop of a comprehension as a reading -/
def Loop (J : It) (g : TG) (tt : TT) (bd : L2.St → Hp → (Hp → Prop) → Prop) (vs : List Nat) (σ : L2.St) (H0 : Hp) (Qe : Hp → Prop) : Prop :=
  ∃ W : Nat → Nat → Hp → Prop, (∃ m, W 0 m H0) ∧ ∀ i m H, W i m H → (J.stop i H ∧ Qe H) ∨ (J.go i H ∧ ∃ Nx : Hp → Prop, (∀ H', Nx H' → ∃ m', m' < m ∧ W (i + 1) m' H') ∧
    ∀ x H', J.yld i H x H' → g x (wipe σ vs) H' fun σ2 H2 => wipe σ2 vs = wipe σ vs ∧ tt σ2 H2 fun b H3 => if b = true then bd σ2 H3 Nx else Nx H3)
section
variable {B : Cx} {tg : Expr} {ifs : List Expr} {J : It} {fp : List Addr} {it : Addr} {tn : Nat → Heap → Prop} {g : TG} {tt : TT} {bd : L2.St → Hp → (Hp → Prop) → Prop} {vs : List Nat} {Body : Shared → (Shared → Prop) → Prop} {c : Code} {R : Result → Shared → Prop} {Er : Value → Shared → Prop}
theorem clause_run (hc : B.calm = true) (T : Turn B.prog B.w B.K tg J fp it tn) (pg : PG B tg g) (pt : PTs B ifs tt) (hx : ∀ e s, B.xe e s → Er e s) (mono : ∀ s P P', Body s P → (∀ s', P s' → P' s') → Body s P')
    (body : ∀ pins s σ H Nx, Inv B pins σ H s → bd σ H Nx → Body s fun s' => ∃ σ' H', Inv B pins σ' H' s' ∧ σ'.length = σ.length ∧ (∀ j, j ∉ vs → σ'[j]? = σ[j]?) ∧ Nx H')
    (lp : ∀ I : Nat → Shared → Prop, (∀ n s, I n s → TurnW (model B.prog B.w) B.A tg ifs B.env (.ref it) Er Body (R (.ok .next)) (fun s' => ∃ k, k < n ∧ I k s') s) → ∀ n s, I n s → codeAny (model B.prog B.w) B.A c R s)
    {pins : List (Addr × Obj)} {σ : L2.St} {H : Hp} {s : Shared} {Qe : Hp → Prop} (I0 : Inv B pins (wipe σ vs) H s) (st0 : tn 0 s.heap) (hf : ∀ b ∈ fp, FpOk B pins H b) (L : Loop J g tt bd vs σ H Qe)
    (fin : ∀ s' H', Inv B pins (wipe σ vs) H' s' → Qe H' → R (.ok .next) s') : codeAny (model B.prog B.w) B.A c R s := by
  obtain ⟨Wf, ⟨n0, w0⟩, turn⟩ := L
  have free : ∀ {H' : Hp}, (∀ b ∈ fp, H' b = none) → ∀ b ∈ fp, FpOk B pins H' b := fun hn b hb => ⟨hn b hb, (hf b hb).2⟩
  refine lp (fun n t => ∃ i Ht, Inv B pins (wipe σ vs) Ht t ∧ tn i t.heap ∧ (∀ b ∈ fp, Ht b = none) ∧ Wf i n Ht) ?_ n0 s ⟨0, H, I0, st0, fun b hb => (hf b hb).1, w0⟩
  rintro n t ⟨i, Ht, It, stt, nt, wt⟩
  rcases turn i n Ht wt with ⟨stop, qe⟩ | ⟨go, Nx, hNx, step⟩
  · refine wpAny_mono (T.done B rfl rfl rfl hc i pins t _ Ht (fun _ _ => False) It (free nt) stt stop) (fun r t1 hr => ?_) fun _ _ z => z.elim
    obtain ⟨rfl, It1⟩ := hr
    exact fin t1 Ht It1 qe
  · refine wpAny_mono (T.item B rfl rfl rfl hc i pins t _ Ht (fun _ _ => False) It (free nt) stt go) (fun r t1 hr => ?_) fun _ _ z => z.elim
    obtain ⟨u, rfl, hr⟩ := hr
    refine wpAny_mono hr (fun _ t2 h2 => ?_) fun _ _ z => z.elim
    obtain ⟨x, H2, I2, rx, yd, st2, n2⟩ := h2
    -- the iterator's own objects are held while the turn runs
    have P2 := I2.pinned (free n2) (T.obj _ _ st2)
    -- a turn's end
    have close : ∀ {t' : Shared} {σ' : L2.St} {H' : Hp}, Inv B (pins ++ pinsAt fp t2.heap) σ' H' t' → σ'.length = (wipe σ vs).length → (∀ j, j ∉ vs → σ'[j]? = (wipe σ vs)[j]?) → Nx H' → ∃ k, k < n ∧ ∃ i Ht, Inv B pins (wipe σ vs) Ht t' ∧ tn i t'.heap ∧ (∀ b ∈ fp, Ht b = none) ∧ Wf i k Ht := by
      intro t' σ' H' I' hl hk nx
      obtain ⟨k, hk2, w'⟩ := hNx H' nx
      have held : ∀ b ∈ fp, ∀ o, t2.heap.get? b = some o → t'.heap.get? b = some o ∧ H' b = none := fun b hb o e => by
        have z := I'.pin (b, o) (List.mem_append_right _ (List.mem_append_right _ (mem_pinsAt hb e)))
        exact ⟨z.1, z.2.1⟩
      refine ⟨k, hk2, i + 1, H', I'.unpinned.weak hl.symm (fun j v e => ?_), T.keep _ _ _ st2 fun b hb o e => (held b hb o e).1, fun b hb => ?_, w'⟩
      · obtain ⟨e1, e2⟩ := wipe_some e
        rw [hk j e2]
        exact e
      · obtain ⟨o, e, _⟩ := T.obj _ _ st2 b hb
        exact (held b hb o e).2
    refine wpAny_mono (pg.run _ t2 _ H2 x u _ P2 rx (step x H2 yd)) (fun _ t3 h3 => ?_) hx
    obtain ⟨σ3, H3, I3, hw, q3⟩ := h3
    have l3 : σ3.length = (wipe σ vs).length := by rw [← hw, wipe_length]
    have k3 : ∀ j, j ∉ vs → σ3[j]? = (wipe σ vs)[j]? := fun j hj => by rw [← hw, wipe_out hj]
    refine wpAny_mono (pt.run _ t3 σ3 H3 _ I3 q3) (fun b t4 h4 => ?_) hx
    obtain ⟨H4, I4, q4⟩ := h4
    cases b with
    | false =>
      simp only [Bool.false_eq_true, if_false] at q4 ⊢
      exact close I4 l3 k3 q4
    | true =>
      simp only [if_true] at q4 ⊢
      refine mono _ _ _ (body _ t4 σ3 H4 Nx I4 q4) fun t5 h5 => ?_
      obtain ⟨σ5, H5, I5, l5, k5, nx⟩ := h5
      exact close I5 (l5.trans l3) (fun j hj => (k5 j hj).trans (k3 j hj)) nx
end
/-! ### the two loops of {k: v for .. for ..} -/
abbrev dc2 (kx vx t0 i0 t1 i1 : Expr) (f0 f1 : List Expr) (sc : Scope) (pos : Pos) : Expr := .DictComp kx vx [⟨t0, i0, f0, 0⟩, ⟨t1, i1, f1, 0⟩] sc pos
section
variable {prog : Program} {w : World} {A : Around} {R : Result → Shared → Prop} {kx vx t0 i0 t1 i1 : Expr} {f0 f1 : List Expr} {sc : Scope} {pos : Pos} {it : Value} {D : Addr} {env : Env}
theorem turn_0 : compTurn (dc2 kx vx t0 i0 t1 i1 f0 f1 sc pos) 0 it (.ref D) env = (do
    standAt i0.pos
    match ← pyNext it with
    | none => pure (.done .next)
    | some v =>
      letOwnedTupleGo t0 it v
      assign t0 env v
      let b ← testsM f0 env
      if b then
        let x ← eval i1 env
        standAt i1.pos
        let x ← foldedSetIterable i1 env x
        let _ ← runOwn (.compStart (dc2 kx vx t0 i0 t1 i1 f0 f1 sc pos) 1 (← holding [x] (pyIter x)) (.ref D) env) env
      again (.compLoop (dc2 kx vx t0 i0 t1 i1 f0 f1 sc pos) 0 it (.ref D) env)) := by rfl
theorem turn_1 : compTurn (dc2 kx vx t0 i0 t1 i1 f0 f1 sc pos) 1 it (.ref D) env = (do
    standAt i1.pos
    match ← pyNext it with
    | none => pure (.done .next)
    | some v =>
      letOwnedTupleGo t1 it v
      assign t1 env v
      let b ← testsM f1 env
      if b then
        (do
          let kv ← eval kx env
          let vv ← holding [kv] (eval vx env)
          standAt { kx.pos with endLine := vx.pos.endLine, endCol := vx.pos.endCol }
          holding [kv, vv] (dictSet D kv vv))
      again (.compLoop (dc2 kx vx t0 i0 t1 i1 f0 f1 sc pos) 1 it (.ref D) env)) := by rfl
abbrev Noted (M : Model) (A : Around) (env : Env) (R : Result → Shared → Prop) : Value → Shared → Prop := notedBy M A env fun e s' => R (.error e) s'
/-- the first clause's body: the second clause's walk -/
def Body0 (M : Model) (A : Around) (i1 : Expr) (E : Expr) (D : Addr) (env : Env) (Er : Value → Shared → Prop) (s : Shared) (Post : Shared → Prop) : Prop :=
  wpAny M A (eval i1 env) (fun x s1 => wpAny M A (pyIter x) (fun t s2 => codeAny M A (.compStart E 1 t (.ref D) env) (fun r s3 => match r with | .ok _ => Post s3 | .error _ => False) s2) Er s1) Er s
/-- the second clause's body: a pair is put in -/
def Body1 (M : Model) (A : Around) (kx vx : Expr) (D : Addr) (env : Env) (Er : Value → Shared → Prop) (s : Shared) (Post : Shared → Prop) : Prop :=
  wpAny M A (eval kx env) (fun kv s1 => wpAny M A (eval vx env) (fun vv s2 => wpAny M A (dictSet D kv vv) (fun _ s3 => Post s3) Er s2) Er s1) Er s
theorem lp_0 (hs : ∀ x, foldedSetIterable i1 env x = pure x) (I : Nat → Shared → Prop)
    (turn : ∀ n s, I n s → TurnW (model prog w) A t0 f0 env it (Noted (model prog w) A env R) (Body0 (model prog w) A i1 (dc2 kx vx t0 i0 t1 i1 f0 f1 sc pos) D env (Noted (model prog w) A env R)) (R (.ok .next)) (fun s' => ∃ k, k < n ∧ I k s') s) (n : Nat) (s : Shared) (h : I n s) :
    codeAny (model prog w) A (.compLoop (dc2 kx vx t0 i0 t1 i1 f0 f1 sc pos) 0 it (.ref D) env) R s := by
  refine codeAny_loop rfl I (fun n s hI => ?_) n h
  show wpAny _ A ((compTurn (dc2 kx vx t0 i0 t1 i1 f0 f1 sc pos) 0 it (.ref D) env).onRaise _) _ _ s
  refine wpAny_noted ?_
  rw [turn_0]
  refine wpAny_bind (wpAny_standAt (wpAny_bind (thn (turn n s hI) fun r s1 h1 => ?_)))
  cases r with
  | none => exact wpAny_pure h1
  | some v =>
    refine wpAny_bind (thn h1 fun _ s2 h2 => wpAny_bind (thn h2 fun _ s3 h3 => wpAny_bind (thn h3 fun b s4 h4 => ?_)))
    cases b with
    | false => exact wpAny_pure ⟨rfl, h4⟩
    | true =>
      have h4 : Body0 (model prog w) A i1 (dc2 kx vx t0 i0 t1 i1 f0 f1 sc pos) D env (Noted (model prog w) A env R) s4 (fun s' => ∃ k, k < n ∧ I k s') := h4
      refine wpAny_bind (thn h4 fun x s5 h5 => wpAny_bind (wpAny_standAt (wpAny_bind (wpAny_of_eq (hs x) (wpAny_bind (wpAny_holding (thn h5 fun t s6 h6 => wpAny_bind (wpAny_runOwn ?_))))))))
      rw [Around.mark_none]
      refine codeAny_mono h6 fun r s7 h7 => ?_
      cases r with
      | ok f => first | exact wpAny_pure ⟨rfl, h7⟩ | exact wpAny_bind (wpAny_pure (wpAny_pure ⟨rfl, h7⟩))
      | error e => exact h7.elim
theorem lp_1 (I : Nat → Shared → Prop)
    (turn : ∀ n s, I n s → TurnW (model prog w) A t1 f1 env it (Noted (model prog w) A env R) (Body1 (model prog w) A kx vx D env (Noted (model prog w) A env R)) (R (.ok .next)) (fun s' => ∃ k, k < n ∧ I k s') s) (n : Nat) (s : Shared) (h : I n s) :
    codeAny (model prog w) A (.compLoop (dc2 kx vx t0 i0 t1 i1 f0 f1 sc pos) 1 it (.ref D) env) R s := by
  refine codeAny_loop rfl I (fun n s hI => ?_) n h
  show wpAny _ A ((compTurn (dc2 kx vx t0 i0 t1 i1 f0 f1 sc pos) 1 it (.ref D) env).onRaise _) _ _ s
  refine wpAny_noted ?_
  rw [turn_1]
  refine wpAny_bind (wpAny_standAt (wpAny_bind (thn (turn n s hI) fun r s1 h1 => ?_)))
  cases r with
  | none => exact wpAny_pure h1
  | some v =>
    refine wpAny_bind (thn h1 fun _ s2 h2 => wpAny_bind (thn h2 fun _ s3 h3 => wpAny_bind (thn h3 fun b s4 h4 => ?_)))
    cases b with
    | false => exact wpAny_pure ⟨rfl, h4⟩
    | true =>
      have h4 : Body1 (model prog w) A kx vx D env (Noted (model prog w) A env R) s4 (fun s' => ∃ k, k < n ∧ I k s') := h4
      exact wpAny_bind (wpAny_bind (thn h4 fun kv s5 h5 => wpAny_bind (wpAny_holding (thn h5 fun vv s6 h6 => wpAny_bind (wpAny_standAt (wpAny_holding (thn h6 fun _ s7 h7 => wpAny_pure ⟨rfl, h7⟩)))))))
theorem start_1 {s : Shared} (h0 : codeAny (model prog w) A (.compLoop (dc2 kx vx t0 i0 t1 i1 f0 f1 sc pos) 1 it (.ref D) env) R s)
    (h : wpAny (model prog w) A (pyIter it) (fun it' s' => codeAny (model prog w) A (.compLoop (dc2 kx vx t0 i0 t1 i1 f0 f1 sc pos) 1 it' (.ref D) env) R s') (Noted (model prog w) A env R) s) :
    codeAny (model prog w) A (.compStart (dc2 kx vx t0 i0 t1 i1 f0 f1 sc pos) 1 it (.ref D) env) R s := by
  refine codeAny_of_tree ?_
  show wpAny _ _ ((compStart (dc2 kx vx t0 i0 t1 i1 f0 f1 sc pos) 1 it (.ref D) env).onRaise _) _ _ s
  refine wpAny_notedAt ?_
  unfold compStart
  show wpAny _ _ (ask >>= _) _ _ s
  refine wpAny_bind (wpAny_askSetting (wpAny_ite ?_))
  split
  · first | exact wpAny_bind (wpAny_pure (wpAny_pure ⟨rfl, h0⟩)) | exact wpAny_pure ⟨rfl, h0⟩
  · first
      | exact wpAny_bind (wpAny_rule (wpAny_bind (wpAny_standAt (wpAny_bind (thn h fun it' s' h' => wpAny_pure ⟨rfl, h'⟩)))))
      | (refine wpAny_bind (wpAny_rule ?_); show wpAny _ _ (standAt i1.pos >>= _) _ _ s; exact wpAny_bind (wpAny_standAt (wpAny_bind (thn h fun it' s' h' => wpAny_pure ⟨rfl, h'⟩))))
end
/-! ### the whole -/
def leafK (D : Addr) (tk tv : TE) : L2.St → Hp → (Hp → Prop) → Prop := fun σ H Nx => tk σ H fun y H1 => tv σ H1 fun z H2 => ∃ kvs k, y = kV k ∧ H2 D = some (.dK kvs) ∧ kvs.length < sizeLine ∧ Nx (upd H2 D (.dK (putK kvs k z)))
def tDc2 (wi : TI) (g : TG) (tt : TT) (wi1 : TI) (g1 : TG) (tt1 : TT) (tk tv : TE) (vs vs1 : List Nat) : TE := fun σ H Q => wi σ H fun J H1 => ∀ D, H1 D = none →
  Loop J g tt (fun σ2 H2 Nx => wi1 σ2 H2 fun J1 H3 => Loop J1 g1 tt1 (leafK D tk tv) vs1 σ2 H3 Nx) vs σ (upd H1 D (.dK [])) (Q (.ref D))
abbrev InBlk (X : Cx) (sc : Scope) (P : Cx → Prop) : Prop := ∀ (s : Shared) (H : Hp) (C : Addr) (cl : List (Str × Addr)) (fp : List Addr), P (X.blk s H sc (compEnvC sc cl C X.env) fp)
theorem pe_dc2 {X : Cx} {kx vx t0 i0 t1 i1 : Expr} {f0 f1 : List Expr} {sc : Scope} {own : List (Str × Nat)} {vs1 : List Nat} {pos : Pos} {wi wi1 : TI} {g g1 : TG} {tt tt1 : TT} {tk tv : TE} (hc : X.calm = true) (hN : X.N.Nodup) (hi : PI X t0 i0 wi) (ok : BlkOk X.N X.env.scope sc own) (hv : ∀ i ∈ vs1, i ∈ own.map (·.2))
    (hg : InBlk X sc fun B => PG B t0 g) (ht : InBlk X sc fun B => PTs B f0 tt) (hi1 : InBlk X sc fun B => PI B t1 i1 wi1) (hg1 : InBlk X sc fun B => PG B t1 g1) (ht1 : InBlk X sc fun B => PTs B f1 tt1) (hk : InBlk X sc fun B => PE B kx tk) (he : InBlk X sc fun B => PE B vx tv)
    (hs : ∀ x, foldedSetIterable i0 X.env x = pure x) (hs1 : ∀ env x, foldedSetIterable i1 env x = pure x) : PE X (dc2 kx vx t0 i0 t1 i1 f0 f1 sc pos) (tDc2 wi g tt wi1 g1 tt1 tk tv (own.map (·.2)) vs1) := by
  refine ⟨fun pins s σ H Q I h => ?_⟩
  rw [arm_eval_DictComp]
  have cap : ∀ y ∈ sc.names, y.2 = .free → ∃ c, X.env.cells.lookup y.1 = some c := fun y hy e => (ok.free y hy e).elim (fun z => I.ok.has _ (.inl z)) fun z => I.ok.has _ (.inr z)
  refine wpAny_comprehension_free rfl hs (closure_ok cap) ok.kind (fun y hy e => by rw [ok.uniq y hy, e]) (thn (hi.run pins s σ H _ I h) fun v sa ha => thn ha fun itv sb hb => ?_)
  obtain ⟨it, fp, tn, J, Hb, rfl, Ib, T, stb, fb, q⟩ := hb
  refine wpAny_newObj_type (newEnv_comp ?_)
  -- the new dict
  have nD : Hb sb.heap.objs.size = none := Ib.hok.fresh (Nat.le_refl _)
  have L := q _ nD
  have Ic : Inv X pins σ (upd Hb sb.heap.objs.size (.dK [])) { sb with heap := sb.heap.push { cls := .type "dict", data := .dict #[] } } :=
    Ib.laid (t' := sb.toks) (fun b o e => Heap.get?_push_of_some _ e) (Nat.le_refl _) (dk_empty sb.heap Ib.big)
  have below : ∀ b ∈ fp, b < sb.heap.objs.size := fun b hb => let ⟨o, e, _⟩ := T.obj _ _ stb b hb; Heap.lt_size e
  have fc : ∀ b ∈ fp, FpOk X pins (upd Hb sb.heap.objs.size (.dK [])) b ∧ b < (sb.heap.push { cls := .type "dict", data := .dict #[] }).objs.size := fun b hb =>
    ⟨⟨by rw [upd_ne (Nat.ne_of_lt (below b hb))]; exact (fb b hb).1, (fb b hb).2⟩, by rw [Heap.size_push]; exact Nat.lt_succ_of_lt (below b hb)⟩
  have stc : tn 0 (sb.heap.push { cls := .type "dict", data := .dict #[] }) := T.keep _ _ _ stb fun b _ o e => Heap.get?_push_of_some _ e
  generalize hDe : sb.heap.objs.size = D at *
  generalize hsc : ({ sb with heap := sb.heap.push { cls := .type "dict", data := .dict #[] } } : Shared) = c at *
  have hch : c.heap = sb.heap.push { cls := .type "dict", data := .dict #[] } := by rw [← hsc]
  rw [← hch] at fc stc
  have Id := block_start Ic ok hN fc
  show codeAny _ _ (.compStart (dc2 kx vx t0 i0 t1 i1 f0 f1 sc pos) 0 (.ref it) (.ref D) (compEnvC sc (cellsFrom (c.heap.objs.size + 1) sc.names (cloFrom X.env.cells sc.names [])) c.heap.objs.size X.env)) (compPost (model X.prog X.w) X.A X.xe none (EP X pins σ Q) (.ref D) c.heap.objs.size) { c with heap := pushCells (c.heap.push { cls := .type "dict", data := .dict #[] }) sc.names }
  have bg := hg c (upd Hb D (.dK [])) c.heap.objs.size (cellsFrom (c.heap.objs.size + 1) sc.names (cloFrom X.env.cells sc.names [])) fp
  have bt := ht c (upd Hb D (.dK [])) c.heap.objs.size (cellsFrom (c.heap.objs.size + 1) sc.names (cloFrom X.env.cells sc.names [])) fp
  have bi1 := hi1 c (upd Hb D (.dK [])) c.heap.objs.size (cellsFrom (c.heap.objs.size + 1) sc.names (cloFrom X.env.cells sc.names [])) fp
  have bg1 := hg1 c (upd Hb D (.dK [])) c.heap.objs.size (cellsFrom (c.heap.objs.size + 1) sc.names (cloFrom X.env.cells sc.names [])) fp
  have bt1 := ht1 c (upd Hb D (.dK [])) c.heap.objs.size (cellsFrom (c.heap.objs.size + 1) sc.names (cloFrom X.env.cells sc.names [])) fp
  have bk := hk c (upd Hb D (.dK [])) c.heap.objs.size (cellsFrom (c.heap.objs.size + 1) sc.names (cloFrom X.env.cells sc.names [])) fp
  have be := he c (upd Hb D (.dK [])) c.heap.objs.size (cellsFrom (c.heap.objs.size + 1) sc.names (cloFrom X.env.cells sc.names [])) fp
  have eL : (compEnvC sc (cellsFrom (c.heap.objs.size + 1) sc.names (cloFrom X.env.cells sc.names [])) c.heap.objs.size X.env).locals = c.heap.objs.size := rfl
  generalize compEnvC sc (cellsFrom (c.heap.objs.size + 1) sc.names (cloFrom X.env.cells sc.names [])) c.heap.objs.size X.env = ce at *
  have std : tn 0 ({ c with heap := pushCells (c.heap.push { cls := .type "dict", data := .dict #[] }) sc.names } : Shared).heap := T.keep _ _ _ stc fun b _ o e => pushCells_keeps _ _ _ _ (Heap.get?_push_of_some _ e)
  generalize ({ c with heap := pushCells (c.heap.push { cls := .type "dict", data := .dict #[] }) sc.names } : Shared) = d at *
  have fB : ∀ b ∈ fp, FpOk (X.blk c (upd Hb D (.dK [])) sc ce fp) [] (upd Hb D (.dK [])) b := fun b hb =>
    ⟨(fc b hb).1.1, (Id.ok.exf b hb).1, Id.ok.exfs b hb, .inl hb, (fun x k e => (Id.ok.exf b hb).2 x k e), fun p hp => absurd (show p ∈ ([] : List (Addr × Obj)) ++ [] from hp) (by simp)⟩
  -- the second clause
  have inner : ∀ {Er : Value → Shared → Prop} (pl : List (Addr × Obj)) (t : Shared) (τ : L2.St) (Ht : Hp) (Nx : Hp → Prop), L2.Inv (X.blk c (upd Hb D (.dK [])) sc ce fp) pl τ Ht t → (wi1 τ Ht fun J1 H3 => Loop J1 g1 tt1 (leafK D tk tv) vs1 τ H3 Nx) →
      Body0 (model X.prog X.w) X.A i1 (dc2 kx vx t0 i0 t1 i1 f0 f1 sc pos) D ce Er t fun t' => ∃ τ' H', L2.Inv (X.blk c (upd Hb D (.dK [])) sc ce fp) pl τ' H' t' ∧ τ'.length = τ.length ∧ (∀ j, j ∉ own.map (·.2) → τ'[j]? = τ[j]?) ∧ Nx H' := by
    intro Er pl t τ Ht Nx It qt
    refine wpAny_mono (bi1.run pl t τ Ht _ It qt) (fun v1 t1' h1 => wpAny_mono h1 (fun iv t2 h2 => ?_) fun _ _ z => False.elim z) fun _ _ z => False.elim z
    obtain ⟨it1, fp1, tn1, J1, H2, rfl, I2, T1, st2, f2, L1⟩ := h2
    have run1 := clause_run (B := X.blk c (upd Hb D (.dK [])) sc ce fp) (vs := vs1) (Body := Body1 (model X.prog X.w) X.A kx vx D ce (Noted (model X.prog X.w) X.A ce fun r s3 => match r with | .ok _ => ∃ τ' H', L2.Inv (X.blk c (upd Hb D (.dK [])) sc ce fp) pl τ' H' s3 ∧ τ'.length = τ.length ∧ (∀ j, j ∉ own.map (·.2) → τ'[j]? = τ[j]?) ∧ Nx H' | .error _ => False))
      (c := .compLoop (dc2 kx vx t0 i0 t1 i1 f0 f1 sc pos) 1 (.ref it1) (.ref D) ce) (R := fun r s3 => match r with | .ok _ => ∃ τ' H', L2.Inv (X.blk c (upd Hb D (.dK [])) sc ce fp) pl τ' H' s3 ∧ τ'.length = τ.length ∧ (∀ j, j ∉ own.map (·.2) → τ'[j]? = τ[j]?) ∧ Nx H' | .error _ => False)
      hc T1 bg1 bt1 (fun _ _ z => False.elim z) (fun t P P' hb hp => wpAny_mono hb (fun _ _ z => wpAny_mono z (fun _ _ z => wpAny_mono z (fun _ _ z => hp _ z) fun _ _ z => z) fun _ _ z => z) fun _ _ z => z)
      (fun pl2 t3 τ3 H3 Nx3 I3 q3 => wpAny_mono (bk.run pl2 t3 τ3 H3 _ I3 q3) (fun kv t4 h4 => by
        obtain ⟨y, H4, I4, r4, q4⟩ := h4
        refine wpAny_mono (be.run pl2 t4 τ3 H4 _ I4 q4) (fun vv t5 h5 => ?_) fun _ _ z => False.elim z
        obtain ⟨z, H5, I5, r5, kvs, k, rfl, hD5, hz5, nx⟩ := h5
        exact d_dictSet (X := X.blk c (upd Hb D (.dK [])) sc ce fp) I5 hD5 hz5 r4 r5 fun t6 I6 => ⟨τ3, _, I6, rfl, fun _ _ => rfl, nx⟩) fun _ _ z => False.elim z)
      (fun Iv tr n t hI => lp_1 Iv tr n t hI) (I2.weak (wipe_length _ _) fun j v e => (wipe_some e).1) st2 f2 L1
      (fun t3 H3 I3 nx => ⟨wipe τ vs1, H3, I3, wipe_length _ _, fun j hj => wipe_out fun z => hj (hv j z), nx⟩)
    exact start_1 run1 (T1.self X.A 0 _ _ _ st2 run1)
  have loop := clause_run (B := X.blk c (upd Hb D (.dK [])) sc ce fp) (Body := Body0 (model X.prog X.w) X.A i1 (dc2 kx vx t0 i0 t1 i1 f0 f1 sc pos) D ce (Noted (model X.prog X.w) X.A ce (compPost (model X.prog X.w) X.A X.xe none (EP X pins σ Q) (.ref D) c.heap.objs.size)))
    (c := .compLoop (dc2 kx vx t0 i0 t1 i1 f0 f1 sc pos) 0 (.ref it) (.ref D) ce) (R := compPost (model X.prog X.w) X.A X.xe none (EP X pins σ Q) (.ref D) c.heap.objs.size)
    hc T bg bt (fun _ _ z => False.elim z) (fun t P P' hb hp => wpAny_mono hb (fun _ _ z => wpAny_mono z (fun _ _ z => codeAny_mono z fun r _ y => by cases r with | ok f => exact hp _ y | error e => exact y) fun _ _ z => z) fun _ _ z => z)
    (fun pl t τ Ht Nx It qt => inner pl t τ Ht Nx It qt) (fun Iv tr n t hI => lp_0 (hs1 ce) Iv tr n t hI) Id std fB L (fun t Ht It qe => by
      have J2 : L2.Inv X pins σ Ht t := Ic.call' (ch := fp) It.os It.base It.hok It.bare fun b hb => ⟨(fc b hb).1.2.2.2.1, (fc b hb).1.2.1, (fc b hb).1.2.2.2.2.1, (fc b hb).1.2.2.2.2.2⟩
      have nC : Ht c.heap.objs.size = none := by rw [← eL]; exact It.free
      obtain ⟨mm, hn, _⟩ := It.loc
      have hn : t.heap.Ns ce.locals mm := hn
      rw [eL] at hn
      obtain ⟨a0, a1, a2, a3, a4, a5⟩ := Ic.fpOk (Nat.le_refl _) nC
      exact ⟨mm, hn, fun h2 same => ⟨.ref D, Ht, J2.turned (t' := t.toks) (fun b o hb e => (same.2 b hb).trans e) a0 a1 a3 a4 a5, rfl, qe⟩⟩)
  exact codeAny_compStart_dict loop (T.self X.A 0 _ _ _ std loop)
end Pu

set_option Elab.async false
set_option linter.all false
set_option maxRecDepth 100000
/-! Pu27: comprehensions of one or two clauses, lists and dicts, by plain functions. -/
namespace Pu
open PySem L2
/-! ### the plain part -/
/-- the turns of a clause, from a start -/
def clauseD {α : Type} (r : Dn) (G : Ctx) (tg : Expr) (ifs : List Expr) (body : Sl → α → M α) (ρ : Sl) : List D → α → M α
  | [], a => yes a
  | d :: ds, a => match gD G tg d ρ with
    | some ρ' => do
      let b ← testsD r G ifs ρ'
      let a' ← (if b then body ρ' a else yes a)
      clauseD r G tg ifs body ρ ds a'
    | none => stuck
def innerD {α : Type} (r : Dn) (G : Ctx) (tg iter : Expr) (ifs : List Expr) (vs : List Nat) (body : Sl → α → M α) (ρ : Sl) (a : α) : M α := do
  let ds ← iD r G tg iter ρ
  clauseD r G tg ifs body (wipeL ρ vs) ds a
def leafL (r : Dn) (G : Ctx) (elt : Expr) (ρ : Sl) (acc : List D) : M (List D) := do
  let y ← r.e G elt ρ
  if acc.length < sizeLine then yes (acc ++ [y]) else stuck
def leafD (r : Dn) (G : Ctx) (kx vx : Expr) (ρ : Sl) (acc : List (Key × D)) : M (List (Key × D)) := do
  let x ← r.e G kx ρ
  let y ← r.e G vx ρ
  fun μ => match keyOf x with
    | some k => if acc.length < sizeLine then .ok (putD acc k y) μ else .stuck
    | none => .stuck
def comp2Ok (G : Ctx) (c0 c1 : Comprehension) (sc : Scope) : Prop := G.hot = false ∧ blkC G.N G.sc sc (ownOf G.N sc) = true ∧ (∀ i ∈ gslots G c0.target, i ∈ (ownOf G.N sc).map (·.2)) ∧ (∀ i ∈ gslots G c1.target, i ∈ (ownOf G.N sc).map (·.2)) ∧ notSet c0.iter = true ∧ notSet c1.iter = true ∧ c0.is_async = 0 ∧ c1.is_async = 0
instance (G : Ctx) (c0 c1 : Comprehension) (sc : Scope) : Decidable (comp2Ok G c0 c1 sc) := by unfold comp2Ok; infer_instance
def lc2D (r : Dn) (G : Ctx) (elt : Expr) (c0 c1 : Comprehension) (sc : Scope) (pos : Pos) (ρ : Sl) : M D := if comp2Ok G c0 c1 sc then (do
    let ds ← iD r G c0.target c0.iter ρ
    let ys ← noX (clauseD r (blkG G sc) c0.target c0.ifs (innerD r (blkG G sc) c1.target c1.iter c1.ifs (gslots G c1.target) (leafL r (blkG G sc) elt)) (wipeL ρ ((ownOf G.N sc).map (·.2))) ds [])
    fixL (G.hint pos) ys) else stuck
def dc2D (r : Dn) (G : Ctx) (kx vx : Expr) (c0 c1 : Comprehension) (sc : Scope) (ρ : Sl) : M D := if comp2Ok G c0 c1 sc then (do
    let ds ← iD r G c0.target c0.iter ρ
    let ys ← noX (clauseD r (blkG G sc) c0.target c0.ifs (innerD r (blkG G sc) c1.target c1.iter c1.ifs (gslots G c1.target) (leafD r (blkG G sc) kx vx)) (wipeL ρ ((ownOf G.N sc).map (·.2))) ds [])
    yes (.dic ys)) else stuck
def comp1Ok (G : Ctx) (c0 : Comprehension) (sc : Scope) : Prop := G.hot = false ∧ blkC G.N G.sc sc (ownOf G.N sc) = true ∧ (∀ i ∈ gslots G c0.target, i ∈ (ownOf G.N sc).map (·.2)) ∧ notSet c0.iter = true ∧ c0.is_async = 0
instance (G : Ctx) (c0 : Comprehension) (sc : Scope) : Decidable (comp1Ok G c0 sc) := by unfold comp1Ok; infer_instance
def dc1D (r : Dn) (G : Ctx) (kx vx : Expr) (c0 : Comprehension) (sc : Scope) (ρ : Sl) : M D := if comp1Ok G c0 sc then (do
    let ds ← iD r G c0.target c0.iter ρ
    let ys ← noX (clauseD r (blkG G sc) c0.target c0.ifs (leafD r (blkG G sc) kx vx) (wipeL ρ ((ownOf G.N sc).map (·.2))) ds [])
    yes (.dic ys)) else stuck
/-! ### readings -/
def okR {α : Type} (C : α → Sto → Prop) : R α → Prop
  | .ok a μ => C a μ
  | _ => False
theorem okR_bind {α β : Type} {x : M β} {f : β → M α} {C : α → Sto → Prop} {μ : Sto} (h : okR C ((x >>= f) μ)) : okR (fun b μ' => okR C (f b μ')) (x μ) := by
  have h' : okR C (M.bind x f μ) := h
  unfold M.bind at h'
  cases q : x μ with
  | ok b μ' => rw [q] at h'; exact h'
  | exc e μ' => rw [q] at h'; exact h'.elim
  | stuck => rw [q] at h'; exact h'.elim
abbrev noZ : WX := fun _ _ _ _ => False
/-- what is in the making at L: what it holds -/
structure Acc (W : Wd) (m1 : Mem) (L : Addr) (α : Type) where
  at_ : Mem → α → Prop
  step : ∀ mm m2 a, Step mm m2 → L ∈ mm.pv → at_ mm a → at_ m2 a
section
variable {W : Wd} {m1 : Mem} {L : Addr} {α : Type} {r : Dn} {G : Ctx}
def GoodB (A : Acc W m1 L α) (body : Sl → α → M α) (bd : L2.St → Hp → (Hp → Prop) → Prop) : Prop :=
  ∀ (ρ : Sl) (σ : L2.St) (mm : Mem) (a : α) (C : α → Sto → Prop) (Nx : Hp → Prop), Okm W mm → Mk m1 mm L → A.at_ mm a → EnvOk W mm ρ σ → okR C (body ρ a mm.μ) →
    (∀ m' a', Okm W m' → Mk m1 m' L → Up mm m' → A.at_ m' a' → C a' m'.μ → Nx m'.H) → bd σ mm.H Nx
theorem loop_read (A : Acc W m1 L α) {tg : Expr} {ifs : List Expr} {body : Sl → α → M α} {bd : L2.St → Hp → (Hp → Prop) → Prop} (gb : GoodB A body bd) {vs : List Nat} (hv : ∀ i ∈ gslots G tg, i ∈ vs) {J : It} {ds : List D} {mm : Mem} (itm : Itm W J mm ds)
    {a : α} {ρ : Sl} {σ : L2.St} {C : α → Sto → Prop} {Qe : Hp → Prop} (g : Okm W mm) (k : Mk m1 mm L) (ha : A.at_ mm a) (rr : EnvOk W mm (wipeL ρ vs) (wipe σ vs)) (w : okR C (clauseD r G tg ifs body (wipeL ρ vs) ds a mm.μ))
    (fin : ∀ m' a', Okm W m' → Mk m1 m' L → Up mm m' → A.at_ m' a' → C a' m'.μ → Qe m'.H) : Loop J (TGp W (gslots G tg) (gD G tg)) (TTof W noZ (testsD r G ifs)) bd vs σ mm.H Qe := by
  let Iv : Nat → Hp → Prop := fun i H' => ∃ m' a', m'.H = H' ∧ Okm W m' ∧ Mk m1 m' L ∧ Up mm m' ∧ A.at_ m' a' ∧ okR C (clauseD r G tg ifs body (wipeL ρ vs) (ds.drop i) a' m'.μ)
  refine ⟨fun i n H' => n = ds.length - i ∧ i ≤ ds.length ∧ Iv i H', ⟨ds.length, by simp, Nat.zero_le _, mm, a, rfl, g, k, Up.refl mm, ha, w⟩, ?_⟩
  rintro i n H' ⟨rfl, hi, m', a', rfl, g', k', u', ha', w'⟩
  by_cases hlt : i < ds.length
  · refine .inr ⟨itm.go i m' u' g' hlt, Iv (i + 1), fun H2 z => ⟨ds.length - (i + 1), by omega, rfl, hlt, z⟩, fun x H2 y => ?_⟩
    obtain ⟨m2, d, rfl, s2, g2, e2, _, e3, hd⟩ := itm.yld i m' x H2 u' g' hlt y
    have hdrop : ds.drop i = d :: ds.drop (i + 1) := by
      obtain ⟨hi', he⟩ := List.getElem?_eq_some_iff.mp e3
      rw [← he]
      exact List.drop_eq_getElem_cons hi'
    rw [hdrop, ← e2] at w'
    unfold clauseD at w'
    cases q1 : gD G tg d (wipeL ρ vs) with
    | none => rw [q1] at w'; exact w'.elim
    | some ρ1 =>
      rw [q1] at w'
      have u2 : Up mm m2 := u'.trans s2.up
      have k2 := k'.step s2
      have ha2 := A.step _ _ _ s2 k'.mem ha'
      refine ⟨wipeL ρ vs, m2, d, ρ1, rfl, g2, rr.up u2, hd, q1, fun σ2 r3 ag => ⟨(ag.wipe (vs := vs) hv).trans wipe_idem, ρ1, m2, rfl, g2, r3, ?_⟩⟩
      have w2 := okR_bind w'
      cases q2 : testsD r G ifs ρ1 m2.μ with
      | stuck => rw [q2] at w2; exact w2.elim
      | exc x' μ' => rw [q2] at w2; exact w2.elim
      | ok b μ3 =>
        rw [q2] at w2
        intro m3 s3 g3 e4
        have k3 := k2.step s3
        have ha3 := A.step _ _ _ s3 k2.mem ha2
        have w3 := okR_bind (show okR C ((do let a' ← (if b then body ρ1 a' else yes a'); clauseD r G tg ifs body (wipeL ρ vs) (ds.drop (i + 1)) a' : M α) μ3) from w2)
        rw [← e4] at w3
        cases b with
        | false =>
          show (if false = true then _ else _)
          rw [if_neg Bool.false_ne_true]
          exact ⟨m3, a', rfl, g3, k3, u2.trans s3.up, ha3, w3⟩
        | true =>
          show (if true = true then _ else _)
          rw [if_pos rfl]
          exact gb ρ1 σ2 m3 a' _ _ g3 k3 ha3 (r3.mono s3) w3 fun m4 a4 g4 k4 u4 ha4 w4 => ⟨m4, a4, rfl, g4, k4, (u2.trans s3.up).trans u4, ha4, w4⟩
  · have ei : i = ds.length := by omega
    subst ei
    rw [List.drop_length] at w'
    exact .inl ⟨itm.stop m' u' g', fin m' a' g' k' u' ha' w'⟩
theorem good_inner (A : Acc W m1 L α) {tg iter : Expr} {ifs : List Expr} {body : Sl → α → M α} {bd : L2.St → Hp → (Hp → Prop) → Prop} (gb : GoodB A body bd) :
    GoodB A (innerD r G tg iter ifs (gslots G tg) body) (fun σ H Nx => TIof W noZ (iD r G tg iter) σ H fun J H1 => Loop J (TGp W (gslots G tg) (gD G tg)) (TTof W noZ (testsD r G ifs)) bd (gslots G tg) σ H1 Nx) := by
  intro ρ σ mm a C Nx g k ha rr w fin
  refine ⟨ρ, mm, rfl, g, rr, ?_⟩
  have w1 := okR_bind w
  cases q : iD r G tg iter ρ mm.μ with
  | stuck => rw [q] at w1; exact w1.elim
  | exc e μ' => rw [q] at w1; exact w1.elim
  | ok ds μ' =>
    rw [q] at w1
    intro m2 s2 g2 e2 J itm
    rw [← e2] at w1
    exact loop_read A gb (fun _ z => z) itm g2 (k.step s2) (A.step _ _ _ s2 k.mem ha) ((rr.mono s2).wipes _) w1 fun m' a' g' k' u' ha' w' => fin m' a' g' k' (s2.up.trans u') ha' w'
/-! lists -/
def accL (W : Wd) (m1 : Mem) (L : Addr) : Acc W m1 L (List D) := ⟨fun mm acc => ∃ vacc, mm.H L = some (.lst vacc) ∧ DenL W mm acc vacc, fun mm m2 a s hp h => let ⟨v, h1, h2⟩ := h; ⟨v, (s.pvk L hp).trans h1, h2.mono s⟩⟩
theorem good_leafL (g0 : Okm W m1) (hL : m1.H L = none) {elt : Expr} : GoodB (accL W m1 L) (leafL r G elt) (fun σ H Nx => TEof W noZ (r.e G elt) σ H fun y H1 => ∃ acc, H1 L = some (.lst acc) ∧ acc.length < sizeLine ∧ Nx (upd H1 L (.lst (acc ++ [y])))) := by
  intro ρ σ mm a C Nx g k ha rr w fin
  refine ⟨ρ, mm, rfl, g, rr, ?_⟩
  have w1 := okR_bind w
  cases q : r.e G elt ρ mm.μ with
  | stuck => rw [q] at w1; exact w1.elim
  | exc e μ' => rw [q] at w1; exact w1.elim
  | ok y μ' =>
    rw [q] at w1
    intro m2 s2 g2 e2 v hv
    obtain ⟨vacc, h1, h2⟩ := (accL W m1 L).step _ _ _ s2 k.mem ha
    have k2 := k.step s2
    have w2 : okR C ((if a.length < sizeLine then yes (a ++ [y]) else stuck : M (List D)) μ') := w1
    by_cases hz : a.length < sizeLine
    · rw [if_pos hz] at w2
      refine ⟨vacc, h1, by rw [h2.lenEq]; exact hz, ?_⟩
      refine fin (m2.gro L (.lst (vacc ++ [v]))) (a ++ [y]) (okm_gro g2 k2.mem) (k2.gro g0 hL) (s2.up.trans (up_gro k2.mem)) ⟨_, upd_same, (h2.append (.cons hv .nil)).up (up_gro k2.mem)⟩ ?_
      show C (a ++ [y]) m2.μ
      rw [e2]
      exact w2
    · rw [if_neg hz] at w2; exact w2.elim
/-! dicts -/
def accK (W : Wd) (m1 : Mem) (L : Addr) : Acc W m1 L (List (Key × D)) := ⟨fun mm acc => ∃ kv, mm.H L = some (.dK kv) ∧ DenK W mm acc kv, fun mm m2 a s hp h => let ⟨v, h1, h2⟩ := h; ⟨v, (s.pvk L hp).trans h1, h2.mono s⟩⟩
theorem good_leafD (g0 : Okm W m1) (hL : m1.H L = none) {kx vx : Expr} : GoodB (accK W m1 L) (leafD r G kx vx) (leafK L (TEof W noZ (r.e G kx)) (TEof W noZ (r.e G vx))) := by
  intro ρ σ mm a C Nx g k ha rr w fin
  refine ⟨ρ, mm, rfl, g, rr, ?_⟩
  have w1 := okR_bind w
  cases q : r.e G kx ρ mm.μ with
  | stuck => rw [q] at w1; exact w1.elim
  | exc e μ' => rw [q] at w1; exact w1.elim
  | ok x μ' =>
    rw [q] at w1
    intro m2 s2 g2 e2 vk hk
    refine ⟨ρ, m2, rfl, g2, rr.mono s2, ?_⟩
    have w2 := okR_bind w1
    rw [← e2] at w2
    cases q2 : r.e G vx ρ m2.μ with
    | stuck => rw [q2] at w2; exact w2.elim
    | exc e μ' => rw [q2] at w2; exact w2.elim
    | ok y μ3 =>
      rw [q2] at w2
      intro m3 s3 g3 e3 v hv
      obtain ⟨kv, h1, h2⟩ := (accK W m1 L).step _ _ _ s3 (k.step s2).mem ((accK W m1 L).step _ _ _ s2 k.mem ha)
      have k3 := (k.step s2).step s3
      cases q3 : keyOf x with
      | none => rw [q3] at w2; exact w2.elim
      | some key =>
        rw [q3] at w2
        have w3 : okR C (if a.length < sizeLine then R.ok (putD a key y) μ3 else .stuck) := w2
        by_cases hz : a.length < sizeLine
        · rw [if_pos hz] at w3
          refine ⟨kv, key, keyOf_den hk q3, h1, by rw [← h2.length]; exact hz, ?_⟩
          refine fin (m3.gro L (.dK (putK kv key v))) (putD a key y) (okm_gro g3 k3.mem) (k3.gro g0 hL) ((s2.up.trans s3.up).trans (up_gro k3.mem)) ⟨_, upd_same, (h2.put key hv).up (up_gro k3.mem)⟩ ?_
          show C (putD a key y) m3.μ
          rw [e3]
          exact w3
        · rw [if_neg hz] at w3; exact w3.elim
end
theorem noX_okR {α β : Type} {W : Wd} {m : Mem} {E : Ex → Mem → Prop} {P : β → Mem → Prop} {x : M α} {f : α → M β} (w : wpR W m E P ((do let a ← noX x; f a) m.μ)) : okR (fun a μ' => wpR W m E P (f a μ')) (x m.μ) := by
  have w' : wpR W m E P (M.bind (noX x) f m.μ) := w
  unfold M.bind noX at w'
  cases q : x m.μ with
  | ok a μ' => rw [q] at w'; exact w'
  | exc e μ' => rw [q] at w'; exact (show False from w').elim
  | stuck => rw [q] at w'; exact (show False from w').elim
section
variable {W : Wd} {Z : WX} {X : Cx} {G : Ctx} {r : Dn}
theorem notSet_fold {e : Expr} (h : notSet e = true) (env : Env) (x : Value) : foldedSetIterable e env x = pure x := by
  unfold foldedSetIterable
  cases e <;> first | rfl | cases h
theorem pe_lc2D (R : EnOk W r) (ok : EOk W X Z G) (elt : Expr) (c0 c1 : Comprehension) (sc : Scope) (pos : Pos) : PE X (.ListComp elt [c0, c1] sc pos) (TEof W Z (lc2D r G elt c0 c1 sc pos)) := by
  by_cases h0 : comp2Ok G c0 c1 sc
  · obtain ⟨h1, h2, h3, h4, h5, h6, h7, h8⟩ := id h0
    obtain ⟨t0, i0, f0, a0⟩ := c0
    obtain ⟨t1, i1, f1, a1⟩ := c1
    cases (show a0 = 0 from h7)
    cases (show a1 = 0 from h8)
    have bo : BlkOk X.N X.env.scope sc (ownOf G.N sc) := by rw [ok.N, ok.sc]; exact blkOk_by h2
    refine PE.weak (pe_lc2 (own := ownOf G.N sc) (vs1 := gslots G t1) (ok.calm h1) ok.nd (pi_D R ok t0 i0) bo h4 (fun s H C cl fp => pg_gD (blk_ok ok s H C cl fp) (ok.calm h1) t0) (fun s H C cl fp => pts_D R (blk_ok ok s H C cl fp) f0)
      (fun s H C cl fp => pi_D R (blk_ok ok s H C cl fp) t1 i1) (fun s H C cl fp => pg_gD (blk_ok ok s H C cl fp) (ok.calm h1) t1) (fun s H C cl fp => pts_D R (blk_ok ok s H C cl fp) f1) (fun s H C cl fp => R.e (blk_ok ok s H C cl fp) elt)
      (notSet_fold h5 X.env) (notSet_fold h6)) fun σ H Q h => ?_
    obtain ⟨ρ, m, e, g, rr, w⟩ := (te_if h).2
    refine ⟨ρ, m, e, g, rr, (wpR_bind w).mono (fun _ _ _ _ z => z) fun ds m2 s2 g2 w2 J itm L hL => ?_⟩
    have w3 := noX_okR w2
    have itm2 : Itm W J (m2.opn L (.lst [])) ds := ⟨fun i n u => itm.go i n ((up_opn hL).trans u), fun n u => itm.stop n ((up_opn hL).trans u), fun i n x H' u => itm.yld i n x H' ((up_opn hL).trans u)⟩
    exact loop_read (accL W m2 L) (good_inner (accL W m2 L) (good_leafL g2 hL)) (G := blkG G sc) h3 itm2 (okm_opn g2 hL) (Mk.opn g2 hL) ⟨[], upd_same, .nil⟩ (((rr.mono s2).wipes _).up (up_opn hL)) w3
      fun m' a' g' k' u' ⟨vacc, hv1, hv2⟩ w' => fix_out (E := fun _ _ => True) g2 hL g' k' hv1 hv2 (w'.mono (fun _ _ _ _ _ => trivial) fun _ _ _ _ z => z)
  · exact PE.weak PE.any fun σ H Q h => h0 (te_if h).1
theorem pe_dc2D (R : EnOk W r) (ok : EOk W X Z G) (kx vx : Expr) (c0 c1 : Comprehension) (sc : Scope) (pos : Pos) : PE X (.DictComp kx vx [c0, c1] sc pos) (TEof W Z (dc2D r G kx vx c0 c1 sc)) := by
  by_cases h0 : comp2Ok G c0 c1 sc
  · obtain ⟨h1, h2, h3, h4, h5, h6, h7, h8⟩ := id h0
    obtain ⟨t0, i0, f0, a0⟩ := c0
    obtain ⟨t1, i1, f1, a1⟩ := c1
    cases (show a0 = 0 from h7)
    cases (show a1 = 0 from h8)
    have bo : BlkOk X.N X.env.scope sc (ownOf G.N sc) := by rw [ok.N, ok.sc]; exact blkOk_by h2
    refine PE.weak (pe_lk (pe_dc2 (own := ownOf G.N sc) (vs1 := gslots G t1) (ok.calm h1) ok.nd (pi_D R ok t0 i0) bo h4 (fun s H C cl fp => pg_gD (blk_ok ok s H C cl fp) (ok.calm h1) t0) (fun s H C cl fp => pts_D R (blk_ok ok s H C cl fp) f0)
      (fun s H C cl fp => pi_D R (blk_ok ok s H C cl fp) t1 i1) (fun s H C cl fp => pg_gD (blk_ok ok s H C cl fp) (ok.calm h1) t1) (fun s H C cl fp => pts_D R (blk_ok ok s H C cl fp) f1) (fun s H C cl fp => R.e (blk_ok ok s H C cl fp) kx) (fun s H C cl fp => R.e (blk_ok ok s H C cl fp) vx)
      (notSet_fold h5 X.env) (notSet_fold h6))) fun σ H Q h => ?_
    obtain ⟨ρ, m, e, g, rr, w⟩ := (te_if h).2
    refine ⟨ρ, m, e, g, rr, (wpR_bind w).mono (fun _ _ _ _ z => z) fun ds m2 s2 g2 w2 J itm L hL => ?_⟩
    have w3 := noX_okR w2
    have itm2 : Itm W J (m2.opn L (.dK [])) ds := ⟨fun i n u => itm.go i n ((up_opn hL).trans u), fun n u => itm.stop n ((up_opn hL).trans u), fun i n x H' u => itm.yld i n x H' ((up_opn hL).trans u)⟩
    refine loop_read (accK W m2 L) (good_inner (accK W m2 L) (good_leafD g2 hL)) (G := blkG G sc) h3 itm2 (okm_opn g2 hL) (Mk.opn g2 hL) ⟨[], upd_same, .nil⟩ (((rr.mono s2).wipes _).up (up_opn hL)) w3
      fun m' a' g' k' u' ⟨kv, hv1, hv2⟩ w' => .inr ⟨L, .dK kv, hv1, trivial, fun od => dic_end g2 hL k' g' hv2 w'⟩
  · exact PE.weak PE.any fun σ H Q h => h0 (te_if h).1
theorem pe_dc1D (R : EnOk W r) (ok : EOk W X Z G) (kx vx : Expr) (c0 : Comprehension) (sc : Scope) (pos : Pos) : PE X (.DictComp kx vx [c0] sc pos) (TEof W Z (dc1D r G kx vx c0 sc)) := by
  by_cases h0 : comp1Ok G c0 sc
  · obtain ⟨h1, h2, h3, h5, h7⟩ := id h0
    obtain ⟨t0, i0, f0, a0⟩ := c0
    cases (show a0 = 0 from h7)
    have bo : BlkOk X.N X.env.scope sc (ownOf G.N sc) := by rw [ok.N, ok.sc]; exact blkOk_by h2
    refine PE.weak (pe_lk (pe_dc (own := ownOf G.N sc) (ok.calm h1) ok.nd (pi_D R ok t0 i0) bo (fun s H C cl fp => pg_gD (blk_ok ok s H C cl fp) (ok.calm h1) t0) (fun s H C cl fp => pts_D R (blk_ok ok s H C cl fp) f0)
      (fun s H C cl fp => R.e (blk_ok ok s H C cl fp) kx) (fun s H C cl fp => R.e (blk_ok ok s H C cl fp) vx) (notSet_fold h5 X.env))) fun σ H Q h => ?_
    obtain ⟨ρ, m, e, g, rr, w⟩ := (te_if h).2
    refine ⟨ρ, m, e, g, rr, (wpR_bind w).mono (fun _ _ _ _ z => z) fun ds m2 s2 g2 w2 J itm L hL => ?_⟩
    have w3 := noX_okR w2
    have itm2 : Itm W J (m2.opn L (.dK [])) ds := ⟨fun i n u => itm.go i n ((up_opn hL).trans u), fun n u => itm.stop n ((up_opn hL).trans u), fun i n x H' u => itm.yld i n x H' ((up_opn hL).trans u)⟩
    refine loop_read (accK W m2 L) (good_leafD g2 hL) (G := blkG G sc) h3 itm2 (okm_opn g2 hL) (Mk.opn g2 hL) ⟨[], upd_same, .nil⟩ (((rr.mono s2).wipes _).up (up_opn hL)) w3
      fun m' a' g' k' u' ⟨kv, hv1, hv2⟩ w' => .inr ⟨L, .dK kv, hv1, trivial, fun od => dic_end g2 hL k' g' hv2 w'⟩
  · exact PE.weak PE.any fun σ H Q h => h0 (te_if h).1
end
/-! ### list(x) that will change -/
def listCD (xs : List D) : M D := fun μ => match xs with
  | [d] => match asS μ d with
    | some ys => .ok (.cell μ.length) (μ ++ [.lst ys])
    | none => .stuck
  | _ => .stuck
def listCE (r : Dn) (G : Ctx) (a : Expr) (ρ : Sl) : M D := if G.isB "list" = true ∧ glB G.sc "list" = true ∧ noStar [a] = true then (do let d ← r.e G a ρ; listCD [d]) else stuck
section
variable {W : Wd} {Z : WX} {X : Cx} {G : Ctx} {r : Dn}
theorem call_listCD (hK : X.K = W.K) : CallR X (.type "list") (RCof W listCD) := by
  intro pins s σ H xs us Q I r h
  obtain ⟨E, ds, m, rfl, g, l, q⟩ := h
  unfold listCD at q
  split at q
  · rename_i d
    obtain ⟨x, rfl, hd⟩ := dl1 l
    split at q
    · rename_i ys e
      obtain ⟨a, vs, rfl, h1, l1⟩ := asS_den g hd e
      exact call_list_of pins s σ m.H _ us Q I r ⟨a, vs, rfl, by rw [hK]; exact h1, fun p hp => out.cel q g l1 hp⟩
    · exact q.elim
  · exact q.elim
theorem pe_listCE (R : EnOk W r) (ok : EOk W X Z G) (a : Expr) (p pos : Pos) : PE X (.Call (.Name "list" p) [a] [] pos) (TEof W Z (listCE r G a)) := by
  by_cases hz : G.isB "list" = true ∧ glB G.sc "list" = true ∧ noStar [a] = true
  · obtain ⟨z1, z2⟩ := star_cons (env := X.env) hz.2.2
    refine PE.weak (pe_callTy (call_listCD ok.K) (gl_of ok hz.2.1) (ok.g.bl _ hz.1) (by decide +kernel) (pa_cons (R.e ok a) pa_nil (hs := z1)) (by decide +kernel) (by decide +kernel) z1 (star_any z2)) fun σ H Q h => ?_
    obtain ⟨ρ, m, e, g, rr, w⟩ := (te_if h).2
    exact ⟨ρ, m, e, g, rr, (wpR_bind w).mono (fun _ _ _ _ z => z) fun d m1 s1 g1 w1 v hv => ⟨EWish W Z σ, [d], m1, rfl, g1, .cons hv .nil, w1⟩⟩
  · exact PE.weak PE.any fun σ H Q h => hz (te_if h).1
end
/-! ### one step more -/
def stepE5 (r : Dn) (G : Ctx) (e : Expr) (ρ : Sl) : M D := match e with
  | .FormattedValue a c none _ => fmtE r G a c ρ
  | .JoinedStr vs _ => jsE r G vs ρ
  | .List es pos => if noStar es = true then stepE4 r G (.List es pos) ρ else starE r G es pos ρ
  | .Call (.Attribute o m ap) [a] [] pos => if m = "get" then getE1 r G o a (ap.endLine == pos.line) ρ else stepE4 r G (.Call (.Attribute o m ap) [a] [] pos) ρ
  | .Call (.Attribute o m ap) [a, b] [] pos => if m = "get" then getE2 r G o a b (ap.endLine == pos.line) ρ else stepE4 r G (.Call (.Attribute o m ap) [a, b] [] pos) ρ
  | .Call (.Name f p) [a] [] pos => if f = "list" ∧ G.hint pos = 1 then listCE r G a ρ else stepE4 r G (.Call (.Name f p) [a] [] pos) ρ
  | .ListComp elt [c0, c1] sc pos => lc2D r G elt c0 c1 sc pos ρ
  | .DictComp kx vx [c0] sc _ => dc1D r G kx vx c0 sc ρ
  | .DictComp kx vx [c0, c1] sc _ => dc2D r G kx vx c0 c1 sc ρ
  | e => stepE4 r G e ρ
theorem pe_stepE5 {W : Wd} {Z : WX} {X : Cx} {G : Ctx} {r : Dn} (R : EnOk W r) (ok : EOk W X Z G) (e : Expr) : PE X e (TEof W Z (stepE5 r G e)) := by
  unfold stepE5
  split
  · exact pe_fmtE R ok _ _ _
  · exact pe_jsE R ok _ _
  · rename_i es pos
    by_cases h : noStar es = true
    · simp only [h, ↓reduceIte]; exact pe_stepE4 R ok _
    · simp only [h, ↓reduceIte]; exact pe_starE R ok es pos
  · rename_i o m ap a pos
    by_cases h : m = "get"
    · subst h; simp only [↓reduceIte]; exact pe_getE1 R ok o a ap pos
    · simp only [h, ↓reduceIte]; exact pe_stepE4 R ok _
  · rename_i o m ap a b pos
    by_cases h : m = "get"
    · subst h; simp only [↓reduceIte]; exact pe_getE2 R ok o a b ap pos
    · simp only [h, ↓reduceIte]; exact pe_stepE4 R ok _
  · rename_i f p a pos
    by_cases h : f = "list" ∧ G.hint pos = 1
    · obtain ⟨rfl, h2⟩ := id h; simp only [h2, and_self, ↓reduceIte]; exact pe_listCE R ok a p pos
    · simp only [h, ↓reduceIte]; exact pe_stepE4 R ok _
  · exact pe_lc2D R ok _ _ _ _ _
  · exact pe_dc1D R ok _ _ _ _ _
  · exact pe_dc2D R ok _ _ _ _ _ _
  · exact pe_stepE4 R ok _
end Pu

set_option Elab.async false
set_option linter.all false
set_option maxRecDepth 100000
/-! Pu12: the den of statements. -/
namespace Pu
open PySem L2

/-- an expression in a statement: what it raises flies from here -/
def withX {α : Type} (ρ : Sl) (x : M α) (k : α → M Fl) : M Fl := fun μ => match x μ with
  | .ok a μ' => k a μ'
  | .exc e μ' => .ok (.exc e ρ) μ'
  | .stuck => .stuck
def isComp : Expr → Bool
  | .ListComp _ _ _ _ => true
  | .SetComp _ _ _ _ => true
  | .DictComp _ _ _ _ _ => true
  | _ => false
def hotG (G : Ctx) : Ctx := { G with hot := true }
def storeN (G : Ctx) (x : Str) (d : D) (ρ : Sl) : M Fl := fun μ => match gN G x d ρ with
  | some ρ' => .ok (.next ρ') μ
  | none => .stuck
def storeT (G : Ctx) (tg : Expr) (d : D) (ρ : Sl) : M Fl := fun μ => match gD G tg d ρ with
  | some ρ' => .ok (.next ρ') μ
  | none => .stuck
def setD (o i v : D) : M Unit := fun μ => match o, i with
  | .cell c, .int k => match μ[c]? with
    | some (.lst xs) => match ixN xs.length k with
      | some j => .ok () (μ.set c (.lst (xs.set j v)))
      | none => .stuck
    | _ => .stuck
  | _, _ => .stuck
def putFD (f : Str) (v : D) : List (Str × D) → List (Str × D)
  | [] => [(f, v)]
  | (k, u) :: r => if k = f then (k, v) :: r else (k, u) :: putFD f v r
def fldD (G : Ctx) (f : Str) (x v : D) : M Unit := fun μ => match x with
  | .cell c => match μ[c]? with
    | some (.obj C fs) => if G.fld C f = true ∧ fs.length < 1000 then .ok () (μ.set c (.obj C (putFD f v fs))) else .stuck
    | _ => .stuck
  | _ => .stuck
/-- which way (a, b) = (e, f) goes: 0 by a tuple, 1 by swapped stores, 2 none -/
def swNames (sc : Scope) (line : Nat) (ts : List Expr) : List Str := ts.filterMap fun
  | .Name id pos => if sc.names.lookup id == some .local && pos.line == line then some id else none
  | _ => none
def swKind (sc : Scope) (ts vs : List Expr) : Nat :=
  if (!(ts.length == 2 || ts.length == 3) || vs.length != ts.length || sc.kind != .function) = true then 0
  else if (vs.any fun | .Starred .. => true | _ => false) = true then 0
  else if ((swNames sc ((ts.head?.map (·.pos.line)).getD 0) ts).length != ts.length || (swNames sc ((ts.head?.map (·.pos.line)).getD 0) ts).eraseDups.length != (swNames sc ((ts.head?.map (·.pos.line)).getD 0) ts).length) = true then 0
  else if vs.all (foldedForSure 8) = true then 0
  else if vs.all (constantsAlone 8) = true then 2 else 1
/-- a, b = e, f: both stored at once -/
def store2 (G : Ctx) (x y : Str) (ds : List D) (ρ : Sl) : M Fl := fun μ => match ds with
  | [d1, d2] => match (gN G x d1 ρ).bind fun ρ1 => gN G y d2 ρ1 with
    | some ρ' => .ok (.next ρ') μ
    | none => .stuck
  | _ => .stuck
def store3 (G : Ctx) (x y z : Str) (ds : List D) (ρ : Sl) : M Fl := fun μ => match ds with
  | [d1, d2, d3] => match (gN G x d1 ρ).bind fun ρ1 => (gN G y d2 ρ1).bind fun ρ2 => gN G z d3 ρ2 with
    | some ρ' => .ok (.next ρ') μ
    | none => .stuck
  | _ => .stuck
def canN (G : Ctx) (x : Str) : Bool := (G.ix x).isSome && (G.sc.names.lookup x == some .local || (G.sc.names.lookup x == some .cell && G.own x))
def swapD (r : Dn) (G : Ctx) (ts vs : List Expr) (ρ : Sl) : M Fl := match ts, vs with
  | [.Name x _, .Name y _], [a, b] => if G.N.idxOf x ≠ G.N.idxOf y ∧ G.sc.names.lookup x = some .local ∧ G.sc.names.lookup y = some .local ∧ noStar [a, b] = true ∧ canN G x = true ∧ canN G y = true ∧ swNames G.sc ((ts.head?.map (·.pos.line)).getD 0) ts = [x, y] then withX ρ (aD r G [a, b] ρ) (fun ds => store2 G x y ds ρ) else stuck
  | [.Name x _, .Name y _, .Name z _], [a, b, c] => if (G.N.idxOf x ≠ G.N.idxOf y ∧ G.N.idxOf x ≠ G.N.idxOf z ∧ G.N.idxOf y ≠ G.N.idxOf z) ∧ (G.sc.names.lookup x = some .local ∧ G.sc.names.lookup y = some .local ∧ G.sc.names.lookup z = some .local) ∧ noStar [a, b, c] = true ∧ (canN G x = true ∧ canN G y = true ∧ canN G z = true) ∧ swNames G.sc ((ts.head?.map (·.pos.line)).getD 0) ts = [x, y, z] then withX ρ (aD r G [a, b, c] ρ) (fun ds => store3 G x y z ds ρ) else stuck
  | _, _ => stuck
def asgN1 (r : Dn) (G : Ctx) (x : Str) (e : Expr) (ρ : Sl) : M Fl := match e with
  | .ListComp elt gs sc pos => withX ρ (lcE r G elt gs sc pos ρ) (fun d => storeN G x d ρ)
  | .SetComp _ _ _ _ => stuck
  | .DictComp _ _ _ _ _ => stuck
  | e => withX ρ (r.e G e ρ) (fun d => storeN G x d ρ)
def asgN (r : Dn) (G : Ctx) (x : Str) (e : Expr) (ρ : Sl) : M Fl := if canN G x = true then asgN1 r G x e ρ else stuck
def asgT (r : Dn) (G : Ctx) (tg : Expr) (ts : List Expr) (e : Expr) (ρ : Sl) : M Fl := match e with
  | .Tuple vs _ _ => if swKind G.sc ts vs = 0 then withX ρ (r.e G e ρ) (fun d => storeT G tg d ρ) else if swKind G.sc ts vs = 1 then swapD r G ts vs ρ else stuck
  | .ListComp _ _ _ _ => stuck
  | .SetComp _ _ _ _ => stuck
  | .DictComp _ _ _ _ _ => stuck
  | e => withX ρ (r.e G e ρ) (fun d => storeT G tg d ρ)
def asgD (r : Dn) (G : Ctx) (tg e : Expr) (ρ : Sl) : M Fl := match tg with
  | .Name x _ => asgN r G x e ρ
  | .Tuple ts k p => if G.hot = false then asgT r G (.Tuple ts k p) ts e ρ else stuck
  | .Attribute o f _ => if isComp e = false then withX ρ (do let v ← r.e G e ρ; let x ← r.e G o ρ; fldD G f x v) (fun _ => yes (.next ρ)) else stuck
  | .Subscript o i _ => if isComp e = false ∧ isSlice i = false then withX ρ (do let v ← r.e G e ρ; let x ← r.e G o ρ; let k ← r.e G i ρ; setD x k v) (fun _ => yes (.next ρ)) else stuck
  | _ => stuck
def loopD (G : Ctx) (tg : Expr) (body : Sl → M Fl) : List D → Sl → M Fl
  | [], ρ => yes (.next ρ)
  | d :: ds, ρ => match gD G tg d ρ with
    | none => stuck
    | some ρ1 => do
      let fl ← body ρ1
      match fl with
      | .next ρ' => loopD G tg body ds ρ'
      | .cont ρ' => loopD G tg body ds ρ'
      | .brk ρ' => yes (.next ρ')
      | .ret d => yes (.ret d)
      | .exc e ρ' => yes (.exc e ρ')
def forD (r : Dn) (G : Ctx) (tg iter : Expr) (body : List Stmt) (ρ : Sl) : M Fl :=
  if G.hot = false ∧ notSet iter = true then withX ρ (iD r G tg iter ρ) (fun ds => loopD G tg (r.s G body) ds ρ) else stuck
def whD (r : Dn) (G : Ctx) (c : Expr) (body : List Stmt) : Nat → Sl → M Fl
  | 0, _ => stuck
  | n + 1, ρ => withX ρ (r.t G c ρ) (fun k => match k with
    | false => yes (.next ρ)
    | true => do
      let fl ← r.s G body ρ
      match fl with
      | .next ρ' => whD r G c body n ρ'
      | .cont ρ' => whD r G c body n ρ'
      | .brk ρ' => yes (.next ρ')
      | .ret d => yes (.ret d)
      | .exc e ρ' => yes (.exc e ρ'))
def raiseD (G : Ctx) (e : Option Expr) (ρ : Sl) : M Fl := match e with
  | some (.Call (.Name x _) [.Constant (.str _) _ _] [] _) => if G.xc x = true ∧ G.hot = false ∧ okName x = true ∧ glB G.sc x = true then yes (.exc ⟨x, []⟩ ρ) else stuck
  | _ => stuck
def noF (x : M Fl) : M Fl := fun μ => match x μ with
  | .ok (.exc _ _) _ => .stuck
  | r => r
def catchD (x : M Fl) (k : Ex → Sl → M Fl) : M Fl := fun μ => match x μ with
  | .ok (.exc e ρ') μ' => k e ρ' μ'
  | r => r
def catK (r : Dn) (G : Ctx) (c : Str) (suite : List Stmt) (e : Ex) (ρ : Sl) : M Fl := match G.cat c e.cls with
  | some true => noF (r.s (hotG G) suite ρ)
  | some false => yes (.exc e ρ)
  | none => stuck
def tryD (r : Dn) (G : Ctx) (body : List Stmt) (hs : List ExceptHandler) (ρ : Sl) : M Fl := match hs with
  | [.ExceptHandler (some (.Name c _)) none (b0 :: suite) _] => if okName c = true ∧ glB G.sc c = true ∧ G.hot = false ∧ (G.cat c c).isSome = true then catchD (r.s G body ρ) (catK r G c (b0 :: suite)) else stuck
  | _ => stuck
def stmD (r : Dn) (G : Ctx) (st : Stmt) (ρ : Sl) : M Fl := match st with
  | .Pass _ => yes (.next ρ)
  | .Break _ => yes (.brk ρ)
  | .Continue _ => yes (.cont ρ)
  | .Expr e _ => if isComp e = false then withX ρ (r.e G e ρ) (fun _ => yes (.next ρ)) else stuck
  | .Return (some e) _ => withX ρ (r.e G e ρ) (fun d => yes (.ret d))
  | .Return none _ => yes (.ret .non)
  | .If c a b _ => withX ρ (r.t G c ρ) (fun k => match k with
    | true => r.s G a ρ
    | false => r.s G b ρ)
  | .Assign [tg] e _ => asgD r G tg e ρ
  | .For tg iter body [] _ => forD r G tg iter body ρ
  | .While c body [] _ => whD r G c body 1000000 ρ
  | .Raise e none _ => raiseD G e ρ
  | .Try body hs [] [] _ => tryD r G body hs ρ
  | _ => stuck
def sD (r : Dn) (G : Ctx) : List Stmt → Sl → M Fl
  | [], ρ => yes (.next ρ)
  | st :: rest, ρ => do
    let fl ← stmD r G st ρ
    match fl with
    | .next ρ' => sD r G rest ρ'
    | .brk ρ' => yes (.brk ρ')
    | .cont ρ' => yes (.cont ρ')
    | .ret d => yes (.ret d)
    | .exc e ρ' => yes (.exc e ρ')
def stepD (r : Dn) : Dn := { e := stepE5 r, t := stepT r, s := sD r }
def den : Nat → Dn
  | 0 => { e := fun _ _ _ => stuck, t := fun _ _ _ => stuck, s := fun _ _ _ => stuck }
  | n + 1 => stepD (den n)

structure DnOk (W : Wd) (r : Dn) : Prop where
  en : EnOk W r
  s : ∀ {X : Cx} {Z : WX} {G : Ctx}, SOk W X Z G → ∀ ss : List Stmt, PSs X ss (TSof W Z (r.s G ss))

section
variable {W : Wd} {Z : WX} {X : Cx} {G : Ctx} {σ : St} {H : Hp} {D : Ends} {r : Dn}
theorem ts_none {f : Sl → M Fl} (e : ∀ ρ, f ρ = stuck) : ∀ {D σ H}, TSof W Z f D σ H → False := fun ⟨ρ, m, _, _, _, w⟩ => by rw [e] at w; exact w
theorem ts_if {c : Prop} [Decidable c] {f : Sl → M Fl} (h : TSof W Z (fun ρ => if c then f ρ else stuck) D σ H) : c ∧ TSof W Z f D σ H := by
  obtain ⟨ρ, m, e, g, rr, w⟩ := h
  by_cases hc : c
  · refine ⟨hc, ρ, m, e, g, rr, ?_⟩
    simp only [hc, ↓reduceIte] at w
    exact w
  · simp only [hc, ↓reduceIte] at w
    exact (show False from w).elim
theorem withX_wp {α : Type} {m : Mem} {ρ : Sl} {x : M α} {k : α → M Fl} (rr : EnvOk W m ρ σ) (w : wpR W m (fun _ _ => False) (FlOk W Z D) (withX ρ x k m.μ)) :
    wpR W m (EWish W Z σ) (fun a m1 => wpR W m1 (fun _ _ => False) (FlOk W Z D) (k a m1.μ)) (x m.μ) := by
  unfold withX at w
  cases q : x m.μ with
  | stuck => rw [q] at w; exact w
  | exc e μ' =>
    rw [q] at w
    intro m1 s1 g1 e1 cls dx hx
    exact w m1 s1 g1 e1 σ cls dx (rr.mono s1) hx
  | ok a μ' =>
    rw [q] at w
    intro m1 s1 g1 e1
    rw [e1]
    exact w.behind s1
theorem ok_fl {m : Mem} {fl : Fl} (g : Okm W m) (w : wpR W m (fun _ _ => False) (FlOk W Z D) (.ok fl m.μ)) : FlOk W Z D fl m := w m (Step.refl m) g rfl
theorem noswap {e : Expr} (h : isComp e = false) (tg : Option Expr) (l : Nat) (env : Env) : swapsWith e tg l env = pure false := by
  unfold swapsWith
  cases e <;> first | rfl | cases h
theorem ps_expD (R : EnOk W r) (ok : EOk W X Z G) (e : Expr) (pos : Pos) : PS X (.Expr e pos) (TSof W Z (stmD r G (.Expr e pos))) := by
  by_cases hc : isComp e = false
  · refine PS.weak (ps_expr (R.e ok e) (noswap hc none _ _)) fun D σ H h => ?_
    obtain ⟨ρ, m, ee, g, rr, w⟩ := (ts_if h).2
    exact ⟨ρ, m, ee, g, rr, (withX_wp rr w).mono (fun _ _ _ _ z => z) fun d m1 s1 g1 w1 v hv => ok_fl g1 w1 σ (rr.mono s1)⟩
  · exact PS.weak PS.any fun D σ H h => hc (ts_if h).1
theorem ps_retD (R : EnOk W r) (ok : EOk W X Z G) (e : Expr) (pos : Pos) : PS X (.Return (some e) pos) (TSof W Z (stmD r G (.Return (some e) pos))) := by
  refine PS.weak (ps_ret (R.e ok e)) fun D σ H h => ?_
  obtain ⟨ρ, m, ee, g, rr, w⟩ := h
  exact ⟨ρ, m, ee, g, rr, (withX_wp rr w).mono (fun _ _ _ _ z => z) fun d m1 s1 g1 w1 v hv => ok_fl g1 w1 v hv⟩
theorem ps_ifD (R : DnOk W r) (ok : SOk W X Z G) (c : Expr) (a b : List Stmt) (pos : Pos) : PS X (.If c a b pos) (TSof W Z (stmD r G (.If c a b pos))) := by
  refine PS.weak (ps_if (R.en.t ok.e c) (R.s ok a) (R.s ok b)) fun D σ H h => ?_
  obtain ⟨ρ, m, ee, g, rr, w⟩ := h
  refine ⟨ρ, m, ee, g, rr, (withX_wp rr w).mono (fun _ _ _ _ z => z) fun k m1 s1 g1 w1 => ?_⟩
  cases k with
  | true => show (if true = true then _ else _); rw [if_pos rfl]; exact ⟨ρ, m1, rfl, g1, rr.mono s1, w1⟩
  | false => show (if false = true then _ else _); rw [if_neg Bool.false_ne_true]; exact ⟨ρ, m1, rfl, g1, rr.mono s1, w1⟩
/-! ### stores -/
theorem storeN_out {m : Mem} {x : Str} {d : Pu.D} {v : V} {ρ : Sl} {i : Nat} (hi : G.ix x = some i) (g : Okm W m) (rr : EnvOk W m ρ σ) (hv : Den W m d v) (w : wpR W m (fun _ _ => False) (FlOk W Z D) (storeN G x d ρ m.μ)) : D.nx (σ.set i (some v)) m.H := by
  unfold storeN at w
  cases q : gN G x d ρ with
  | none => rw [q] at w; exact w.elim
  | some ρ' =>
    rw [q] at w
    obtain ⟨j, e1, e2, _, e4⟩ := gN_ix q
    rw [hi] at e1; cases e1
    subst e4
    exact ok_fl g w _ (rr.set i hv)
theorem swB_lc {elt : Expr} {gs : List Comprehension} {sc : Scope} {lp p : Pos} {x : Str} {l : Nat} {env : Env} : ∃ b : Bool, swapsWith (.ListComp elt gs sc lp) (some (.Name x p)) l env = pure b ∧ (b = true → env.kindOf x = some .local) := by
  refine ⟨env.blockKind == .function && env.kindOf x == some .local && p.line == lp.line && !(sc.names.any fun (n, k) => n == x && (k == .local || k == .cell)), rfl, fun h => ?_⟩
  simp only [Bool.and_eq_true, beq_iff_eq] at h
  exact h.1.1.2
theorem ps_asgN (R : EnOk W r) (ok : EOk W X Z G) (x : Str) (p : Pos) (e : Expr) (pos : Pos) : PS X (.Assign [.Name x p] e pos) (TSof W Z (asgN r G x e)) := by
  by_cases hz : canN G x = true
  · refine PS.weak (?_ : PS X (.Assign [.Name x p] e pos) (TSof W Z (asgN1 r G x e))) fun D σ H h => (ts_if h).2
    obtain ⟨i, h1, h2⟩ : ∃ i, G.ix x = some i ∧ (G.sc.names.lookup x = some .local ∨ (G.sc.names.lookup x = some .cell ∧ G.own x = true)) := by
      unfold canN at hz
      simp only [Bool.and_eq_true, Bool.or_eq_true, beq_iff_eq, Option.isSome_iff_exists] at hz
      obtain ⟨⟨i, z1⟩, z2⟩ := hz
      exact ⟨i, z1, z2⟩
    rw [← ok.sc] at h2
    have h2' : Loc X.env.scope x := h2.elim .inl fun z => .inr z.1
    have hf : X.fn x = true ∨ X.env.scope.names.lookup x = some .local := by
      rcases h2 with z | z
      · exact .inr z
      · exact .inl (by rw [ok.own]; exact z.2)
    have hN : X.N[i]? = some x := by rw [ok.N]; exact Ctx.ix_at h1
    have fin : ∀ {f : Sl → M Pu.D} {D σ H}, TSof W Z (fun ρ => withX ρ (f ρ) (fun d => storeN G x d ρ)) D σ H → tAsg (TEof W Z f) (gName i) D σ H := by
      rintro f D σ H ⟨ρ, m, ee, g, rr, w⟩
      exact ⟨ρ, m, ee, g, rr, (withX_wp rr w).mono (fun _ _ _ _ z => z) fun d m1 s1 g1 w1 v hv => storeN_out h1 g1 (rr.mono s1) hv w1⟩
    cases e with
    | ListComp elt gs sc lp =>
      obtain ⟨b, hb, hb2⟩ := swB_lc (elt := elt) (gs := gs) (sc := sc) (lp := lp) (p := p) (x := x) (l := pos.line) (env := X.env)
      cases b with
      | false => exact PS.weak (ps_set ok.nd hN h2' (pe_lcE R ok elt gs sc lp) hb hf) fun D σ H h => fin h
      | true =>
        have hl : X.env.scope.names.lookup x = some .local := hb2 rfl
        match gs, hb with
        | [], _ => exact PS.weak PS.any fun D σ H h => te_none (f := fun _ => stuck) (fun _ => rfl) (fin h)
        | _ :: _ :: _, _ => exact PS.weak PS.any fun D σ H h => te_none (f := fun _ => stuck) (fun _ => rfl) (fin h)
        | [⟨tg, iter, ifs, k⟩], hb =>
          by_cases hk : k = 0
          · subst hk
            exact PS.weak (ps_compD R (fun ok tg iter => pi_D R ok tg iter) ok hN hl hb) fun D σ H h => fin h
          · exact PS.weak PS.any fun D σ H h => hk (te_if (fin h)).1
    | SetComp _ _ _ _ => exact PS.weak PS.any fun D σ H h => ts_none (f := fun _ => stuck) (fun _ => rfl) h
    | DictComp _ _ _ _ _ => exact PS.weak PS.any fun D σ H h => ts_none (f := fun _ => stuck) (fun _ => rfl) h
    | _ => exact PS.weak (ps_set ok.nd hN h2' (R.e ok _) (noswap rfl _ _ _) hf) fun D σ H h => fin h
  · exact PS.weak PS.any fun D σ H h => hz (ts_if h).1
theorem storeT_out {m : Mem} {tg : Expr} {d : Pu.D} {v : V} {ρ : Sl} (g : Okm W m) (rr : EnvOk W m ρ σ) (hv : Den W m d v) (w : wpR W m (fun _ _ => False) (FlOk W Z D) (storeT G tg d ρ m.μ)) : TGp W (gslots G tg) (gD G tg) v σ m.H D.nx := by
  unfold storeT at w
  cases q : gD G tg d ρ with
  | none => rw [q] at w; exact w.elim
  | some ρ' =>
    rw [q] at w
    exact ⟨ρ, m, d, ρ', rfl, g, rr, hv, q, fun σ' r' _ => ok_fl g w σ' r'⟩
theorem swap_kind {sc : Scope} {env : Env} (he : env.scope = sc) (hk : sc.kind = .function) (ts vs : List Expr) (k k2 : Nat) (p p2 : Pos) :
    (swKind sc ts vs = 0 → swappedStores [.Tuple ts k p] (.Tuple vs k2 p2) env = pure none) ∧ (swKind sc ts vs = 1 → swappedStores [.Tuple ts k p] (.Tuple vs k2 p2) env = pure (some (swNames sc ((ts.head?.map (·.pos.line)).getD 0) ts))) := by
  have hb : env.blockKind = .function := by
    unfold Env.blockKind
    rw [he, hk]
    rfl
  subst he
  have key : swappedStores [.Tuple ts k p] (.Tuple vs k2 p2) env = (if (!(ts.length == 2 || ts.length == 3) || vs.length != ts.length || env.blockKind != .function) = true then pure none
    else if (vs.any fun | .Starred .. => true | _ => false) = true then pure none
    else if ((swNames env.scope ((ts.head?.map (·.pos.line)).getD 0) ts).length != ts.length || (swNames env.scope ((ts.head?.map (·.pos.line)).getD 0) ts).eraseDups.length != (swNames env.scope ((ts.head?.map (·.pos.line)).getD 0) ts).length) = true then pure none
    else if vs.all (foldedForSure 8) = true then pure none
    else if vs.all (constantsAlone 8) = true then (do unsupported "assign.tuple-of-constant-expressions:order-of-the-stores"; pure (some (swNames env.scope ((ts.head?.map (·.pos.line)).getD 0) ts))) else pure (some (swNames env.scope ((ts.head?.map (·.pos.line)).getD 0) ts))) := rfl
  rw [key, hb]
  unfold swKind
  rw [hk]
  generalize swNames env.scope ((ts.head?.map (·.pos.line)).getD 0) ts = names
  constructor
  · intro h
    split at h
    · rename_i c; rw [if_pos c]
    · rename_i c
      rw [if_neg c]
      split at h
      · rename_i c; rw [if_pos c]
      · rename_i c
        rw [if_neg c]
        split at h
        · rename_i c; rw [if_pos c]
        · rename_i c
          rw [if_neg c]
          split at h
          · rename_i c; rw [if_pos c]
          · split at h <;> cases h
  · intro h
    split at h
    · cases h
    · rename_i c
      rw [if_neg c]
      split at h
      · cases h
      · rename_i c
        rw [if_neg c]
        split at h
        · cases h
        · rename_i c
          rw [if_neg c]
          split at h
          · cases h
          · rename_i c
            rw [if_neg c]
            split at h
            · cases h
            · rename_i c
              rw [if_neg c]
theorem canN_ix {x : Str} (hz : canN G x = true) : ∃ i, G.ix x = some i ∧ i = G.N.idxOf x ∧ (G.sc.names.lookup x = some .local ∨ (G.sc.names.lookup x = some .cell ∧ G.own x = true)) := by
  unfold canN at hz
  simp only [Bool.and_eq_true, Bool.or_eq_true, beq_iff_eq, Option.isSome_iff_exists] at hz
  obtain ⟨⟨i, z1⟩, z2⟩ := hz
  refine ⟨i, z1, ?_, z2⟩
  unfold Ctx.ix at z1
  split at z1
  · exact (Option.some.inj z1).symm
  · cases z1
theorem ps_swapD (R : EnOk W r) (ok : SOk W X Z G) (h4 : G.hot = false) (ts vs : List Expr) (k k2 : Nat) (p p2 pos : Pos) (hk : swKind G.sc ts vs = 1) : PS X (.Assign [.Tuple ts k p] (.Tuple vs k2 p2) pos) (TSof W Z (swapD r G ts vs)) := by
  have none_of : (∀ ρ, swapD r G ts vs ρ = stuck) → PS X (.Assign [.Tuple ts k p] (.Tuple vs k2 p2) pos) (TSof W Z (swapD r G ts vs)) := fun z => PS.weak PS.any fun D σ H h => ts_none z h
  by_cases hm : ∃ x px y py a b, ts = [.Name x px, .Name y py] ∧ vs = [a, b]
  · obtain ⟨x, px, y, py, a, b, rfl, rfl⟩ := hm
    by_cases hz : G.N.idxOf x ≠ G.N.idxOf y ∧ G.sc.names.lookup x = some .local ∧ G.sc.names.lookup y = some .local ∧ noStar [a, b] = true ∧ canN G x = true ∧ canN G y = true ∧ swNames G.sc (([Expr.Name x px, .Name y py].head?.map (·.pos.line)).getD 0) [.Name x px, .Name y py] = [x, y]
    · refine PS.weak (?_ : PS X _ (TSof W Z fun ρ => withX ρ (aD r G [a, b] ρ) (fun ds => store2 G x y ds ρ))) fun D σ H h => (ts_if h).2
      obtain ⟨hne, hx, hy, hs, c1, c2, hnames⟩ := hz
      obtain ⟨i, q1, e1, _⟩ := canN_ix c1
      obtain ⟨j, q2, e2, _⟩ := canN_ix c2
      have hw := (swap_kind (env := X.env) ok.e.sc ok.kind [.Name x px, .Name y py] [a, b] k k2 p p2).2 hk
      rw [hnames] at hw
      refine PS.weak (ps_par (ok.e.calm h4) ok.e.nd (by rw [ok.e.N]; exact Ctx.ix_at q1) (by rw [ok.e.N]; exact Ctx.ix_at q2) (by rw [e1, e2]; exact hne) (by rw [ok.e.sc]; exact hx) (by rw [ok.e.sc]; exact hy) (pa_D R ok.e hs) hw rfl) fun D σ H h => ?_
      obtain ⟨ρ, m, ee, g, rr, w⟩ := h
      refine ⟨ρ, m, ee, g, rr, (withX_wp rr w).mono (fun _ _ _ _ z => z) fun ds m1 s1 g1 w1 vs hvs => ?_⟩
      unfold store2 at w1
      split at w1
      · rename_i d1 d2
        obtain ⟨v1, v2, rfl, h1, h2⟩ := dl2 hvs
        refine ⟨v1, v2, rfl, ?_⟩
        split at w1
        · rename_i ρ' e3
          cases q3 : gN G x d1 ρ with
          | none => rw [q3] at e3; cases e3
          | some ρ1 =>
            rw [q3] at e3
            obtain ⟨i', f1, _, _, f4⟩ := gN_ix q3
            obtain ⟨j', f5, _, _, f8⟩ := gN_ix (show gN G y d2 ρ1 = some ρ' from e3)
            rw [q1] at f1; cases f1
            rw [q2] at f5; cases f5
            subst f8 f4
            exact ok_fl g1 w1 _ (((rr.mono s1).set i h1).set j h2)
        · exact w1.elim
      · exact w1.elim
    · exact PS.weak PS.any fun D σ H h => hz (ts_if h).1
  · by_cases hm3 : ∃ x px y py z pz a b c, ts = [.Name x px, .Name y py, .Name z pz] ∧ vs = [a, b, c]
    · obtain ⟨x, px, y, py, z, pz, a, b, c, rfl, rfl⟩ := hm3
      by_cases hz : (G.N.idxOf x ≠ G.N.idxOf y ∧ G.N.idxOf x ≠ G.N.idxOf z ∧ G.N.idxOf y ≠ G.N.idxOf z) ∧ (G.sc.names.lookup x = some .local ∧ G.sc.names.lookup y = some .local ∧ G.sc.names.lookup z = some .local) ∧ noStar [a, b, c] = true ∧ (canN G x = true ∧ canN G y = true ∧ canN G z = true) ∧ swNames G.sc (([Expr.Name x px, .Name y py, .Name z pz].head?.map (·.pos.line)).getD 0) [.Name x px, .Name y py, .Name z pz] = [x, y, z]
      · refine PS.weak (?_ : PS X _ (TSof W Z fun ρ => withX ρ (aD r G [a, b, c] ρ) (fun ds => store3 G x y z ds ρ))) fun D σ H h => (ts_if h).2
        obtain ⟨⟨n1, n2, n3⟩, ⟨hx, hy, hz'⟩, hs, ⟨c1, c2, c3⟩, hnames⟩ := hz
        obtain ⟨i, q1, e1, _⟩ := canN_ix c1
        obtain ⟨j, q2, e2, _⟩ := canN_ix c2
        obtain ⟨l, q3, e3, _⟩ := canN_ix c3
        have hw := (swap_kind (env := X.env) ok.e.sc ok.kind [.Name x px, .Name y py, .Name z pz] [a, b, c] k k2 p p2).2 hk
        rw [hnames] at hw
        refine PS.weak (ps_par3 (ok.e.calm h4) ok.e.nd (by rw [ok.e.N]; exact Ctx.ix_at q1) (by rw [ok.e.N]; exact Ctx.ix_at q2) (by rw [ok.e.N]; exact Ctx.ix_at q3) (by rw [e1, e2]; exact n1) (by rw [e1, e3]; exact n2) (by rw [e2, e3]; exact n3) (by rw [ok.e.sc]; exact hx) (by rw [ok.e.sc]; exact hy) (by rw [ok.e.sc]; exact hz') (pa_D R ok.e hs) hw rfl) fun D σ H h => ?_
        obtain ⟨ρ, m, ee, g, rr, w⟩ := h
        refine ⟨ρ, m, ee, g, rr, (withX_wp rr w).mono (fun _ _ _ _ z => z) fun ds m1 s1 g1 w1 vs hvs => ?_⟩
        unfold store3 at w1
        split at w1
        · rename_i d1 d2 d3
          obtain ⟨v1, vr, rfl, h1, hr⟩ : ∃ v vr, vs = v :: vr ∧ Den W m1 d1 v ∧ DenL W m1 [d2, d3] vr := by cases hvs with | cons p q => exact ⟨_, _, rfl, p, q⟩
          obtain ⟨v2, v3, rfl, h2, h3⟩ := dl2 hr
          refine ⟨v1, v2, v3, rfl, ?_⟩
          split at w1
          · rename_i ρ' e4
            cases g1' : gN G x d1 ρ with
            | none => rw [g1'] at e4; cases e4
            | some ρ1 =>
              rw [g1'] at e4
              replace e4 : ((gN G y d2 ρ1).bind fun ρ2 => gN G z d3 ρ2) = some ρ' := e4
              cases g2' : gN G y d2 ρ1 with
              | none => rw [g2'] at e4; cases e4
              | some ρ2 =>
                rw [g2'] at e4
                obtain ⟨i', f1, _, _, f4⟩ := gN_ix g1'
                obtain ⟨j', f5, _, _, f8⟩ := gN_ix g2'
                obtain ⟨l', f9, _, _, f12⟩ := gN_ix (show gN G z d3 ρ2 = some ρ' from e4)
                rw [q1] at f1; cases f1
                rw [q2] at f5; cases f5
                rw [q3] at f9; cases f9
                subst f12 f8 f4
                exact ok_fl g1 w1 _ ((((rr.mono s1).set i h1).set j h2).set l h3)
          · exact w1.elim
        · exact w1.elim
      · exact PS.weak PS.any fun D σ H h => hz (ts_if h).1
    · refine none_of fun ρ => ?_
      unfold swapD
      split
      · exact absurd ⟨_, _, _, _, _, _, rfl, rfl⟩ hm
      · exact absurd ⟨_, _, _, _, _, _, _, _, _, rfl, rfl⟩ hm3
      · rfl
theorem ps_asgT (R : EnOk W r) (ok : SOk W X Z G) (h4 : G.hot = false) (ts : List Expr) (k : Nat) (p : Pos) (e : Expr) (pos : Pos) : PS X (.Assign [.Tuple ts k p] e pos) (TSof W Z (asgT r G (.Tuple ts k p) ts e)) := by
  have fin : ∀ {f : Sl → M Pu.D} {D σ H}, TSof W Z (fun ρ => withX ρ (f ρ) (fun d => storeT G (.Tuple ts k p) d ρ)) D σ H → tAsg (TEof W Z f) (TGp W (gslots G (.Tuple ts k p)) (gD G (.Tuple ts k p))) D σ H := by
    rintro f D σ H ⟨ρ, m, ee, g, rr, w⟩
    exact ⟨ρ, m, ee, g, rr, (withX_wp rr w).mono (fun _ _ _ _ z => z) fun d m1 s1 g1 w1 v hv => storeT_out g1 (rr.mono s1) hv w1⟩
  have plain : isComp e = false → swappedStores [.Tuple ts k p] e X.env = pure none → PS X (.Assign [.Tuple ts k p] e pos) (tAsg (TEof W Z (r.e G e)) (TGp W (gslots G (.Tuple ts k p)) (gD G (.Tuple ts k p)))) := fun hc hw =>
    ps_asg (R.e ok.e e) (pg_gD ok.e (ok.e.calm h4) (.Tuple ts k p)) (show swapsWith e (some (.Tuple ts k p)) pos.line X.env = pure false from noswap hc _ _ _) hw rfl
  cases e with
  | Tuple vs k2 p2 =>
    by_cases h0 : swKind G.sc ts vs = 0
    · refine PS.weak (plain rfl ((swap_kind ok.e.sc ok.kind ts vs k k2 p p2).1 h0)) fun D σ H h => fin ?_
      obtain ⟨ρ, m, ee, g, rr, w⟩ := h
      unfold asgT at w
      simp only [h0, ↓reduceIte] at w
      exact ⟨ρ, m, ee, g, rr, w⟩
    · by_cases h1 : swKind G.sc ts vs = 1
      · refine PS.weak (ps_swapD R ok h4 ts vs k k2 p p2 pos h1) fun D σ H h => ?_
        obtain ⟨ρ, m, ee, g, rr, w⟩ := h
        unfold asgT at w
        simp only [h1, ↓reduceIte, Nat.one_ne_zero] at w
        exact ⟨ρ, m, ee, g, rr, w⟩
      · refine PS.weak PS.any fun D σ H h => ?_
        obtain ⟨ρ, m, ee, g, rr, w⟩ := h
        unfold asgT at w
        simp only [h0, h1, ↓reduceIte] at w
        exact w
  | ListComp _ _ _ _ => exact PS.weak PS.any fun D σ H h => ts_none (f := fun _ => stuck) (fun _ => rfl) h
  | SetComp _ _ _ _ => exact PS.weak PS.any fun D σ H h => ts_none (f := fun _ => stuck) (fun _ => rfl) h
  | DictComp _ _ _ _ _ => exact PS.weak PS.any fun D σ H h => ts_none (f := fun _ => stuck) (fun _ => rfl) h
  | _ => exact PS.weak (plain rfl rfl) fun D σ H h => fin h
/-! ### o[i] = v, o a cell -/
theorem set_D {m : Mem} {o i v : Pu.D} {x y z : V} {Qh : Hp → Prop} {E : Ex → Mem → Prop} (g : Okm W m) (ho : Den W m o x) (hi : Den W m i y) (hv : Den W m v z) (w : wpR W m E (fun _ m' => Qh m'.H) (setD o i v m.μ)) : rSetL x y z m.H Qh := by
  unfold setD at w
  split at w
  · rename_i c k
    split at w
    · rename_i xs e1
      split at w
      · rename_i j e2
        cases den_int hi
        cases ho with
        | @cell _ a h1 =>
          obtain ⟨vs, h2, l⟩ := g.ok c _ a e1 h1
          have lv : m.live a := .inl ⟨c, _, h1, e1, fun z => nomatch z⟩
          refine ⟨a, vs, k, j, rfl, rfl, h2, by rw [← l.length]; exact e2, ?_⟩
          have st : Step m (m.wr c a (.lst (vs.set j z)) (.lst (xs.set j v))) := step_wr g h1 lv
          exact w (m.wr c a (.lst (vs.set j z)) (.lst (xs.set j v))) st (good_wr g h1 lv ⟨_, upd_same, (l.set hv j).mono st⟩) rfl
      · exact w.elim
    · exact w.elim
  · exact w.elim
theorem ps_asgS (R : EnOk W r) (ok : EOk W X Z G) (o i : Expr) (p : Pos) (e : Expr) (pos : Pos) (hc : isComp e = false) (hs : isSlice i = false) :
    PS X (.Assign [.Subscript o i p] e pos) (TSof W Z fun ρ => withX ρ (do let v ← r.e G e ρ; let x ← r.e G o ρ; let k ← r.e G i ρ; setD x k v) (fun _ => yes (.next ρ))) := by
  have ha : ∀ v, assign (.Subscript o i p) X.env v = (do
      let ov ← holding [v] (eval o X.env)
      let iv ← holding [v, ov] (eval i X.env)
      standAt p
      holding [v, ov, iv] (setItem ov iv v)
      release [v, ov, iv] []) := by
    intro v
    cases i <;> first | rfl | cases hs
  have hw : swappedStores [.Subscript o i p] e X.env = pure none := by cases e <;> rfl
  refine PS.weak (ps_asg (R.e ok e) (pg_sub (R.e ok o) (R.e ok i) set_list ha) (show swapsWith e (some (.Subscript o i p)) pos.line X.env = pure false from noswap hc _ _ _) hw rfl) fun D σ H h => ?_
  obtain ⟨ρ, m, ee, g, rr, w⟩ := h
  have w0 := withX_wp rr w
  refine ⟨ρ, m, ee, g, rr, (wpR_bind w0).mono (fun _ _ _ _ z => z) fun v m1 s1 g1 w1 zv hzv => ?_⟩
  refine ⟨ρ, m1, rfl, g1, rr.mono s1, (wpR_bind w1).mono (fun _ _ _ _ z => z) fun x m2 s2 g2 w2 xv hxv => ?_⟩
  refine ⟨ρ, m2, rfl, g2, (rr.mono s1).mono s2, (wpR_bind w2).mono (fun _ _ _ _ z => z) fun k m3 s3 g3 w3 kv hkv => ?_⟩
  have r3 := ((rr.mono s1).mono s2).mono s3
  exact set_D g3 (hxv.mono s3) hkv ((hzv.mono s2).mono s3) (w3.mono (fun _ _ _ _ z => z) fun _ m4 s4 g4 w4 => ok_fl g4 w4 σ (r3.mono s4))
/-! ### o.f = v, o a cell -/
theorem denF_put {m : Mem} {f : Str} {d : Pu.D} {v : V} (hv : Den W m d v) : ∀ {fs : List (Str × Pu.D)} {fv : List (Str × V)}, DenF W m fs fv → DenF W m (putFD f d fs) (putF f v fv)
  | _, _, .nil => .cons hv .nil
  | _, _, .cons (k := k) h t => by
    unfold putFD putF
    by_cases e : k = f
    · rw [if_pos e, if_pos e]
      exact .cons hv t
    · rw [if_neg e, if_neg e]
      exact .cons h (denF_put hv t)
theorem denF_len {m : Mem} : ∀ {fs : List (Str × Pu.D)} {fv : List (Str × V)}, DenF W m fs fv → fs.length = fv.length
  | _, _, .nil => rfl
  | _, _, .cons _ t => congrArg (· + 1) (denF_len t)
theorem DenF.mono' {m m' : Mem} (s : Step m m') {fs : List (Str × Pu.D)} {fv : List (Str × V)} (h : DenF W m fs fv) : DenF W m' fs fv := DenF.up s.up h
theorem ps_asgF (R : EnOk W r) (ok : EOk W X Z G) (o : Expr) (f : Str) (p : Pos) (e : Expr) (pos : Pos) (hc : isComp e = false) :
    PS X (.Assign [.Attribute o f p] e pos) (TSof W Z fun ρ => withX ρ (do let v ← r.e G e ρ; let x ← r.e G o ρ; fldD G f x v) (fun _ => yes (.next ρ))) := by
  refine PS.weak (ps_fld (R.e ok o) (R.e ok e) (noswap hc _ _ _)) fun D σ H h => ?_
  obtain ⟨ρ, m, ee, g, rr, w⟩ := h
  have w0 := withX_wp rr w
  refine ⟨ρ, m, ee, g, rr, (wpR_bind w0).mono (fun _ _ _ _ z => z) fun v m1 s1 g1 w1 zv hzv => ?_⟩
  refine ⟨ρ, m1, rfl, g1, rr.mono s1, (wpR_bind w1).mono (fun _ _ _ _ z => z) fun x m2 s2 g2 w2 xv hxv => ?_⟩
  unfold fldD at w2
  split at w2
  · rename_i c
    split at w2
    · rename_i C fs e1
      by_cases hz : G.fld C f = true ∧ fs.length < 1000
      · rw [if_pos hz] at w2
        cases hxv with
        | @cell _ a h1 =>
          obtain ⟨dx, fv, h2, h3⟩ := g2.ok c _ a e1 h1
          have lv : m2.live a := .inl ⟨c, _, h1, e1, fun z => nomatch z⟩
          obtain ⟨k1, k2⟩ := ok.g.ob.fld C f hz.1
          rw [← ok.K] at k1 k2
          have st : Step m2 (m2.wr c a (.ins (W.ca C) dx (putF f zv fv)) (.obj C (putFD f v fs))) := step_wr g2 h1 lv
          refine ⟨a, _, dx, fv, rfl, h2, k1, k2, by rw [← denF_len h3]; exact hz.2, ?_⟩
          have r2 := ((rr.mono s1).mono s2).mono st
          have gg : Okm W (m2.wr c a (.ins (W.ca C) dx (putF f zv fv)) (.obj C (putFD f v fs))) := good_wr g2 h1 lv ⟨dx, _, upd_same, (denF_put (hzv.mono s2) h3).mono' st⟩
          exact ok_fl gg (w2 (m2.wr c a (.ins (W.ca C) dx (putF f zv fv)) (.obj C (putFD f v fs))) st gg rfl) σ r2
      · rw [if_neg hz] at w2
        exact w2.elim
    · exact w2.elim
  · exact w2.elim
/-! ### for -/
theorem ps_forD (R : DnOk W r) (ok : SOk W X Z G) (tg iter : Expr) (body : List Stmt) (pos : Pos) : PS X (.For tg iter body [] pos) (TSof W Z (forD r G tg iter body)) := by
  by_cases hz : G.hot = false ∧ notSet iter = true
  · obtain ⟨h4, hn⟩ := hz
    have hs : ∀ x, foldedSetIterable iter X.env x = pure x := by
      intro x
      unfold foldedSetIterable
      cases iter <;> first | rfl | cases hn
    refine PS.weak (ps_for ok.pass (ok.e.calm h4) (pi_D R.en ok.e tg iter) (pg_gD ok.e (ok.e.calm h4) tg) (R.s ok body) hs) fun D σ H h => ?_
    obtain ⟨ρ, m, ee, g, rr, w⟩ := (ts_if h).2
    refine ⟨ρ, m, ee, g, rr, (withX_wp rr w).mono (fun _ _ _ _ z => z) fun ds m1 s1 g1 w1 J itm => ?_⟩
    let Iv : Nat → St → Hp → Prop := fun i σ' H' => ∃ mm ρ', mm.H = H' ∧ Okm W mm ∧ Step m1 mm ∧ EnvOk W mm ρ' σ' ∧ wpR W mm (fun _ _ => False) (FlOk W Z D) (loopD G tg (r.s G body) (ds.drop i) ρ' mm.μ)
    refine ⟨fun i k σ' H' => k = ds.length - i ∧ i ≤ ds.length ∧ Iv i σ' H', ⟨ds.length, by simp, Nat.zero_le _, m1, ρ, rfl, g1, Step.refl m1, rr.mono s1, w1⟩, ?_⟩
    rintro i k σ' H' ⟨rfl, hi, mm, ρ', rfl, gm, sm, rm, wm⟩
    by_cases hlt : i < ds.length
    · refine .inr ⟨itm.go i mm sm.up gm hlt, Iv (i + 1), fun σ2 H2 z => ⟨ds.length - (i + 1), by omega, rfl, hlt, z⟩, fun x H2 y => ?_⟩
      obtain ⟨m2, d, rfl, s2, g2, e2, _, e3, hd⟩ := itm.yld i mm x H2 sm.up gm hlt y
      have hdrop : ds.drop i = d :: ds.drop (i + 1) := by
        obtain ⟨hi', he⟩ := List.getElem?_eq_some_iff.mp e3
        rw [← he]
        exact List.drop_eq_getElem_cons hi'
      rw [hdrop] at wm
      unfold loopD at wm
      cases q1 : gD G tg d ρ' with
      | none => rw [q1] at wm; exact (show False from wm).elim
      | some ρ1 =>
        rw [q1] at wm
        refine ⟨ρ', m2, d, ρ1, rfl, g2, rm.mono s2, hd, q1, fun σ2 r2 _ => ?_⟩
        refine ⟨ρ1, m2, rfl, g2, r2, ?_⟩
        have wm2 := (wpR_bind wm).behind s2
        rw [← e2] at wm2
        refine wm2.mono (fun _ _ _ _ z => z) fun fl m3 s3 g3 w3 => ?_
        have sm3 : Step m1 m3 := (sm.trans s2).trans s3
        cases fl with
        | next ρ2 => exact fun σ3 r3 => ⟨m3, ρ2, rfl, g3, sm3, r3, w3⟩
        | cont ρ2 => exact fun σ3 r3 => ⟨m3, ρ2, rfl, g3, sm3, r3, w3⟩
        | brk ρ2 => exact ok_fl g3 w3
        | ret d2 => exact ok_fl g3 w3
        | exc e ρ2 => exact ok_fl g3 w3
    · have ei : i = ds.length := by omega
      subst ei
      refine .inl ⟨itm.stop mm sm.up gm, ?_⟩
      rw [List.drop_length] at wm
      exact ok_fl gm wm σ' rm
  · exact PS.weak PS.any fun D σ H h => hz (ts_if h).1
theorem ps_whD (R : DnOk W r) (ok : SOk W X Z G) (c : Expr) (body : List Stmt) (pos : Pos) : PS X (.While c body [] pos) (TSof W Z (whD r G c body 1000000)) := by
  refine PS.weak (ps_while ok.pass (R.en.t ok.e c) (R.s ok body)) fun D σ H h => ?_
  refine ⟨fun n σ' H' => TSof W Z (whD r G c body n) D σ' H', ⟨_, h⟩, fun n σ1 H1 h1 => ?_⟩
  obtain ⟨ρ, m, ee, g, rr, w⟩ := h1
  cases n with
  | zero => exact (show False from w).elim
  | succ n =>
    unfold whD at w
    refine ⟨ρ, m, ee, g, rr, (withX_wp rr w).mono (fun _ _ _ _ z => z) fun k m1 s1 g1 w1 => ?_⟩
    cases k with
    | false =>
      show (if false = true then _ else _)
      rw [if_neg Bool.false_ne_true]
      exact ok_fl g1 w1 σ1 (rr.mono s1)
    | true =>
      show (if true = true then _ else _)
      rw [if_pos rfl]
      refine ⟨fun σ' H' => TSof W Z (whD r G c body n) D σ' H', fun σ' H' z => ⟨n, Nat.lt_succ_self n, z⟩, ρ, m1, rfl, g1, rr.mono s1, (wpR_bind w1).mono (fun _ _ _ _ z => z) fun fl m2 s2 g2 w2 => ?_⟩
      cases fl with
      | next ρ' => exact fun σ3 r3 => ⟨ρ', m2, rfl, g2, r3, w2⟩
      | cont ρ' => exact fun σ3 r3 => ⟨ρ', m2, rfl, g2, r3, w2⟩
      | brk ρ' => exact ok_fl g2 w2
      | ret d => exact ok_fl g2 w2
      | exc e ρ' => exact ok_fl g2 w2
/-! ### raise, try -/
theorem ps_raiseD (ok : SOk W X Z G) (e : Option Expr) (pos : Pos) : PS X (.Raise e none pos) (TSof W Z (raiseD G e)) := by
  by_cases hm : ∃ x p s j p2 p3, e = some (.Call (.Name x p) [.Constant (.str s) j p2] [] p3)
  · obtain ⟨x, p, s, j, p2, p3, rfl⟩ := hm
    by_cases hz : G.xc x = true ∧ G.hot = false ∧ okName x = true ∧ glB G.sc x = true
    · obtain ⟨h1, h2, h3, h4⟩ := id hz
      obtain ⟨c1, c2, c3, c4, c5⟩ := ok.e.g.xc x h1
      rw [← ok.e.K] at c2 c3 c4 c5
      refine PS.weak (ps_raise (ok.e.calm h2) ok.e.tk (pmk_own PySem.F.excBase_ValueError c3 c1 c2 (raises_own c4 c5) (gl_of ok.e h4) (okName_1 h3))) fun D σ H h => ?_
      obtain ⟨ρ, m, ee, g, rr, w⟩ := (ts_if h).2
      subst ee
      exact ok_fl g w σ _ _ rr ⟨rfl, .inl ⟨rfl, rfl⟩⟩
    · exact PS.weak PS.any fun D σ H h => hz (ts_if h).1
  · refine PS.weak PS.any fun D σ H h => ts_none (f := raiseD G e) (fun ρ => ?_) h
    unfold raiseD
    split
    · exact absurd ⟨_, _, _, _, _, _, rfl⟩ hm
    · rfl
theorem sok_tr (ok : SOk W X Z G) {V : WX} {pn : List (Addr × Obj)} {xe : Value → Shared → Prop} (tk : Takes (X.tr pn xe) V) (ps : PassesOwn (model X.prog X.w) X.A X.env xe) : SOk W (X.tr pn xe) V G :=
  ⟨⟨ok.e.K, ok.e.N, ok.e.nd, ok.e.sc, ok.e.own, tk, ok.e.calm, ok.e.room, ok.e.un, ok.e.gd, ok.e.g⟩, ps, ok.stk, ok.frm, ok.kind⟩
theorem sok_suite (ok : SOk W X Z G) (a : Addr) (pn : List (Addr × Obj)) : SOk W (X.suite a pn) (fun _ _ _ _ => False) (hotG G) :=
  ⟨⟨ok.e.K, ok.e.N, ok.e.nd, ok.e.sc, ok.e.own, takes0, (fun z => nomatch z), (fun z => nomatch z), ok.e.un, ok.e.gd, ⟨ok.e.g.glob, ok.e.g.bl, ok.e.g.fn, ok.e.g.xc, ok.e.g.cat, ⟨ok.e.g.ob.fld, ok.e.g.ob.meth, ok.e.g.ob.make, ok.e.g.ob.dun, ok.e.g.ob.prop, ok.e.g.ob.ne, ok.e.g.ob.cmeth, ok.e.g.ob.cls, ok.e.g.ob.sub⟩⟩⟩, PassesOwn.never, ok.stk, ok.frm, ok.kind⟩
end
end Pu

set_option Elab.async false
set_option linter.all false
set_option maxRecDepth 100000
/-! Pu13: try; every statement; the den at every fuel. -/
namespace Pu
open PySem L2
section
variable {W : Wd} {Z : WX} {X : Cx} {G : Ctx} {σ : St} {H : Hp} {D : Ends} {r : Dn}
theorem noF_wp {m : Mem} {x : M Fl} (w : wpR W m (fun _ _ => False) (FlOk W Z D) (noF x m.μ)) : wpR W m (fun _ _ => False) (FlOk W (fun _ _ _ _ => False) D) (x m.μ) := by
  unfold noF at w
  cases q : x m.μ with
  | stuck => rw [q] at w; exact w
  | exc e μ' => rw [q] at w; exact w
  | ok fl μ' =>
    rw [q] at w
    cases fl with
    | exc e ρ => exact (show False from w).elim
    | next ρ => exact w
    | brk ρ => exact w
    | cont ρ => exact w
    | ret d => exact w
theorem ps_tryD (R : DnOk W r) (ok : SOk W X Z G) (body : List Stmt) (hs : List ExceptHandler) (pos : Pos) : PS X (.Try body hs [] [] pos) (TSof W Z (tryD r G body hs)) := by
  by_cases hm : ∃ c np b0 suite p2, hs = [.ExceptHandler (some (.Name c np)) none (b0 :: suite) p2]
  · obtain ⟨c, np, b0, suite, p2, rfl⟩ := hm
    by_cases hz : okName c = true ∧ glB G.sc c = true ∧ G.hot = false ∧ (G.cat c c).isSome = true
    · obtain ⟨h1, h2, h3, h4⟩ := id hz
      obtain ⟨b, hb⟩ := Option.isSome_iff_exists.mp h4
      have hmg := (ok.e.g.cat c c b hb).1
      have nm : Names X c (.ref (W.ca c)) := ⟨gl_of ok.e h2, okName_1 h1, .inl hmg⟩
      refine PS.weak (ps_try_only (tb := fun V => TSof W V (r.s G body)) (ts := fun _ _ _ => TSof W (fun _ _ _ _ => False) (r.s (hotG G) (b0 :: suite))) ok.stk ok.frm nm ok.e.tk (fun V pn xe tk ps => R.s (sok_tr ok tk ps) body) (fun a oe cls d pn _ _ => R.s (sok_suite ok a _) _)) fun D σ H h => ?_
      obtain ⟨ρ, m, ee, g, rr, w⟩ := (ts_if h).2
      refine ⟨ρ, m, ee, g, rr, ?_⟩
      replace w : wpR W m (fun _ _ => False) (FlOk W Z D) (catchD (r.s G body ρ) (catK r G c (b0 :: suite)) m.μ) := w
      unfold catchD at w
      cases q : r.s G body ρ m.μ with
      | stuck => rw [q] at w; exact w
      | exc e μ' => rw [q] at w; exact w
      | ok fl μ' =>
        rw [q] at w
        cases fl with
        | next ρ => exact w
        | brk ρ => exact w
        | cont ρ => exact w
        | ret d => exact w
        | exc e ρ' =>
          intro m1 s1 g1 e1 σ' cls dx r1 hx
          subst e1
          replace w : wpR W m (fun _ _ => False) (FlOk W Z D) (catK r G c (b0 :: suite) e ρ' m1.μ) := w
          unfold catK at w
          have hcls := hx.1
          cases qc : G.cat c e.cls with
          | none => rw [qc] at w; exact (show False from w).elim
          | some b =>
            have hex := (ok.e.g.cat c e.cls b qc).2
            rw [← hcls, ← ok.e.K] at hex
            cases b with
            | true =>
              rw [qc] at w
              exact ⟨true, hex, fun _ a _ => ⟨ρ', m1, rfl, g1, r1, noF_wp (w.behind s1)⟩, fun z => nomatch z⟩
            | false =>
              rw [qc] at w
              exact ⟨false, hex, (fun z => nomatch z), fun _ => w m1 s1 g1 rfl σ' cls dx r1 hx⟩
    · exact PS.weak PS.any fun D σ H h => hz (ts_if h).1
  · refine PS.weak PS.any fun D σ H h => ts_none (f := tryD r G body hs) (fun ρ => ?_) h
    unfold tryD
    split
    · exact absurd ⟨_, _, _, _, _, rfl⟩ hm
    · rfl
theorem ps_asgD (R : EnOk W r) (ok : SOk W X Z G) (tg e : Expr) (pos : Pos) : PS X (.Assign [tg] e pos) (TSof W Z (asgD r G tg e)) := by
  cases tg with
  | Name x p => exact ps_asgN R ok.e x p e pos
  | Tuple ts k p =>
    by_cases h4 : G.hot = false
    · exact PS.weak (ps_asgT R ok h4 ts k p e pos) fun D σ H h => (ts_if h).2
    · exact PS.weak PS.any fun D σ H h => h4 (ts_if h).1
  | Attribute o f p =>
    by_cases hz : isComp e = false
    · exact PS.weak (ps_asgF R ok.e o f p e pos hz) fun D σ H h => (ts_if h).2
    · exact PS.weak PS.any fun D σ H h => hz (ts_if h).1
  | Subscript o i p =>
    by_cases hz : isComp e = false ∧ isSlice i = false
    · exact PS.weak (ps_asgS R ok.e o i p e pos hz.1 hz.2) fun D σ H h => (ts_if h).2
    · exact PS.weak PS.any fun D σ H h => hz (ts_if h).1
  | _ => exact PS.weak PS.any fun D σ H h => ts_none (f := fun _ => stuck) (fun _ => rfl) h
theorem ps_stmD (R : DnOk W r) (ok : SOk W X Z G) (st : Stmt) : PS X st (TSof W Z (stmD r G st)) := by
  have none_of : (∀ ρ, stmD r G st ρ = stuck) → PS X st (TSof W Z (stmD r G st)) := fun z => PS.weak PS.any fun D σ H h => ts_none z h
  have nx : ∀ {D : Ends} {σ : St} {H : Hp} {k : Sl → Fl}, TSof W Z (fun ρ => yes (k ρ)) D σ H → ∃ ρ m, m.H = H ∧ EnvOk W m ρ σ ∧ FlOk W Z D (k ρ) m := fun ⟨ρ, m, ee, g, rr, w⟩ => ⟨ρ, m, ee, rr, ok_fl g w⟩
  cases st with
  | Pass p => exact PS.weak ps_pass fun D σ H h => by obtain ⟨ρ, m, rfl, rr, q⟩ := nx (k := .next) h; exact q σ rr
  | Break p => exact PS.weak ps_break fun D σ H h => by obtain ⟨ρ, m, rfl, rr, q⟩ := nx (k := .brk) h; exact q σ rr
  | Continue p => exact PS.weak ps_continue fun D σ H h => by obtain ⟨ρ, m, rfl, rr, q⟩ := nx (k := .cont) h; exact q σ rr
  | Expr e p => exact ps_expD R.en ok.e e p
  | Return o p =>
    cases o with
    | some e => exact ps_retD R.en ok.e e p
    | none => exact PS.weak ps_retN fun D σ H h => by obtain ⟨ρ, m, rfl, rr, q⟩ := nx (k := fun _ => .ret .non) h; exact q _ .non
  | If c a b p => exact ps_ifD R ok c a b p
  | Assign ts e p =>
    match ts with
    | [tg] => exact ps_asgD R.en ok tg e p
    | [] => exact none_of fun _ => rfl
    | _ :: _ :: _ => exact none_of fun _ => rfl
  | For tg iter body els p =>
    match els with
    | [] => exact ps_forD R ok tg iter body p
    | _ :: _ => exact none_of fun _ => rfl
  | While c body els p =>
    match els with
    | [] => exact ps_whD R ok c body p
    | _ :: _ => exact none_of fun _ => rfl
  | Raise e c p =>
    match c with
    | none => exact ps_raiseD ok e p
    | some _ => exact none_of fun _ => rfl
  | Try body hs els fin p =>
    match els, fin with
    | [], [] => exact ps_tryD R ok body hs p
    | _ :: _, _ => exact none_of fun _ => rfl
    | [], _ :: _ => exact none_of fun _ => rfl
  | _ => exact none_of fun _ => rfl
theorem pss_D (R : DnOk W r) (ok : SOk W X Z G) : ∀ ss : List Stmt, PSs X ss (TSof W Z (sD r G ss))
  | [] => PSs.weak pss_nil fun D σ H h => by
    obtain ⟨ρ, m, rfl, g, rr, w⟩ := h
    exact ok_fl g w σ rr
  | st :: rest => PSs.weak (pss_cons (ps_stmD R ok st) (pss_D R ok rest)) fun D σ H h => by
    obtain ⟨ρ, m, rfl, g, rr, w⟩ := h
    unfold sD at w
    refine ⟨ρ, m, rfl, g, rr, (wpR_bind w).mono (fun _ _ _ _ z => z) fun fl m1 s1 g1 w1 => ?_⟩
    cases fl with
    | next ρ' => exact fun σ' r' => ⟨ρ', m1, rfl, g1, r', w1⟩
    | brk ρ' => exact ok_fl (D := D) g1 w1
    | cont ρ' => exact ok_fl (D := D) g1 w1
    | ret d => exact ok_fl (D := D) g1 w1
    | exc e ρ' => exact ok_fl (D := D) g1 w1
end
theorem step_ok {W : Wd} {r : Dn} (R : DnOk W r) : DnOk W (stepD r) :=
  ⟨⟨fun ok e => pe_stepE5 R.en ok e, fun ok e => pt_stepT R.en ok e⟩, fun ok ss => pss_D R ok ss⟩
theorem den_ok (W : Wd) : ∀ n, DnOk W (den n)
  | 0 => ⟨⟨fun ok e => PE.weak PE.any fun σ H Q h => te_none (f := fun _ => stuck) (fun _ => rfl) h, fun ok e => PT.weak PT.any fun σ H Q h => by obtain ⟨_, _, _, _, _, w⟩ := h; exact w⟩, fun ok ss => PSs.weak PSs.any fun D σ H h => ts_none (f := fun _ => stuck) (fun _ => rfl) h⟩
  | n + 1 => step_ok (den_ok W n)
end Pu

set_option Elab.async false
set_option linter.all false
set_option maxRecDepth 100000
/-! Pu14: a def's promise by the den of its body; the law's end. -/
namespace Pu
open PySem PySem.Spec PyProof.Rows L2
def endD (x : M Fl) : M D := fun μ => match x μ with
  | .ok (.next _) μ' => .ok .non μ'
  | .ok (.ret d) μ' => .ok d μ'
  | .ok (.exc e _) μ' => .exc e μ'
  | .ok (.brk _) _ => .stuck
  | .ok (.cont _) _ => .stuck
  | .exc e μ' => .stuck
  | .stuck => .stuck
def begin (N : List Str) (ds : List D) : Sl := ds.map some ++ List.replicate (N.length - ds.length) none
def defD (n : Nat) (G : Ctx) (body : List Stmt) (ds : List D) : M D := endD ((den n).s G body (begin G.N ds))
theorem denL_get {W : Wd} {m : Mem} : ∀ {ds : List D} {vs : List V}, DenL W m ds vs → ∀ (i : Nat) (d : D), ds[i]? = some d → ∃ v, vs[i]? = some v ∧ Den W m d v
  | _, _, .nil, i, d, h => by simp at h
  | _, _, .cons h t, 0, d, e => by cases e; exact ⟨_, rfl, h⟩
  | _, _, .cons h t, i + 1, d, e => denL_get t i d e
theorem begin_ok {W : Wd} {m : Mem} {N : List Str} {ds : List D} {vs : List V} (h : DenL W m ds vs) : EnvOk W m (begin N ds) (L2.start N vs) := by
  have l := h.length
  refine ⟨by simp [begin, L2.start, l], fun i d q => ?_⟩
  unfold begin at q
  unfold L2.start
  by_cases hi : i < ds.length
  · rw [List.getElem?_append_left (by simpa using hi), List.getElem?_map] at q
    rw [List.getElem?_append_left (by simpa [← l] using hi), List.getElem?_map]
    cases e : ds[i]? with
    | none => rw [e] at q; cases q
    | some d' =>
      rw [e] at q
      cases q
      obtain ⟨v, e1, e2⟩ := denL_get h i _ e
      exact ⟨v, by rw [e1]; rfl, e2⟩
  · rw [List.getElem?_append_right (by simpa using hi), List.getElem?_replicate] at q
    split at q <;> cases q
/-- THE DEF: its promise is its den's -/
theorem fn_den {P : Program} {w : World} {W : Wd} {mg : Str → Option Value} {base : Heap} {x qual : Str} {st : Stmt} {f : Addr} {fd : FuncData} {ps : List Str} {G : Ctx} (n : Nat)
    (F : Fun W.K x qual st f fd) (S : FnScope G.N ps (defScope st)) (hsc : G.sc = defScope st) (hown : G.own = fun _ => true) (hot : G.hot = false) (g : GOk P w mg base W G) :
    FnG P w W.K mg base (G.k + 1) f fd ps (spOf W ps.length (defD n G (defBody st))) := by
  refine fnG_of F S (fun vs H Q E h => h.1) fun cdv A out s H vs Q E room gd h => ?_
  obtain ⟨hl, ds, m, rfl, gm, hd, wp⟩ := h
  have un : (A.deeper (PyProof.Rows.envOfC qual (defScope st) s.heap.objs.size f cdv)).units + 64 < cLine := by have := room.un; omega
  have ok : SOk W (cxOf (L2.CX P w) P w W.K mg base G.N qual (defScope st) f cdv A out s m.H E) (fun cls d _ H => E cls d H) G :=
    ⟨⟨rfl, rfl, S.nd, hsc.symm, hown.symm, takes_of rfl rfl rfl rfl, (fun _ => rfl), (fun _ => room), un, gd, g⟩, passes_of rfl, rfl, rfl, by rw [hsc]; exact S.kind⟩
  refine ⟨_, (den_ok W n).s ok (defBody st), begin G.N ds, m, rfl, gm, begin_ok hd, ?_⟩
  unfold defD endD at wp
  cases q : (den n).s G (defBody st) (begin G.N ds) m.μ with
  | stuck => rw [q] at wp; exact wp
  | exc e μ' => rw [q] at wp; exact (show False from wp).elim
  | ok fl μ' =>
    rw [q] at wp
    cases fl with
    | next ρ => exact fun m1 s1 g1 e1 σ _ => wp m1 s1 g1 e1 _ .non
    | ret d => exact fun m1 s1 g1 e1 v hv => wp m1 s1 g1 e1 v hv
    | exc e ρ => exact fun m1 s1 g1 e1 σ cls dx _ hx => wp m1 s1 g1 e1 cls dx hx
    | brk ρ => exact (show False from wp).elim
    | cont ρ => exact (show False from wp).elim
/-! ### the law's end -/
theorem dens_ints {W : Wd} {m : Mem} : ∀ ns : List Int, DenL W m (ns.map D.int) (ns.map V.int)
  | [] => .nil
  | n :: r => .cons (.int n) (dens_ints r)
theorem law_at {W : Wd} {F : List D → M D} {H : Hp} {a : Addr} {ns : List Int} {μ : Sto} (hS : Rd H a (.lst (ns.map V.int)) ∨ ∀ H', SqL W.K H' a (ns.map V.int)) (h : F [.frz (ns.map D.int)] [] = .ok (.bl true) μ) : spOf W 1 F [.ref a] H (fun v _ => v = .bl true) fun _ _ _ => False := by
  refine ⟨rfl, [.frz (ns.map D.int)], ⟨H, [], [], []⟩, rfl, ⟨rfl, List.nodup_nil, (fun _ z => nomatch z), (fun _ z => nomatch z), fun i o a e => by simp at e⟩, .cons (.frz ?_ (dens_ints ns)) .nil, ?_⟩
  · refine hS.elim (fun z => .inl ⟨z, fun z => ?_⟩) .inr
    rcases z with ⟨i, o, e, _⟩ | z
    · simp at e
    · nomatch z
  · show wpR W _ _ _ (F [.frz (ns.map D.int)] [])
    rw [h]
    intro m1 _ _ _ v hv
    cases hv
    rfl
section
variable {P : Program} {w : World} {W : Wd} {mg mb : Str → Option Value} {k : Nat} {fa a : Addr} {fd : FuncData} {x : Str} {sp : Sp} {s₁ : Shared} {vs : List Value} {ns : List Int}
/-- the call at a heap where at most the script is told -/
theorem law_core {H : Hp} (hin : W.K.In s₁.heap) (hns : s₁.heap.Ns mainGlobals mg) (hb : s₁.heap.Ns builtinsNs mb) (hbb : ∀ x : Str, x ≠ "__name__" → mb x = bootBuiltins x) (hlim : s₁.heap.NoLimit) (hg : s₁.gens = #[])
    (ho : s₁.heap.get? a = some { cls := .type "list", data := .seq vs.toArray }) (room : Room k callerA) (F : ∀ base : Heap, FnG P w W.K mg base k fa fd [x] sp) (bind : ∀ (s : Shared) (u : Value), BindsTo s fd ⟨[u], []⟩ [(x, u)])
    (hH : ∀ b u, H b = some u → b = a ∧ W.K.lookup a = none ∧ ∃ o xs, u = .frz o (.lst xs)) (hok : HOk P w H s₁.heap) (hsp : sp [.ref a] H (fun v _ => v = .bl true) fun _ _ _ => False) :
    codeAny (model P w) callerA (.call (.ref fa) ⟨[.ref a], []⟩) (fun r s' => r = .ok (.ret (.bool true)) ∧ OldK s₁.heap s'.heap ∧ s'.os = s₁.os ∧ AllBare s'.gens) s₁ := by
  have free : ∀ b, b ≠ a → H b = none := fun b n => by
    cases q : H b with
    | none => rfl
    | some u => exact absurd (hH b u q).1 n
  have dicts : ∀ {b : Addr} {g : Str → Option Value}, s₁.heap.Ns b g → (hidT s₁.heap H).Ns b g := by
    rintro b g ⟨o, es, ep, e, d, z⟩
    refine ⟨o, es, ep, hidT_get e (free b fun q => ?_), d, z⟩
    subst q
    rw [ho] at e
    cases e
    exact nomatch (show Data.seq vs.toArray _ = Data.dict es ep from d)
  have kin : W.K.In (hidT s₁.heap H) := fun b o e => by
    refine hidT_get (hin b o e) ?_
    cases q : H b with
    | none => rfl
    | some u =>
      obtain ⟨rfl, q2, _⟩ := hH b u q
      rw [q2] at e
      cases e
  obtain ⟨mc, l1, l2⟩ := hlim
  have e0 : Env0 P w W.K mg (hidT s₁.heap H) callerA [] s₁ H :=
    ⟨rfl, ⟨kin, dicts hns, ⟨mb, dicts hb, hbb⟩, ⟨mc, dicts l1, l2⟩⟩, (fun _ _ e => of_hidT e), Nat.le_of_eq (hidT_size s₁.heap H), trivial, (fun b z => absurd (show b ∈ ([] : List Addr) from z) List.not_mem_nil), hok, .of_eq hg⟩
  refine codeAny_mono ((F (hidT s₁.heap H)).go callerA [] s₁ H ⟨[.ref a], []⟩ [.ref a] [.ref a] _ _ room rfl e0 (bind s₁ (.ref a)) (.cons rfl .nil) hsp) fun res s' c => ?_
  match res, c with
  | .error e, c => obtain ⟨_, _, _, _, _, _, _, _, _, _, _, _, z⟩ := c; exact z.elim
  | .ok .next, c => exact c.elim
  | .ok .brk, c => exact c.elim
  | .ok .cont, c => exact c.elim
  | .ok (.ret u), ⟨v, H', os, bare, un, hok', rv, ev⟩ =>
    cases (show v = .bl true from ev)
    cases (show u = Value.bool true from rv)
    refine ⟨rfl, OldK.of_keep fun b o e => ?_, os, bare⟩
    cases q : H b with
    | none => exact un.keep b o e q (fun z => absurd (show b ∈ ([] : List Addr) from z) List.not_mem_nil) (by simp)
    | some t =>
      obtain ⟨_, _, ob, xs, rfl⟩ := hH b t q
      have e1 := (hok b _ q).1
      rw [e] at e1
      cases e1
      exact (hok' b _ (un.frzs b _ _ q)).1
theorem law_callG (hin : W.K.In s₁.heap) (hns : s₁.heap.Ns mainGlobals mg) (hb : s₁.heap.Ns builtinsNs mb) (hbb : ∀ x : Str, x ≠ "__name__" → mb x = bootBuiltins x) (hlim : s₁.heap.NoLimit) (hg : s₁.gens = #[])
    (ho : s₁.heap.get? a = some { cls := .type "list", data := .seq vs.toArray }) (hi : IntsAre vs ns) (hl : ns.length ≤ sizeLine) (room : Room k callerA)
    (F : ∀ base : Heap, FnG P w W.K mg base k fa fd [x] sp) (bind : ∀ (s : Shared) (u : Value), BindsTo s fd ⟨[u], []⟩ [(x, u)])
    (hsp : ∀ H : Hp, (Rd H a (.lst (ns.map V.int)) ∨ ∀ H', SqL W.K H' a (ns.map V.int)) → sp [.ref a] H (fun v _ => v = .bl true) fun _ _ _ => False) :
    codeAny (model P w) callerA (.call (.ref fa) ⟨[.ref a], []⟩) (fun r s' => r = .ok (.ret (.bool true)) ∧ OldK s₁.heap s'.heap ∧ s'.os = s₁.os ∧ AllBare s'.gens) s₁ := by
  cases hk : W.K.lookup a with
  | some o =>
    have e := hin a o hk
    rw [ho] at e
    cases e
    refine law_core (H := fun _ => none) hin hns hb hbb hlim hg ho room F bind (fun b u z => nomatch z) (fun b u z => nomatch z) (hsp _ (.inr fun H' => .inr ⟨_, vs.toArray, _, hk, rfl, rfl, rfl, ?_, ?_⟩))
    · rw [List.size_toArray, hi.length]
      exact hl
    · simpa using vals_ints hi
  | none =>
    let H : Hp := fun b => if b = a then some (.frz { cls := .type "list", data := .seq vs.toArray } (.lst (ns.map V.int))) else none
    have at_a : H a = some (.frz { cls := .type "list", data := .seq vs.toArray } (.lst (ns.map V.int))) := if_pos rfl
    have only : ∀ b u, H b = some u → b = a ∧ u = .frz { cls := .type "list", data := .seq vs.toArray } (.lst (ns.map V.int)) := fun b u z => by
      by_cases q : b = a
      · subst q
        rw [at_a] at z
        exact ⟨rfl, (Option.some.inj z).symm⟩
      · have z' : (none : Option HO) = some u := (if_neg q).symm.trans z
        cases z'
    refine law_core (H := H) hin hns hb hbb hlim hg ho room F bind (fun b u z => ?_) (fun b u z => ?_) (hsp _ (.inl (.inr ⟨_, at_a⟩)))
    · obtain ⟨rfl, rfl⟩ := only b u z
      exact ⟨rfl, hk, _, _, rfl⟩
    · obtain ⟨rfl, rfl⟩ := only b u z
      exact ⟨ho, by rw [List.length_map]; exact hl, vs, _, vals_ints hi, ho⟩
end
/-- the goal that k_head leaves, from the law's den -/
theorem walk_D {l : PySem.W.OpenLaw} {n k : Nat} {q : Program} {loose : List Str} {XP : (Str → Option Value) → Heap → Prop} {YP : World → Heap → Prop} {d : DefRec} {K : Params → PySem.W.Frag} {x : Str} {L : List D → M D}
    (hn : l.most = some n) (hn2 : n ≤ sizeLine) (hdf : d.params.defaults = []) (room : Room k callerA) (hY : ∀ (w : World) (h : Heap), YP w h → (K w.params).In h)
    (F : ∀ (w : World) (mg : Str → Option Value) (fa : Addr) (h : Heap), (K w.params).In h → h.Ns mainGlobals mg → mg d.name = some (.ref fa) →
      ∃ (W : Wd) (fd : FuncData), W.K = K w.params ∧ (∀ (s : Shared) (u : Value), BindsTo s fd ⟨[u], []⟩ [(x, u)]) ∧ ∀ base : Heap, FnG l.prog w (K w.params) mg base k fa fd [x] (spOf W 1 L))
    (law : ∀ ns : List Int, ns.length ≤ n → ∃ μ, L [.frz (ns.map D.int)] [] = .ok (.bl true) μ) : PySem.W.WalkO q loose XP YP l.row.toRowW d [] (fun f vs => PySem.call f vs) := by
  refine Att.attach_call hn hdf fun w s₀ s₁ mg mb fa o pm cd doc a vs ns G Y ho hd hcd hmg hobj hints hlen hg => ?_
  have kin := hY w _ Y
  obtain ⟨W, fd, eK, bind, hF⟩ := F w mg fa _ kin G.T.g hmg
  rw [← eK] at kin hF
  obtain ⟨μ, e⟩ := law ns hlen
  exact law_callG kin G.T.g G.T.b G.T.builtins G.T.nolimit hg hobj hints (Nat.le_trans hlen hn2) room hF bind fun H hS => law_at hS e
end Pu

set_option Elab.async false
set_option linter.all false
set_option maxRecDepth 100000
/-! Pu17: runs of dens, plain: what a run ends in. -/
namespace Pu
open PySem L2
def Run {α : Type} (x : R α) (Q : α → Sto → Prop) : Prop := match x with
  | .ok a μ => Q a μ
  | .exc _ _ => False
  | .stuck => False
section
variable {α β : Type} {Q Q' : α → Sto → Prop} {μ μ' : Sto}
theorem run_ok {x : R α} {a : α} (e : x = .ok a μ) (h : Q a μ) : Run x Q := by rw [e]; exact h
theorem Run.out {x : R α} (h : Run x Q) : ∃ a μ, x = .ok a μ ∧ Q a μ := by
  cases x with
  | ok a μ => exact ⟨a, μ, rfl, h⟩
  | exc _ _ => exact h.elim
  | stuck => exact h.elim
theorem Run.mono {x : R α} (h : Run x Q) (w : ∀ a μ, Q a μ → Q' a μ) : Run x Q' := by
  obtain ⟨a, μ, e, q⟩ := h.out
  rw [e]
  exact w a μ q
theorem run_bind {x : M β} {f : β → M α} (h : Run (x μ) fun b μ1 => Run (f b μ1) Q) : Run ((x >>= f) μ) Q := by
  obtain ⟨b, μ1, e, q⟩ := h.out
  show Run (M.bind x f μ) Q
  unfold M.bind
  rw [e]
  exact q
theorem run_yes {a : α} (h : Q a μ) : Run ((yes a : M α) μ) Q := h
theorem bind_ok {x : M β} {f : β → M α} {b : β} {r : R α} (e : x μ = .ok b μ') (h : f b μ' = r) : (x >>= f) μ = r := by
  show M.bind x f μ = r
  unfold M.bind
  rw [e]
  exact h
theorem bind_exc {x : M β} {f : β → M α} {e : Ex} (h : x μ = .exc e μ') : (x >>= f) μ = .exc e μ' := by
  show M.bind x f μ = _
  unfold M.bind
  rw [h]
end
/-! ### defs and statements -/
def FinQ (Q : D → Sto → Prop) : Fl → Sto → Prop
  | .next _, μ => Q .non μ
  | .ret d, μ => Q d μ
  | .exc _ _, _ => False
  | .brk _, _ => False
  | .cont _, _ => False
def ThenK (k : Sl → Sto → Prop) (K : Fl → Sto → Prop) : Fl → Sto → Prop
  | .next ρ, μ => k ρ μ
  | fl, μ => K fl μ
section
variable {r : Dn} {G : Pu.Ctx} {ρ : Sl} {μ : Sto} {K : Fl → Sto → Prop} {Q : D → Sto → Prop} {st : Stmt} {rest : List Stmt} {n : Nat}
theorem run_def {body : List Stmt} {ds : List D} (h : Run ((den n).s G body (begin G.N ds) μ) (FinQ Q)) : Run (defD n G body ds μ) Q := by
  obtain ⟨fl, μ1, e, q⟩ := h.out
  unfold defD endD
  rw [e]
  cases fl with
  | next _ => exact q
  | ret _ => exact q
  | exc _ _ => exact q.elim
  | brk _ => exact q.elim
  | cont _ => exact q.elim
theorem rs_cons (h : Run (stmD r G st ρ μ) (ThenK (fun ρ' μ' => Run (sD r G rest ρ' μ') K) K)) : Run (sD r G (st :: rest) ρ μ) K := by
  unfold sD
  refine run_bind (h.mono fun fl μ1 q => ?_)
  cases fl <;> exact q
theorem rs_nil (h : K (.next ρ) μ) : Run (sD r G [] ρ μ) K := h
theorem run_with {α : Type} {x : M α} {k : α → M Fl} (h : Run (x μ) fun a μ1 => Run (k a μ1) K) : Run (withX ρ x k μ) K := by
  obtain ⟨a, μ1, e, q⟩ := h.out
  unfold withX
  rw [e]
  exact q
theorem rs_ret {e : Expr} {p : Pos} (h : Run (r.e G e ρ μ) fun d μ1 => K (.ret d) μ1) : Run (sD r G (.Return (some e) p :: rest) ρ μ) K :=
  rs_cons (run_with (h.mono fun _ _ q => q))
theorem rs_set {x : Str} {p pos : Pos} {e : Expr} {X : M D} (hA : asgN r G x e ρ = withX ρ X fun d => storeN G x d ρ)
    (h : Run (X μ) fun d μ1 => ∃ ρ', gN G x d ρ = some ρ' ∧ Run (sD r G rest ρ' μ1) K) : Run (sD r G (.Assign [.Name x p] e pos :: rest) ρ μ) K := by
  refine rs_cons ?_
  show Run (asgN r G x e ρ μ) _
  rw [hA]
  refine run_with (h.mono fun d μ1 q => ?_)
  obtain ⟨ρ', e1, q⟩ := q
  unfold storeN
  rw [e1]
  exact q
theorem rs_if {c : Expr} {a b : List Stmt} {p : Pos} (h : Run (r.t G c ρ μ) fun k μ1 => (k = true → Run (r.s G a ρ μ1) (ThenK (fun ρ' μ' => Run (sD r G rest ρ' μ') K) K)) ∧ (k = false → Run (r.s G b ρ μ1) (ThenK (fun ρ' μ' => Run (sD r G rest ρ' μ') K) K))) :
    Run (sD r G (.If c a b p :: rest) ρ μ) K := by
  refine rs_cons (run_with (h.mono fun k μ1 q => ?_))
  cases k with
  | true => exact q.1 rfl
  | false => exact q.2 rfl
theorem rs_expr {e : Expr} {p : Pos} (hc : isComp e = false) (h : Run (r.e G e ρ μ) fun _ μ1 => Run (sD r G rest ρ μ1) K) : Run (sD r G (.Expr e p :: rest) ρ μ) K := by
  refine rs_cons ?_
  show Run ((if isComp e = false then withX ρ (r.e G e ρ) (fun _ => yes (.next ρ)) else stuck) μ) _
  rw [if_pos hc]
  exact run_with (h.mono fun _ _ q => q)
def LoopK (I : Sl → Sto → Prop) (K : Fl → Sto → Prop) : Fl → Sto → Prop
  | .next ρ, μ => I ρ μ
  | .cont ρ, μ => I ρ μ
  | .brk ρ, μ => K (.next ρ) μ
  | fl, μ => K fl μ
theorem run_loop {tg : Expr} {body : Sl → M Fl} {I : Nat → Sl → Sto → Prop} : ∀ (ds : List D) (i : Nat) (ρ : Sl) (μ : Sto), I i ρ μ →
    (∀ j d ρ μ, ds[j]? = some d → I (i + j) ρ μ → ∃ ρ1, gD G tg d ρ = some ρ1 ∧ Run (body ρ1 μ) (LoopK (I (i + j + 1)) K)) → (∀ ρ μ, I (i + ds.length) ρ μ → K (.next ρ) μ) → Run (loopD G tg body ds ρ μ) K
  | [], i, ρ, μ, h0, _, hf => hf ρ μ h0
  | d :: ds, i, ρ, μ, h0, hs, hf => by
    obtain ⟨ρ1, e1, h1⟩ := hs 0 d ρ μ rfl h0
    have nx : ∀ ρ' μ', I (i + 0 + 1) ρ' μ' → Run (loopD G tg body ds ρ' μ') K := fun ρ' μ' q =>
      run_loop ds (i + 1) ρ' μ' q (fun j d ρ μ e hI => by
        have := hs (j + 1) d ρ μ e (by rw [show i + (j + 1) = i + 1 + j by omega]; exact hI)
        rw [show i + (j + 1) + 1 = i + 1 + j + 1 by omega] at this
        exact this) fun ρ μ hI => hf ρ μ (by rw [show i + (d :: ds).length = i + 1 + ds.length by rw [List.length_cons]; omega]; exact hI)
    unfold loopD
    rw [e1]
    refine run_bind (h1.mono fun fl μ1 q => ?_)
    cases fl with
    | next ρ' => exact nx ρ' μ1 q
    | cont ρ' => exact nx ρ' μ1 q
    | brk ρ' => exact q
    | ret d => exact q
    | exc e ρ' => exact q
theorem rs_for {tg iter : Expr} {body : List Stmt} {p : Pos} {ds : List D} {μ1 : Sto} {I : Nat → Sl → Sto → Prop} (hc : G.hot = false ∧ notSet iter = true) (hi : iD r G tg iter ρ μ = .ok ds μ1) (h0 : I 0 ρ μ1)
    (hs : ∀ j d ρ μ, ds[j]? = some d → I j ρ μ → ∃ ρ1, gD G tg d ρ = some ρ1 ∧ Run (r.s G body ρ1 μ) (LoopK (I (j + 1)) (ThenK (fun ρ' μ' => Run (sD r G rest ρ' μ') K) K))) (hf : ∀ ρ μ, I ds.length ρ μ → Run (sD r G rest ρ μ) K) : Run (sD r G (.For tg iter body [] p :: rest) ρ μ) K := by
  refine rs_cons ?_
  show Run (forD r G tg iter body ρ μ) _
  unfold forD
  rw [if_pos hc]
  refine run_with (run_ok hi (run_loop (I := I) ds 0 ρ μ1 h0 (fun j d ρ μ e hI => ?_) fun ρ μ hI => ?_))
  · rw [Nat.zero_add] at hI ⊢
    exact hs j d ρ μ e hI
  · rw [Nat.zero_add] at hI
    exact hf ρ μ hI
end
/-! ### comprehensions -/
section
variable {f : D → M (Option D)} {μ : Sto}
/-- every turn leaves the store as it is -/
theorem comp_pure {g : D → Option D} : ∀ (ds acc : List D), (∀ d ∈ ds, f d μ = .ok (g d) μ) → acc.length + ds.length ≤ sizeLine → compL f ds acc μ = .ok (acc ++ ds.filterMap g) μ
  | [], acc, _, _ => by rw [List.filterMap_nil, List.append_nil]; rfl
  | d :: ds, acc, h, hl => by
    rw [List.length_cons] at hl
    unfold compL
    refine bind_ok (h d List.mem_cons_self) ?_
    cases q : g d with
    | none =>
      rw [List.filterMap_cons_none q]
      exact comp_pure ds acc (fun d hd => h d (List.mem_cons_of_mem _ hd)) (by omega)
    | some z =>
      rw [List.filterMap_cons_some q]
      show (if acc.length < sizeLine then compL f ds (acc ++ [z]) else stuck) μ = _
      rw [if_pos (by omega), comp_pure ds (acc ++ [z]) (fun d hd => h d (List.mem_cons_of_mem _ hd)) (by rw [List.length_append]; simp only [List.length_singleton]; omega), List.append_assoc]
      rfl
/-- every turn gives one -/
theorem comp_map {g : D → D} (ds acc : List D) (h : ∀ d ∈ ds, f d μ = .ok (some (g d)) μ) (hl : acc.length + ds.length ≤ sizeLine) : compL f ds acc μ = .ok (acc ++ ds.map g) μ := by
  rw [comp_pure (g := fun d => some (g d)) ds acc h hl, List.filterMap_eq_map']
/-- with an invariant: the number of turns, the list so far, the store -/
theorem run_comp {I : Nat → List D → Sto → Prop} {Q : List D → Sto → Prop} : ∀ (ds : List D) (i : Nat) (acc : List D) (μ : Sto), I i acc μ → acc.length + ds.length ≤ sizeLine →
    (∀ j d acc μ, ds[j]? = some d → I (i + j) acc μ → Run (f d μ) fun y μ1 => match y with | some z => I (i + j + 1) (acc ++ [z]) μ1 | none => I (i + j + 1) acc μ1) → (∀ acc μ, I (i + ds.length) acc μ → Q acc μ) → Run (compL f ds acc μ) Q
  | [], i, acc, μ, h0, _, _, hf => hf acc μ h0
  | d :: ds, i, acc, μ, h0, hl, hs, hf => by
    rw [List.length_cons] at hl
    unfold compL
    refine run_bind ((hs 0 d acc μ rfl h0).mono fun y μ1 q => ?_)
    have nx : ∀ acc' μ', acc'.length ≤ acc.length + 1 → I (i + 0 + 1) acc' μ' → Run (compL f ds acc' μ') Q := fun acc' μ' hz q =>
      run_comp ds (i + 1) acc' μ' q (by omega) (fun j d acc μ e hI => by
        have := hs (j + 1) d acc μ e (by rw [show i + (j + 1) = i + 1 + j by omega]; exact hI)
        rw [show i + (j + 1) + 1 = i + 1 + j + 1 by omega] at this
        exact this) fun acc μ hI => hf acc μ (by rw [show i + (d :: ds).length = i + 1 + ds.length by rw [List.length_cons]; omega]; exact hI)
    cases y with
    | none => exact nx acc μ1 (Nat.le_succ _) q
    | some z =>
      show Run ((if acc.length < sizeLine then compL f ds (acc ++ [z]) else stuck) μ1) Q
      rw [if_pos (by omega)]
      exact nx (acc ++ [z]) μ1 (by rw [List.length_append]; exact Nat.le_refl _) q
theorem run_noX {α : Type} {x : M α} {Q : α → Sto → Prop} (h : Run (x μ) Q) : Run (noX x μ) Q := by
  obtain ⟨a, μ1, e, q⟩ := h.out
  unfold noX
  rw [e]
  exact q
theorem noX_ok {α : Type} {x : M α} {a : α} {μ' : Sto} (h : x μ = .ok a μ') : noX x μ = .ok a μ' := by
  unfold noX
  rw [h]
end
end Pu

set_option Elab.async false
set_option linter.all false
set_option maxRecDepth 100000
/-! Pu18: a table of defs. -/
namespace Pu
open PySem L2
/-- a name's def and its promise -/
def FnAt (P : Program) (w : World) (W : Wd) (mg : Str → Option Value) (base : Heap) (k : Nat) (e : Str × Nat × (List D → M D)) : Prop :=
  ∃ (f : Addr) (fd : FuncData) (ps : List Str), FnG P w W.K mg base k f fd ps (spOf W e.2.1 e.2.2) ∧ mg e.1 = some (.ref f) ∧ PySem.W.keepIn W.K (.ref f) = true ∧ Binds W.K fd ps []
theorem FnAt.mono {P : Program} {w : World} {W : Wd} {mg : Str → Option Value} {base : Heap} {j k : Nat} {e : Str × Nat × (List D → M D)} (h : FnAt P w W mg base j e) (hk : j ≤ k) : FnAt P w W mg base k e :=
  let ⟨f, fd, ps, h1, h2⟩ := h
  ⟨f, fd, ps, h1.mono hk, h2⟩
def AllAt (P : Program) (w : World) (W : Wd) (mg : Str → Option Value) (base : Heap) (k : Nat) : List (Str × Nat × (List D → M D)) → Prop
  | [] => True
  | e :: r => FnAt P w W mg base k e ∧ AllAt P w W mg base k r
theorem AllAt.get {P : Program} {w : World} {W : Wd} {mg : Str → Option Value} {base : Heap} {k : Nat} : ∀ {fs : List (Str × Nat × (List D → M D))}, AllAt P w W mg base k fs → ∀ x n F, fs.lookup x = some (n, F) → ∃ f fd ps, FnG P w W.K mg base k f fd ps (spOf W n F) ∧ mg x = some (.ref f) ∧ PySem.W.keepIn W.K (.ref f) = true ∧ Binds W.K fd ps []
  | [], _, x, n, F, h => by cases h
  | (y, e) :: r, ⟨h1, h2⟩, x, n, F, h => by
    rw [List.lookup_cons] at h
    cases q : x == y with
    | true =>
      rw [q] at h
      have e1 : x = y := beq_iff_eq.mp q
      have e2 : e = (n, F) := Option.some.inj h
      subst e1 e2
      exact h1
    | false =>
      rw [q] at h
      exact AllAt.get h2 x n F h
/-- the module's facts, but for its defs -/
structure GB (mg : Str → Option Value) (W : Wd) (G : Ctx) : Prop where
  glob : ∀ x d, G.glob x = some d → ∃ u v, mg x = some u ∧ RelV v u ∧ ∀ m, Den W m d v
  bl : ∀ x, G.isB x = true → mg x = none
  xc : ∀ x, G.xc x = true → mg x = some (.ref (W.ca x)) ∧ PySem.W.keepIn W.K (.ref (W.ca x)) = true ∧ PySem.W.excIn W.K (W.ca x) [.type "ValueError", .type "Exception", .type "BaseException", .type "object"] "ValueError.__new__" = true ∧
    PySem.W.subIn W.K (.ref (W.ca x)) (.type "BaseException") = some true ∧ PySem.W.typeIn W.K (.ref (W.ca x)) = some (.type "type")
  cat : ∀ c x b, G.cat c x = some b → mg c = some (.ref (W.ca c)) ∧ PySem.W.exmOne W.K (.ref (W.ca x)) (.ref (W.ca c)) = some b
theorem gok_of {P : Program} {w : World} {W : Wd} {mg : Str → Option Value} {base : Heap} {G : Ctx} {fs : List (Str × Nat × (List D → M D))} (B : GB mg W G) (ob : ObOk P w mg base W G) (hf : G.fn = fun x => fs.lookup x) (h : AllAt P w W mg base G.k fs) : GOk P w mg base W G :=
  ⟨B.glob, B.bl, fun x n F e => h.get x n F (by rw [hf] at e; exact e), B.xc, B.cat, ob⟩
theorem mem_look {x : Str} {d : D} : ∀ {l : List (Str × D)}, l.lookup x = some d → (x, d) ∈ l
  | [], h => by cases h
  | (y, e) :: r, h => by
    rw [List.lookup_cons] at h
    cases q : x == y with
    | true =>
      rw [q] at h
      have e1 : x = y := beq_iff_eq.mp q
      have e2 : e = d := Option.some.inj h
      subst e1 e2
      exact List.mem_cons_self
    | false =>
      rw [q] at h
      exact List.mem_cons_of_mem _ (mem_look h)
theorem glob_int {mg : Str → Option Value} {W : Wd} {x : Str} {i : Int} {t : Tok} (h : mg x = some (.int i t)) : ∃ u v, mg x = some u ∧ RelV v u ∧ ∀ m, Den W m (.int i) v := ⟨_, .int i, h, ⟨t, rfl⟩, fun _ => .int i⟩
theorem exm_of {K : PySem.W.Frag} {C S : Addr} {b : Bool} (h1 : PySem.W.subIn K (.ref S) (.type "BaseException") = some true) (h2 : PySem.W.isClsIn K S = true) (h3 : PySem.W.typeIn K (.ref S) = some (.type "type")) (h4 : PySem.W.subIn K (.ref C) (.ref S) = some b) : PySem.W.exmOne K (.ref C) (.ref S) = some b := by
  have q : (PySem.W.clsIn K S).isSome = true := h2
  unfold PySem.W.exmOne PySem.W.kitCls
  rw [h1, if_pos (by decide)]
  simp only [q, h3, h4]
  rfl
/-- no classes of ours -/
theorem ob_none {P : Program} {w : World} {W : Wd} {mg : Str → Option Value} {base : Heap} {G : Ctx} (h1 : G.fld = fun _ _ => false) (h2 : G.meth = fun _ _ => none) (h3 : G.make = fun _ => none)
    (h4 : G.dun = fun _ _ => none) (h5 : G.prop = fun _ _ => none) (h6 : G.ne = fun _ => false) (h7 : G.cmeth = fun _ _ => none) (h8 : G.cls = fun _ => false) (h9 : G.sub = fun _ _ => none) : ObOk P w mg base W G :=
  ⟨(fun C f e => by rw [h1] at e; cases e), (fun C m n F e => by rw [h2] at e; cases e), (fun C n F e => by rw [h3] at e; cases e), (fun C m n F e => by rw [h4] at e; cases e), (fun C m F e => by rw [h5] at e; cases e),
    (fun C e => by rw [h6] at e; cases e), (fun C m n F e => by rw [h7] at e; cases e), (fun C e => by rw [h8] at e; cases e), (fun C B b e => by rw [h9] at e; cases e)⟩
end Pu

set_option Elab.async false
set_option linter.all false
set_option maxRecDepth 100000
/-! Pu28: tables of methods; defs that call themselves. -/
namespace Pu
open PySem L2
abbrev Fn := Nat × (List D → M D)
theorem look_mem {α β : Type} [BEq α] [LawfulBEq α] {x : α} {d : β} : ∀ {l : List (α × β)}, l.lookup x = some d → (x, d) ∈ l
  | [], h => by cases h
  | (y, e) :: r, h => by
    rw [List.lookup_cons] at h
    cases q : x == y with
    | true =>
      rw [q] at h
      have e1 : x = y := beq_iff_eq.mp q
      have e2 : e = d := Option.some.inj h
      subst e1 e2
      exact List.mem_cons_self
    | false =>
      rw [q] at h
      exact List.mem_cons_of_mem _ (look_mem h)
/-- every entry of a table keeps its promise -/
def Each {α : Type} (p : α → Prop) : List α → Prop
  | [] => True
  | e :: r => p e ∧ Each p r
theorem Each.get {α : Type} {p : α → Prop} : ∀ {l : List α}, Each p l → ∀ e ∈ l, p e
  | [], _, e, h => by cases h
  | x :: r, ⟨h1, h2⟩, e, h => by
    rcases List.mem_cons.mp h with q | q
    · rw [q]; exact h1
    · exact h2.get e q
section
variable (P : Program) (w : World) (W : Wd) (mg : Str → Option Value) (base : Heap)
/-- a method -/
def MAt (j : Nat) (e : (Str × Str) × Fn) : Prop := ∃ (f : Addr) (fd : FuncData) (ps : List Str), Cls W.K (W.ca e.1.1) ∧ Meth W.K (W.ca e.1.1) e.1.2 f ∧ FnG P w W.K mg base j f fd ps (spOf W (e.2.1 + 1) e.2.2) ∧ Binds W.K fd ps [] ∧ PySem.W.fnIn W.K f = true
/-- a property -/
def PAt (j : Nat) (e : (Str × Str) × (List D → M D)) : Prop := ∃ (p f : Addr) (fd : FuncData) (ps : List Str), Cls W.K (W.ca e.1.1) ∧ PropOf W.K (W.ca e.1.1) e.1.2 p f ∧ FnG P w W.K mg base j f fd ps (spOf W 1 e.2) ∧ Binds W.K fd ps []
/-- an __init__ -/
def IAt (j : Nat) (e : Str × Fn) : Prop := mg e.1 = some (.ref (W.ca e.1)) ∧ ∃ (f : Addr) (fd : FuncData) (ps : List Str), L2.Mk W.K (W.ca e.1) f ∧ FnG P w W.K mg base j f fd ps (spOf W (e.2.1 + 1) e.2.2) ∧ Binds W.K fd ps []
/-- a class method -/
def CAt (j : Nat) (e : (Str × Str) × Fn) : Prop := ∃ (mc : Value) (p f : Addr) (fd : FuncData) (ps : List Str), ClX.CRead W.K (W.ca e.1.1) mc ∧ ClX.CMet W.K (W.ca e.1.1) mc e.1.2 p f ∧ FnG P w W.K mg base j f fd ps (spOf W (e.2.1 + 1) e.2.2) ∧ Binds W.K fd ps []
def MAll (k : Nat) := Each fun e => ∃ j, j ≤ k ∧ MAt P w W mg base j e
def DAll (k : Nat) := Each fun e => ∃ j, j + 2 ≤ k ∧ MAt P w W mg base j e
def PAll (k : Nat) := Each fun e => ∃ j, j + 1 ≤ k ∧ PAt P w W mg base j e
def IAll (k : Nat) := Each fun e => ∃ j, j + 1 ≤ k ∧ IAt P w W mg base j e
def CAll (k : Nat) := Each fun e => ∃ j, j ≤ k ∧ CAt P w W mg base j e
end
/-- the classes' own facts -/
structure OB (W : Wd) (G : Ctx) : Prop where
  fld : ∀ C f, G.fld C f = true → Cls W.K (W.ca C) ∧ NoAttr W.K (W.ca C) f
  ne : ∀ C, G.ne C = true → PySem.W.findIn W.K (.ref (W.ca C)) "__ne__" = some (some (.builtin "object.__ne__")) ∧ PySem.W.mroIn W.K (W.ca C) (.type "object") = some true
  cls : ∀ C, G.cls C = true → Cls W.K (W.ca C) ∧ ClsIs W.K (W.ca C) ∧ ∀ t ∈ ["NoneType", "bool", "int", "str", "tuple", "list", "dict"], PySem.W.kitOne W.K (.type t) (.ref (W.ca C)) = some false
  sub : ∀ C B b, G.sub C B = some b → PySem.W.kitOne W.K (.ref (W.ca C)) (.ref (W.ca B)) = some b
section
variable {P : Program} {w : World} {W : Wd} {mg : Str → Option Value} {base : Heap} {G : Ctx}
theorem ob_of {ms ds : List ((Str × Str) × Fn)} {pr : List ((Str × Str) × (List D → M D))} {mk : List (Str × Fn)} {cm : List ((Str × Str) × Fn)} (o : OB W G) (h1 : G.meth = fun C m => ms.lookup (C, m)) (h2 : G.dun = fun C m => ds.lookup (C, m)) (h3 : G.prop = fun C m => pr.lookup (C, m)) (h4 : G.make = fun C => mk.lookup C) (h5 : G.cmeth = fun C m => cm.lookup (C, m))
    (a1 : MAll P w W mg base G.k ms) (a2 : DAll P w W mg base G.k ds) (a3 : PAll P w W mg base G.k pr) (a4 : IAll P w W mg base G.k mk) (a5 : CAll P w W mg base G.k cm) : ObOk P w mg base W G := by
  refine ⟨o.fld, fun C m n F e => ?_, fun C n F e => ?_, fun C m n F e => ?_, fun C m F e => ?_, o.ne, fun C m n F e => ?_, o.cls, o.sub⟩
  · rw [h1] at e
    obtain ⟨j, hj, f, fd, ps, c, hm, FG, bs, _⟩ := a1.get _ (look_mem e)
    exact ⟨f, fd, ps, c, hm, FG.mono hj, bs⟩
  · rw [h4] at e
    obtain ⟨j, hj, hm, f, fd, ps, M, FG, bs⟩ := a4.get _ (look_mem e)
    exact ⟨hm, f, fd, ps, j, hj, M, FG, bs⟩
  · rw [h2] at e
    obtain ⟨j, hj, f, fd, ps, c, hm, FG, bs, fi⟩ := a2.get _ (look_mem e)
    exact ⟨f, fd, ps, j, hj, c, hm, FG, bs, fi⟩
  · rw [h3] at e
    obtain ⟨j, hj, p, f, fd, ps, c, hp, FG, bs⟩ := a3.get _ (look_mem e)
    exact ⟨p, f, fd, ps, j, hj, c, hp, FG, bs⟩
  · rw [h5] at e
    obtain ⟨j, hj, mc, p, f, fd, ps, rd, cm, FG, bs⟩ := a5.get _ (look_mem e)
    exact ⟨mc, p, f, fd, ps, rd, cm, FG.mono hj, bs⟩
/-- the start of a def that calls itself: nothing is promised -/
theorem fnG_none {k : Nat} {f : Addr} {fd : FuncData} {ps : List Str} {K : PySem.W.Frag} : FnG P w K mg base k f fd ps (spOf W ps.length fun _ => stuck) :=
  ⟨fun vs H Q E h => h.1, fun A out s H args us vs Q E _ _ _ _ _ h => by
    obtain ⟨_, ds, m, _, _, _, w⟩ := h
    exact (show False from w).elim⟩
theorem glob_str {x : Str} {i : Str} {t : Tok} (h : mg x = some (.str i t)) : ∃ u v, mg x = some u ∧ RelV v u ∧ ∀ m, Den W m (.str i) v := ⟨_, .str i, h, ⟨t, rfl⟩, fun _ => .str i⟩
theorem glob_cls {x : Str} (h : mg x = some (.ref (W.ca x))) : ∃ u v, mg x = some u ∧ RelV v u ∧ ∀ m, Den W m (.adr x) v := ⟨_, .ref (W.ca x), h, rfl, fun _ => .adr x⟩
theorem kit_self {K : PySem.W.Frag} {C : Addr} : PySem.W.kitOne K (.ref C) (.ref C) = some true := by
  unfold PySem.W.kitOne
  rw [if_pos (beq_self_eq_true _)]
theorem kit_no {K : PySem.W.Frag} {C : Addr} {t : String} (ht : t ∈ ["NoneType", "bool", "int", "str", "tuple", "list", "dict"]) (h1 : PySem.W.isClsIn K C = true) (h2 : PySem.W.typeIn K (.ref C) = some (.type "type")) : PySem.W.kitOne K (.type t) (.ref C) = some false := by
  have q : (PySem.W.clsIn K C).isSome = true := h1
  have e : (Value.type t == Value.ref C) = false := by
    cases z : (Value.type t == Value.ref C) with
    | false => rfl
    | true => cases beq_iff_eq.mp z
  unfold PySem.W.kitOne
  rw [e, if_neg Bool.false_ne_true]
  show (if ((PySem.W.clsIn K C).isSome && PySem.W.typeIn K (.ref C) == some (.type "type")) = true then PySem.W.subIn K (.type t) (.ref C) else none) = some false
  rw [q, h2, if_pos (by decide)]
  exact sub_ty ht
theorem fnIn_of {K : PySem.W.Frag} {f : Addr} {oc : Value} {od : Option Addr} {fd : FuncData} {sl : Array (Option Value)} (l : K.lookup f = some ⟨oc, od, .func fd, sl⟩) : PySem.W.fnIn K f = true := by
  unfold PySem.W.fnIn
  rw [l]
end
end Pu

set_option Elab.async false
set_option linter.all false
set_option maxRecDepth 100000
/-! Pu29: plain steps through defs, for plain proofs. -/
namespace Pu
open PySem L2
section
variable {r : Dn} {G : Pu.Ctx} {ρ ρ' : Sl} {μ μ1 μ2 : Sto} {c e : Expr} {a b rest : List Stmt} {p pos : Pos} {x : Ex} {d : D} {o : R D}
theorem end_ret : endD (sD r G (.Return (some e) p :: rest) ρ) μ = r.e G e ρ μ := by
  show endD (M.bind (withX ρ (r.e G e ρ) (fun d => yes (.ret d))) _) μ = _
  unfold endD M.bind withX
  cases r.e G e ρ μ <;> rfl
/-- if c: .. that returns -/
theorem end_ifT (h : r.t G c ρ μ = .ok true μ1) (h1 : endD (r.s G a ρ) μ1 = o) (hr : ∀ ρ' μ', r.s G a ρ μ1 ≠ .ok (.next ρ') μ') (hs : o ≠ .stuck) : endD (sD r G (.If c a b p :: rest) ρ) μ = o := by
  show endD (M.bind (withX ρ (r.t G c ρ) (fun k => match k with | true => r.s G a ρ | false => r.s G b ρ)) _) μ = _
  unfold endD M.bind withX
  unfold endD at h1
  rw [h]
  simp only
  cases q : r.s G a ρ μ1 with
  | stuck => rw [q] at h1; exact absurd h1.symm hs
  | exc e μ' => rw [q] at h1; exact absurd h1.symm hs
  | ok fl μ' =>
    rw [q] at h1
    cases fl with
    | next ρ' => exact absurd q (hr ρ' μ')
    | brk ρ' => exact absurd h1.symm hs
    | cont ρ' => exact absurd h1.symm hs
    | ret d => exact h1
    | exc e ρ' => exact h1
theorem end_ifR {d' : D} (h : r.t G c ρ μ = .ok true μ1) (h1 : r.s G a ρ μ1 = .ok (.ret d') μ2) : endD (sD r G (.If c a b p :: rest) ρ) μ = .ok d' μ2 := by
  show endD (M.bind (withX ρ (r.t G c ρ) (fun k => match k with | true => r.s G a ρ | false => r.s G b ρ)) _) μ = _
  unfold endD M.bind withX
  rw [h]
  simp only
  rw [h1]
  rfl
theorem s_ret {k : Nat} (h : (den k).e G e ρ μ = .ok d μ1) : (den (k + 1)).s G (.Return (some e) p :: rest) ρ μ = .ok (.ret d) μ1 := by
  show M.bind (withX ρ ((den k).e G e ρ) (fun d => yes (.ret d))) _ μ = _
  unfold M.bind withX
  rw [h]
  rfl
theorem end_ifX (h : r.t G c ρ μ = .ok true μ1) (h1 : r.s G a ρ μ1 = .ok (.exc x ρ') μ2) : endD (sD r G (.If c a b p :: rest) ρ) μ = .exc x μ2 := by
  show endD (M.bind (withX ρ (r.t G c ρ) (fun k => match k with | true => r.s G a ρ | false => r.s G b ρ)) _) μ = _
  unfold endD M.bind withX
  rw [h]
  simp only
  rw [h1]
  rfl
theorem end_if0 (h : r.t G c ρ μ = .ok false μ1) (h1 : r.s G b ρ μ1 = .ok (.next ρ') μ2) : endD (sD r G (.If c a b p :: rest) ρ) μ = endD (sD r G rest ρ') μ2 := by
  show endD (M.bind (withX ρ (r.t G c ρ) (fun k => match k with | true => r.s G a ρ | false => r.s G b ρ)) _) μ = _
  unfold endD M.bind withX
  rw [h]
  simp only
  rw [h1]
theorem end_expr (hc : isComp e = false) (h : r.e G e ρ μ = .ok d μ1) : endD (sD r G (.Expr e p :: rest) ρ) μ = endD (sD r G rest ρ) μ1 := by
  show endD (M.bind (if isComp e = false then withX ρ (r.e G e ρ) (fun _ => yes (.next ρ)) else stuck) _) μ = _
  rw [if_pos hc]
  unfold endD M.bind withX
  rw [h]
  rfl
/-- any statement that goes on -/
theorem end_next {st : Stmt} (h : stmD r G st ρ μ = .ok (.next ρ') μ1) : endD (sD r G (st :: rest) ρ) μ = endD (sD r G rest ρ') μ1 := by
  show endD (M.bind (stmD r G st ρ) _) μ = _
  unfold endD M.bind
  rw [h]
theorem end_nil : endD (sD r G [] ρ) μ = .ok .non μ := rfl
end
section
variable {k n : Nat} {G : Pu.Ctx} {f : Str} {p pos : Pos} {es : List Expr} {ρ : Sl} {μ μ1 : Sto} {ds : List D} {o : R D}
theorem den_call (hf : f ≠ "sorted") (hl : f ≠ "list") (hg : glB G.sc f = true) (hm : G.make f = none) : (den (n + 1)).e G (.Call (.Name f p) es [] pos) ρ μ = callD (den n) G f es ρ μ := by
  have e2 : stepE2 (den n) G (.Call (.Name f p) es [] pos) ρ = callD (den n) G f es ρ := by
    unfold stepE2
    split
    · rename_i e
      cases e
      rw [if_neg fun z => hf z.1]
      rfl
    · rfl
  have e4 : stepE4 (den n) G (.Call (.Name f p) es [] pos) ρ = callD (den n) G f es ρ := by
    rw [← e2]
    unfold stepE4
    simp only [hg, ↓reduceIte]
    rw [hm]
    rfl
  have e5 : stepE5 (den n) G (.Call (.Name f p) es [] pos) ρ = callD (den n) G f es ρ := by
    rw [← e4]
    match es with
    | [] => rfl
    | [a] =>
      show (if f = "list" ∧ G.hint pos = 1 then listCE (den n) G a ρ else stepE4 (den n) G (.Call (.Name f p) [a] [] pos) ρ) = _
      rw [if_neg fun z => hl z.1]
    | _ :: _ :: _ => rfl
  exact congrFun e5 μ
theorem call_ok (F : List D → M D) (hf : f ≠ "sorted" ∧ f ≠ "list") (hm : G.make f = none) (hfn : G.fn f = some (n, F)) (hc : okName f = true ∧ noStar es = true ∧ glB G.sc f = true ∧ G.hot = false)
    (ha : aD (den k) G es ρ μ = .ok ds μ1) (hl : ds.length = n) (h : F ds μ1 = o) : (den (k + 1)).e G (.Call (.Name f p) es [] pos) ρ μ = o := by
  rw [den_call hf.1 hf.2 hc.2.2.1 hm]
  unfold callD
  rw [if_pos hc, hfn]
  refine bind_ok ha ?_
  show (if ds.length = n then F ds else stuck) μ1 = o
  rw [if_pos hl]
  exact h
theorem lst_ok {es : List Expr} (hn : noStar es = true) (h0 : G.hint pos ≠ 1) (ha : aD (den k) G es ρ μ = .ok ds μ1) (hl : ds.length ≤ sizeLine) : (den (k + 1)).e G (.List es pos) ρ μ = .ok (.lst ds) μ1 := by
  have e : (den (k + 1)).e G (.List es pos) ρ = (do let ds ← aD (den k) G es ρ; newL (G.hint pos) ds) := by
    show (if noStar es = true then (if noStar es = true then (do let ds ← aD (den k) G es ρ; newL (G.hint pos) ds) else stuck) else starE (den k) G es pos ρ) = _
    rw [if_pos hn, if_pos hn]
  rw [e]
  refine bind_ok ha ?_
  unfold newL
  rw [if_pos hl, if_neg h0]
theorem tup_ok {es : List Expr} {x : Nat} (hn : noStar es = true) (ha : aD (den k) G es ρ μ = .ok ds μ1) (hl : ds.length ≤ sizeLine) : (den (k + 1)).e G (.Tuple es x pos) ρ μ = .ok (.tup ds) μ1 := by
  have e : (den (k + 1)).e G (.Tuple es x pos) ρ = (do let ds ← aD (den k) G es ρ; tupL ds) := by
    show (if noStar es = true then (do let ds ← aD (den k) G es ρ; tupL ds) else stuck) = _
    rw [if_pos hn]
  rw [e]
  refine bind_ok ha ?_
  unfold tupL
  rw [if_pos hl]
theorem bool_one {op : BoolOp} {a : Expr} : (den (n + 1)).e G (.BoolOp op [a] pos) ρ μ = (den n).e G a ρ μ := rfl
theorem s_next {st : Stmt} {rest : List Stmt} {ρ' : Sl} (h : stmD (den k) G st ρ μ = .ok (.next ρ') μ1) : (den (k + 1)).s G (st :: rest) ρ μ = (den (k + 1)).s G rest ρ' μ1 := by
  show M.bind (stmD (den k) G st ρ) _ μ = _
  unfold M.bind
  rw [h]
  rfl
theorem s_nil : (den (k + 1)).s G [] ρ μ = .ok (.next ρ) μ := rfl
theorem st_if {r : Dn} {c : Expr} {a b : List Stmt} {q : Bool} {o : R Fl} (h : r.t G c ρ μ = .ok q μ1) (h2 : (match q with | true => r.s G a ρ | false => r.s G b ρ) μ1 = o) : stmD r G (.If c a b p) ρ μ = o := by
  show withX ρ (r.t G c ρ) (fun k => match k with | true => r.s G a ρ | false => r.s G b ρ) μ = _
  unfold withX
  rw [h]
  exact h2
theorem st_expr {r : Dn} {e : Expr} {d : D} (hc : isComp e = false) (h : r.e G e ρ μ = .ok d μ1) : stmD r G (.Expr e p) ρ μ = .ok (.next ρ) μ1 := by
  show (if isComp e = false then withX ρ (r.e G e ρ) (fun _ => yes (.next ρ)) else stuck) μ = _
  rw [if_pos hc]
  unfold withX
  rw [h]
  rfl
theorem st_for {r : Dn} {tg iter : Expr} {body : List Stmt} {o : R Fl} (hc : G.hot = false ∧ notSet iter = true) (hi : iD r G tg iter ρ μ = .ok ds μ1) (h : loopD G tg (r.s G body) ds ρ μ1 = o) : stmD r G (.For tg iter body [] p) ρ μ = o := by
  show forD r G tg iter body ρ μ = _
  unfold forD
  rw [if_pos hc]
  unfold withX
  rw [hi]
  exact h
theorem loop_nil {tg : Expr} {body : Sl → M Fl} : loopD G tg body [] ρ μ = .ok (.next ρ) μ := rfl
theorem loop_cons {tg : Expr} {body : Sl → M Fl} {d : D} {ρ1 ρ2 : Sl} {o : R Fl} (hg : gD G tg d ρ = some ρ1) (hb : body ρ1 μ = .ok (.next ρ2) μ1) (h : loopD G tg body ds ρ2 μ1 = o) : loopD G tg body (d :: ds) ρ μ = o := by
  unfold loopD
  rw [hg]
  exact bind_ok hb h
theorem fmt_ok {e : Expr} {y : Str} (h : (den k).e G e ρ μ = .ok (.str y) μ1) (hy : y.length ≤ sizeLine) : (den (k + 1)).e G (.FormattedValue e (-1) none pos) ρ μ = .ok (.str y) μ1 := by
  show (if (-1 : Int) = -1 then (do let d ← (den k).e G e ρ; fmtD d) else stuck) μ = _
  rw [if_pos rfl]
  refine bind_ok h ?_
  show (if y.length ≤ sizeLine then R.ok (D.str y) μ1 else .stuck) = _
  rw [if_pos hy]
theorem parts_nil {acc : Str} : partsD (den k) G [] ρ acc μ = .ok acc μ := rfl
theorem parts_cons {e : Expr} {es : List Expr} {acc y : Str} {o : R Str} (h : (den k).e G e ρ μ = .ok (.str y) μ1) (hl : (acc ++ y).length ≤ sizeLine) (h2 : partsD (den k) G es ρ (acc ++ y) μ1 = o) : partsD (den k) G (e :: es) ρ acc μ = o := by
  refine bind_ok h (bind_ok (b := y) (μ' := μ1) rfl ?_)
  show (if (acc ++ y).length ≤ sizeLine then partsD (den k) G es ρ (acc ++ y) else stuck) μ1 = o
  rw [if_pos hl]
  exact h2
theorem js_ok {a b : Expr} {rest : List Expr} {y : Str} (h : partsD (den k) G (a :: b :: rest) ρ Str.empty μ = .ok y μ1) : (den (k + 1)).e G (.JoinedStr (a :: b :: rest) pos) ρ μ = .ok (.str y) μ1 := bind_ok h rfl
theorem add_str {x y : Str} (h : x.length + y.length ≤ sizeLine) : addD (.str x) (.str y) μ = .ok (.str (x ++ y)) μ := by
  show (if x.length + y.length ≤ sizeLine then R.ok (D.str (x ++ y)) μ else .stuck) = _
  rw [if_pos h]
theorem bin_ok {a b : Expr} {op : Operator} {x y : D} {μ2 : Sto} {o : R D} (h : (den k).e G a ρ μ = .ok x μ1) (h2 : (den k).e G b ρ μ1 = .ok y μ2) (h3 : binD op x y μ2 = o) : (den (k + 1)).e G (.BinOp a op b pos) ρ μ = o := bind_ok h (bind_ok h2 h3)
theorem ife_ok {c a b : Expr} {q : Bool} {o : R D} (h : (den k).t G c ρ μ = .ok q μ1) (h2 : (match q with | true => (den k).e G a ρ | false => (den k).e G b ρ) μ1 = o) : (den (k + 1)).e G (.IfExp c a b pos) ρ μ = o := by
  refine bind_ok h ?_
  cases q <;> exact h2
theorem a_nil : aD (den k) G [] ρ μ = .ok [] μ := rfl
theorem a_cons {e : Expr} {es : List Expr} {d : D} {μ2 : Sto} (h : (den k).e G e ρ μ = .ok d μ1) (h2 : aD (den k) G es ρ μ1 = .ok ds μ2) : aD (den k) G (e :: es) ρ μ = .ok (d :: ds) μ2 := bind_ok h (bind_ok h2 rfl)
theorem st_asg {r : Dn} {x : Str} {e : Expr} {d : D} {ρ' : Sl} (hA : asgN r G x e ρ = withX ρ (r.e G e ρ) fun d => storeN G x d ρ) (h : r.e G e ρ μ = .ok d μ1) (hg : gN G x d ρ = some ρ') : stmD r G (.Assign [.Name x p] e pos) ρ μ = .ok (.next ρ') μ1 := by
  show asgN r G x e ρ μ = _
  rw [hA]
  unfold withX
  rw [h]
  show storeN G x d ρ μ1 = _
  unfold storeN
  rw [hg]
/-! cells -/
theorem asO_cell {c : Nat} {xs : List D} (h : μ[c]? = some (.lst xs)) : asO μ (.cell c) = none := by
  show (match μ[c]? with | some (MO.obj C fs) => some (C, fs) | _ => none) = none
  rw [h]
theorem asS_cell {c : Nat} {xs : List D} (h : μ[c]? = some (.lst xs)) : asS μ (.cell c) = some xs := by
  show (match μ[c]? with | some (MO.lst ds) => some ds | _ => none) = some xs
  rw [h]
theorem ix_cell {c : Nat} {xs : List D} {i : Int} {v : D} (h : μ[c]? = some (.lst xs)) (hi : L2.atI xs i = some v) : ixD (.cell c) (.int i) μ = .ok v μ := by
  show (match (asS μ (.cell c)).bind fun xs => L2.atI xs i with | some d => R.ok d μ | none => .stuck) = _
  rw [asS_cell h]
  show (match L2.atI xs i with | some d => R.ok d μ | none => .stuck) = _
  rw [hi]
theorem len_cell {c : Nat} {xs : List D} (h : μ[c]? = some (.lst xs)) : lenO G [.cell c] μ = .ok (.int xs.length) μ := by
  unfold lenO
  simp only [asO_cell h]
  show (match asS μ (.cell c) with | some ys => R.ok (D.int ys.length) μ | none => .stuck) = _
  rw [asS_cell h]
theorem append_ok {o e : Expr} {ap : Pos} {c : Nat} {xs xs1 : List D} {v : D} (hp : plainO o = true ∧ noStar [e] = true ∧ (ap.endLine == pos.line) = true ∧ G.hot = false) (ho : (den k).e G o ρ μ = .ok (.cell c) μ) (hc : μ[c]? = some (.lst xs)) (he : (den k).e G e ρ μ = .ok v μ1) (hc1 : μ1[c]? = some (.lst xs1)) (hl : xs1.length < sizeLine) :
    (den (k + 1)).e G (.Call (.Attribute o "append" ap) [e] [] pos) ρ μ = .ok .non (μ1.set c (.lst (xs1 ++ [v]))) := by
  show methE (den k) G o "append" [e] (ap.endLine == pos.line) ρ μ = _
  unfold methE
  rw [ho]
  simp only [asO_cell hc]
  show methL (den k) G o "append" [e] (ap.endLine == pos.line) ρ μ = _
  unfold methL
  rw [if_pos hp]
  simp only [↓reduceIte]
  refine bind_ok ho (bind_ok (b := ()) (μ' := μ) ?_ (bind_ok he ?_))
  · unfold chkL
    simp only [hc]
  · unfold appD
    simp only [hc1, hl, ↓reduceIte]
theorem at_end {μ l : Sto} {a : MO} : (μ ++ (a :: l))[μ.length]? = some a := by simp
theorem set_end {μ l : Sto} {a b : MO} : (μ ++ (a :: l)).set μ.length b = μ ++ (b :: l) := by simp
/-- the items of an inner clause, one by one -/
theorem inner_copy {r : Dn} {tg elt : Expr} {ρ' : D → Sl} : ∀ (ys acc : List D), (∀ y, gD G tg y ρ = some (ρ' y) ∧ r.e G elt (ρ' y) μ = .ok y μ) → acc.length + ys.length ≤ sizeLine → clauseD r G tg [] (leafL r G elt) ρ ys acc μ = .ok (acc ++ ys) μ
  | [], acc, _, _ => by rw [List.append_nil]; rfl
  | y :: ys, acc, h, hl => by
    rw [List.length_cons] at hl
    unfold clauseD
    rw [(h y).1]
    refine bind_ok (b := true) (μ' := μ) rfl (bind_ok (b := acc ++ [y]) (μ' := μ) ?_ ?_)
    · refine bind_ok (h y).2 ?_
      show (if acc.length < sizeLine then yes (acc ++ [y]) else stuck : M (List D)) μ = _
      rw [if_pos (by omega)]
      rfl
    · rw [inner_copy ys (acc ++ [y]) h (by rw [List.length_append]; simp only [List.length_singleton]; omega), List.append_assoc]
      rfl
theorem clause_cons {α : Type} {r : Dn} {tg : Expr} {body : Sl → α → M α} {ρ1 : Sl} {d : D} {a a1 : α} {o : R α} (hg : gD G tg d ρ = some ρ1) (hb : body ρ1 a μ = .ok a1 μ1) (h : clauseD r G tg [] body ρ ds a1 μ1 = o) : clauseD r G tg [] body ρ (d :: ds) a μ = o := by
  unfold clauseD
  rw [hg]
  exact bind_ok (b := true) (μ' := μ) rfl (bind_ok hb h)
theorem clause_nil {α : Type} {r : Dn} {tg : Expr} {body : Sl → α → M α} {a : α} : clauseD r G tg [] body ρ [] a μ = .ok a μ := rfl
end
theorem str_len (x y : Str) : (x ++ y).length = x.length + y.length := PySem.strLen_append x y
theorem empty_app (x : Str) : Str.empty ++ x = x := by
  cases x with
  | mk a => show (⟨#[] ++ a⟩ : Str) = ⟨a⟩; simp
end Pu

set_option Elab.async false
set_option linter.all false
set_option maxRecDepth 100000
/-! Pu30: plain steps: tests, making, fields. -/
namespace Pu
open PySem L2
section
variable {k n : Nat} {G : Pu.Ctx} {ρ : Sl} {μ μ1 μ2 μ3 : Sto} {a b e o : Expr} {rest : List Expr} {p pos : Pos} {u : R Bool}
theorem t_or0 (h : (den k).t G a ρ μ = .ok false μ1) (h2 : (den k).t G (.BoolOp .Or (b :: rest) pos) ρ μ1 = u) : (den (k + 1)).t G (.BoolOp .Or (a :: b :: rest) pos) ρ μ = u := bind_ok h h2
theorem t_or1 (h : (den k).t G a ρ μ = .ok true μ1) : (den (k + 1)).t G (.BoolOp .Or (a :: b :: rest) pos) ρ μ = .ok true μ1 := bind_ok h rfl
theorem t_and1 (h : (den k).t G a ρ μ = .ok true μ1) (h2 : (den k).t G (.BoolOp .And (b :: rest) pos) ρ μ1 = u) : (den (k + 1)).t G (.BoolOp .And (a :: b :: rest) pos) ρ μ = u := bind_ok h h2
theorem t_and0 (h : (den k).t G a ρ μ = .ok false μ1) : (den (k + 1)).t G (.BoolOp .And (a :: b :: rest) pos) ρ μ = .ok false μ1 := bind_ok h rfl
theorem t_one {op : BoolOp} (h : (den k).t G a ρ μ = u) : (den (k + 1)).t G (.BoolOp op [a] pos) ρ μ = u := h
theorem t_not {q : Bool} (h : (den k).t G a ρ μ = .ok q μ1) : (den (k + 1)).t G (.UnaryOp .Not a pos) ρ μ = .ok (!q) μ1 := bind_ok h rfl
theorem t_call {f : Expr} {es : List Expr} {q : Bool} (h : (den k).e G (.Call f es [] pos) ρ μ = .ok (.bl q) μ1) : (den (k + 1)).t G (.Call f es [] pos) ρ μ = .ok q μ1 := bind_ok h rfl
theorem e_cmp {op : CmpOp} {x y : D} {v : R D} (hn : notSet b = true) (h : (den k).e G a ρ μ = .ok x μ1) (h2 : (den k).e G b ρ μ1 = .ok y μ2) (h3 : cmpO G op x y μ2 = v) : (den (k + 1)).e G (.Compare a [op] [b] pos) ρ μ = v := by
  show (if notSet b = true then (do let x ← (den k).e G a ρ; let y ← (den k).e G b ρ; cmpO G op x y) else stuck) μ = _
  rw [if_pos hn]
  exact bind_ok h (bind_ok h2 h3)
theorem t_cmp {op : CmpOp} {x y : D} {q : Bool} (hn : notSet b = true) (h : (den k).e G a ρ μ = .ok x μ1) (h2 : (den k).e G b ρ μ1 = .ok y μ2) (h3 : cmpO G op x y μ2 = .ok (.bl q) μ3) : (den (k + 1)).t G (.Compare a [op] [b] pos) ρ μ = .ok q μ3 := by
  refine bind_ok (b := D.bl q) (μ' := μ3) ?_ rfl
  show (if notSet b = true then (do let x ← (den k).e G a ρ; let y ← (den k).e G b ρ; cmpO G op x y) else stuck) μ = _
  rw [if_pos hn]
  exact bind_ok h (bind_ok h2 h3)
theorem st_fld {r : Dn} {f : Str} {v x : D} (hc : isComp e = false) (h : r.e G e ρ μ = .ok v μ1) (h2 : r.e G o ρ μ1 = .ok x μ2) (h3 : fldD G f x v μ2 = .ok () μ3) : stmD r G (.Assign [.Attribute o f p] e pos) ρ μ = .ok (.next ρ) μ3 := by
  show (if isComp e = false then withX ρ (do let v ← r.e G e ρ; let x ← r.e G o ρ; fldD G f x v) (fun _ => yes (.next ρ)) else stuck) μ = _
  rw [if_pos hc]
  unfold withX
  rw [show (do let v ← r.e G e ρ; let x ← r.e G o ρ; fldD G f x v : M Unit) μ = .ok () μ3 from bind_ok h (bind_ok h2 h3)]
  rfl
theorem make_ok {C : Str} {es : List Expr} {F : List D → M D} {ds : List D} {fs : List (Str × D)} (hc : (okName C = true ∧ noStar es = true ∧ glB G.sc C = true ∧ G.hot = false) ∧ C ≠ "list") (hk : (G.hint pos == 3) = false) (hm : G.make C = some (n, F)) (ha : aD (den k) G es ρ μ = .ok ds μ1) (hl : ds.length = n)
    (h : F (.cell μ1.length :: ds) (μ1 ++ [.obj C []]) = .ok .non (μ1 ++ [.obj C fs])) : (den (k + 1)).e G (.Call (.Name C p) es [] pos) ρ μ = .ok (.obj C fs) (μ1 ++ [.dead]) := by
  have e4 : stepE4 (den k) G (.Call (.Name C p) es [] pos) ρ = makeE (den k) G C n F es pos ρ := by
    unfold stepE4
    simp only [hc.1.2.2.1, ↓reduceIte, hm]
  have e5 : stepE5 (den k) G (.Call (.Name C p) es [] pos) ρ = makeE (den k) G C n F es pos ρ := by
    rw [← e4]
    match es with
    | [] => rfl
    | [a] =>
      show (if C = "list" ∧ G.hint pos = 1 then listCE (den k) G a ρ else stepE4 (den k) G (.Call (.Name C p) [a] [] pos) ρ) = _
      rw [if_neg fun z => hc.2 z.1]
    | _ :: _ :: _ => rfl
  refine (congrFun e5 μ).trans ?_
  unfold makeE
  rw [if_pos hc.1]
  refine bind_ok ha ?_
  rw [if_pos hl]
  refine bind_ok (b := μ1.length) (μ' := μ1 ++ [.obj C []]) rfl (bind_ok h ?_)
  rw [hk]
  unfold madeD
  rw [at_end]
  show R.ok (D.obj C fs) ((μ1 ++ [MO.obj C fs]).set μ1.length MO.dead) = _
  rw [set_end]
theorem fld_end {C f : Str} {l : List (Str × D)} {v : D} (h : G.fld C f = true ∧ l.length < 1000) : fldD G f (.cell μ.length) v (μ ++ [.obj C l]) = .ok () (μ ++ [.obj C (putFD f v l)]) := by
  unfold fldD
  simp only [at_end]
  rw [if_pos h, set_end]
/-- a method of an instance -/
theorem meth_ok {C m : Str} {d : D} {fs : List (Str × D)} {ap : Pos} {es : List Expr} {ds : List D} {F : List D → M D} {v : R D} (hm : m ≠ "get" ∧ plainO o = true ∧ noStar es = true ∧ (ap.endLine == pos.line) = true ∧ G.hot = false ∧ es.length < 30) (ho : (den k).e G o ρ μ = .ok d μ1) (hd : asO μ1 d = some (C, fs)) (hF : G.meth C m = some (n, F)) (hf : fs.lookup m = none) (ha : aD (den k) G es ρ μ1 = .ok ds μ2) (hl : ds.length = n) (h : F (d :: ds) μ2 = v) :
    (den (k + 1)).e G (.Call (.Attribute o m ap) es [] pos) ρ μ = v := by
  have e5 : stepE5 (den k) G (.Call (.Attribute o m ap) es [] pos) ρ = methE (den k) G o m es (ap.endLine == pos.line) ρ := by
    match es with
    | [] => rfl
    | [a] =>
      show (if m = "get" then getE1 (den k) G o a (ap.endLine == pos.line) ρ else _) = _
      rw [if_neg hm.1]
      rfl
    | [a, b] =>
      show (if m = "get" then getE2 (den k) G o a b (ap.endLine == pos.line) ρ else _) = _
      rw [if_neg hm.1]
      rfl
    | _ :: _ :: _ :: _ => rfl
  refine (congrFun e5 μ).trans ?_
  unfold methE
  rw [ho]
  simp only [hd]
  rw [if_pos hm.2]
  unfold instD
  simp only [hF]
  rw [if_pos hf]
  refine bind_ok ha ?_
  rw [if_pos hl]
  exact h
/-- a call of a name that holds an instance -/
theorem callV_ok {C x : Str} {fs : List (Str × D)} {es : List Expr} {ds : List D} {F : List D → M D} {v : R D} (hg : (glB G.sc x = false ∧ x ≠ "list") ∧ noStar es = true ∧ es ≠ [] ∧ G.hot = false) (ho : (den k).e G (.Name x p) ρ μ = .ok (.obj C fs) μ1) (hF : G.dun C "__call__" = some (n, F)) (ha : aD (den k) G es ρ μ1 = .ok ds μ2) (hl : ds.length = n) (h : F (.obj C fs :: ds) μ2 = v) :
    (den (k + 1)).e G (.Call (.Name x p) es [] pos) ρ μ = v := by
  have e4 : stepE4 (den k) G (.Call (.Name x p) es [] pos) ρ = callV (den k) G x p es pos ρ := by
    unfold stepE4
    simp only [hg.1.1, Bool.false_eq_true, ↓reduceIte]
  have e5 : stepE5 (den k) G (.Call (.Name x p) es [] pos) ρ = callV (den k) G x p es pos ρ := by
    rw [← e4]
    match es with
    | [] => rfl
    | [a] =>
      show (if x = "list" ∧ G.hint pos = 1 then listCE (den k) G a ρ else stepE4 (den k) G (.Call (.Name x p) [a] [] pos) ρ) = _
      rw [if_neg fun z => hg.1.2 z.1]
    | _ :: _ :: _ => rfl
  refine (congrFun e5 μ).trans ?_
  unfold callV
  rw [if_pos hg.2]
  refine bind_ok ho ?_
  unfold callVD
  show (match G.dun C "__call__" with
    | some (n, F) => (do let ds ← aD (den k) G es ρ; if ds.length = n then F (.obj C fs :: ds) else stuck)
    | none => stuck) μ1 = _
  rw [hF]
  refine bind_ok ha ?_
  rw [if_pos hl]
  exact h
end
end Pu

set_option Elab.async false
set_option linter.all false
set_option maxRecDepth 100000
/-! Pu31: how long a repr is at most. -/
namespace Pu
open PySem L2
mutual
def wt : PyData → Nat
  | .none => 4
  | .bool _ => 5
  | .int i => i.natAbs.log2 + 9
  | .str x => 10 * x.length + 2
  | .list xs => wtL xs + 4
  | .tuple xs => wtL xs + 4
  | .dict _ => 0
def wtL : List PyData → Nat
  | [] => 0
  | x :: xs => wt x + 2 + wtL xs
end
mutual
def fine : PyData → Bool
  | .none => true
  | .bool _ => true
  | .int i => decide (i.natAbs.log2 < 1920)
  | .str x => x.cps.toList.all fun c => decide (c < 16 ^ 8)
  | .list xs => fineL xs
  | .tuple xs => fineL xs
  | .dict _ => false
def fineL : List PyData → Bool
  | [] => true
  | x :: xs => fine x && fineL xs
end
mutual
theorem fine_ok : ∀ d : PyData, fine d = true → d.showable = true ∧ d.hasDict = false
  | .none, _ => by simp [PyData.showable, PyData.hasDict]
  | .bool _, _ => by simp [PyData.showable, PyData.hasDict]
  | .int i, h => by simpa [PyData.showable, PyData.hasDict, fine] using h
  | .str x, _ => by simp [PyData.showable, PyData.hasDict]
  | .list xs, h => by
    simp only [fine] at h
    simpa only [PyData.showable, PyData.hasDict] using fineL_ok xs h
  | .tuple xs, h => by
    simp only [fine] at h
    simpa only [PyData.showable, PyData.hasDict] using fineL_ok xs h
  | .dict kvs, h => by simp [fine] at h
theorem fineL_ok : ∀ xs : List PyData, fineL xs = true → PyData.showableAll xs = true ∧ PyData.hasDictAll xs = false
  | [], _ => by simp [PyData.showableAll, PyData.hasDictAll]
  | x :: xs, h => by
    simp only [fineL, Bool.and_eq_true] at h
    obtain ⟨h1, h2⟩ := fine_ok x h.1
    obtain ⟨h3, h4⟩ := fineL_ok xs h.2
    simp [PyData.showableAll, PyData.hasDictAll, h1, h2, h3, h4]
end
theorem from_le : ∀ (ts : List Str) (k : Nat) (acc : Str), (textFrom k acc ts).length ≤ acc.length + piled ts
  | [], k, acc => Nat.le_refl _
  | t :: r, k, acc => by
    have h := from_le r (k + 1) (acc ++ (if k > 0 then ", " else "" : String) ++ t)
    have e : (acc ++ (if k > 0 then ", " else "" : String) ++ t).length ≤ acc.length + 2 + t.length := by
      rw [str_len, str_len]
      split
      · exact Nat.le_refl _
      · exact Nat.add_le_add_right (Nat.add_le_add_left (by decide) _) _
    rw [piled_cons]
    show (textFrom (k + 1) _ r).length ≤ _
    omega
theorem int_le (i : Int) : (Str.ofString (toString i)).length ≤ i.natAbs.log2 + 9 := by
  have h := int_text_length_le (a := i) (k := i.natAbs.log2 + 1) (Nat.succ_pos _) (Nat.lt_succ_self _)
  rw [ofString_length]
  omega
mutual
theorem shown_le : ∀ d : PyData, fine d = true → d.shown.length ≤ wt d
  | .none, _ => by simp only [PyData.shown, wt]; decide
  | .bool b, _ => by cases b <;> simp only [PyData.shown, wt] <;> decide
  | .int i, _ => by simp only [PyData.shown, wt]; exact int_le i
  | .str x, h => by
    simp only [PyData.shown, wt]
    refine StrLaws.reprText_len x fun c hc => ?_
    simp only [fine, List.all_eq_true, decide_eq_true_eq] at h
    exact h c hc
  | .list xs, h => by
    simp only [fine] at h
    have h1 := shownL_le xs h
    have h2 := from_le (PyData.shownAll xs) 0 "["
    simp only [PyData.shown, wt, listText]
    rw [str_len]
    have e1 : (("[" : Str)).length = 1 := rfl
    have e2 : ((("]" : String) : Str)).length = 1 := rfl
    omega
  | .tuple xs, h => by
    simp only [fine] at h
    have h1 := shownL_le xs h
    simp only [PyData.shown, wt, tupleText]
    rw [str_len, str_len]
    have e1 : (("(" : Str)).length = 1 := rfl
    have e2 : ((((if (PyData.shownAll xs).length == 1 then ",)" else ")") : String) : Str)).length ≤ 2 := by split <;> decide
    have e3 : (Str.join ", " (PyData.shownAll xs)).length ≤ piled (PyData.shownAll xs) := by
      cases q : PyData.shownAll xs with
      | nil => exact Nat.le_refl _
      | cons a b =>
        have := join_length_add (a :: b) (by simp)
        omega
    omega
  | .dict kvs, h => by simp [fine] at h
theorem shownL_le : ∀ xs : List PyData, fineL xs = true → piled (PyData.shownAll xs) ≤ wtL xs
  | [], _ => by simp [PyData.shownAll, piled, wtL]
  | x :: xs, h => by
    simp only [fineL, Bool.and_eq_true] at h
    have h1 := shown_le x h.1
    have h2 := shownL_le xs h.2
    simp only [PyData.shownAll, wtL, piled_cons]
    omega
end
theorem repr_ok {d : D} {p : PyData} {μ : Sto} (h : toPyT μ d = some p) (hf : fine p = true) (hd : p.depth ≤ 60) (hw : wt p ≤ 1000000) : reprD [d] μ = .ok (.str p.shown) μ := by
  have h1 := shown_le p hf
  obtain ⟨h2, h3⟩ := fine_ok p hf
  have e : sizeLine = 16777216 := rfl
  unfold reprD
  simp only [h]
  rw [if_pos ⟨h2, h3, hd, by omega⟩]
theorem toPyL_app {a b : List D} {p q : List PyData} (h1 : toPyL a = some p) (h2 : toPyL b = some q) : toPyL (a ++ b) = some (p ++ q) := by
  induction a generalizing p with
  | nil => simp only [toPyL, Option.some.injEq] at h1; subst h1; exact h2
  | cons x r ih =>
    simp only [toPyL] at h1
    cases e1 : toPy x with
    | none => rw [e1] at h1; cases h1
    | some y =>
      cases e2 : toPyL r with
      | none => rw [e1, e2] at h1; cases h1
      | some z =>
        rw [e1, e2] at h1
        simp only [Option.some.injEq] at h1
        subst h1
        simp only [List.cons_append, toPyL, e1, ih e2]
end Pu

set_option Elab.async false
set_option linter.all false
set_option maxRecDepth 100000
/-! Pu32: plain steps with draws. -/
namespace Pu
open PySem L2
/-- the pot in cell c, at most n times drawn beyond its number -/
def PotAt (μ : Sto) (c : Nat) (n : Int) : Prop := ∃ a b k : Int, μ[c]? = some (.lst [.int a, .int b, .int k]) ∧ 0 ≤ k ∧ k ≤ n
theorem PotAt.le {μ : Sto} {c : Nat} {n m : Int} (h : PotAt μ c n) (hm : n ≤ m) : PotAt μ c m := let ⟨a, b, k, q1, q2, q3⟩ := h; ⟨a, b, k, q1, q2, by omega⟩
theorem PotAt.app {μ l : Sto} {c : Nat} {n : Int} (h : PotAt μ c n) : PotAt (μ ++ l) c n := let ⟨a, b, k, q1, q2, q3⟩ := h; ⟨a, b, k, by rw [List.getElem?_append_left (List.getElem?_eq_some_iff.mp q1).1, q1], q2, q3⟩
theorem PotAt.lt {μ : Sto} {c : Nat} {n : Int} (h : PotAt μ c n) : c < μ.length := let ⟨a, b, k, q1, q2, q3⟩ := h; (List.getElem?_eq_some_iff.mp q1).1
theorem PotAt.other {μ : Sto} {c i : Nat} {n : Int} {o : MO} (h : PotAt μ c n) (hi : i ≠ c) : PotAt (μ.set i o) c n := let ⟨a, b, k, q1, q2, q3⟩ := h; ⟨a, b, k, by rw [List.getElem?_set_ne hi, q1], q2, q3⟩
theorem set_cell {μ : Sto} {c : Nat} {xs : List D} {j : Int} {i : Nat} {v : D} (h : μ[c]? = some (.lst xs)) (e : ixN xs.length j = some i) : setD (.cell c) (.int j) v μ = .ok () (μ.set c (.lst (xs.set i v))) := by
  show (match μ[c]? with | some (MO.lst xs) => (match ixN xs.length j with | some i => R.ok () (μ.set c (.lst (xs.set i v))) | none => R.stuck) | _ => R.stuck) = _
  rw [h]
  show (match ixN xs.length j with | some i => R.ok () (μ.set c (.lst (xs.set i v))) | none => R.stuck) = _
  rw [e]
theorem at_set {μ : Sto} {c : Nat} {o o' : MO} (h : μ[c]? = some o) : (μ.set c o')[c]? = some o' := by
  have := (List.getElem?_eq_some_iff.mp h).1
  rw [List.getElem?_set_self this]
theorem log_lt {i : Int} (h1 : 0 ≤ i) (h2 : i < 2 ^ 70) : i.natAbs.log2 < 1000 := by
  by_cases e : i.natAbs = 0
  · rw [e]; decide
  · refine Nat.lt_of_lt_of_le ((Nat.log2_lt e).mpr (?_ : i.natAbs < 2 ^ 70)) (by decide)
    omega
theorem mul_ok {i j : Int} {μ : Sto} (h1 : 0 ≤ i) (h2 : i < 2 ^ 70) (h3 : 0 ≤ j) (h4 : j < 2 ^ 70) : binD .Mult (.int i) (.int j) μ = .ok (.int (i * j)) μ := by
  show (if i.natAbs.log2 + j.natAbs.log2 < 1000000 then R.ok (D.int (i * j)) μ else R.stuck) = _
  have := log_lt h1 h2
  have := log_lt h3 h4
  rw [if_pos (by omega)]
theorem mod_ok {i j : Int} {μ : Sto} (h : 0 < j) : binD .Mod (.int i) (.int j) μ = .ok (.int (i % j)) μ := by
  show (if 0 < j then R.ok (D.int (i % j)) μ else R.stuck) = _
  rw [if_pos h]
theorem div_ok {i j : Int} {μ : Sto} (h : 0 < j) (h2 : j < 2 ^ 70) : binD .FloorDiv (.int i) (.int j) μ = .ok (.int (i / j)) μ := by
  show (if 0 < j ∧ j.natAbs.log2 < 9000 then R.ok (D.int (i / j)) μ else R.stuck) = _
  have := log_lt (Int.le_of_lt h) h2
  rw [if_pos ⟨h, by omega⟩]
/-- o[i] = e -/
theorem rs_sub {r : Dn} {G : Pu.Ctx} {ρ : Sl} {μ : Sto} {K : Fl → Sto → Prop} {rest : List Stmt} {o i e : Expr} {p pos : Pos} (hc : isComp e = false ∧ isSlice i = false) (h : Run ((do let v ← r.e G e ρ; let x ← r.e G o ρ; let k ← r.e G i ρ; setD x k v : M Unit) μ) fun _ μ1 => Run (sD r G rest ρ μ1) K) : Run (sD r G (.Assign [.Subscript o i p] e pos :: rest) ρ μ) K := by
  refine rs_cons ?_
  show Run ((if isComp e = false ∧ isSlice i = false then withX ρ (do let v ← r.e G e ρ; let x ← r.e G o ρ; let k ← r.e G i ρ; setD x k v) (fun _ => yes (.next ρ)) else stuck) μ) _
  rw [if_pos hc]
  exact run_with (h.mono fun _ _ q => q)
theorem run_call {k n : Nat} {G : Pu.Ctx} {f : Str} {p pos : Pos} {es : List Expr} {ρ : Sl} {μ μ1 : Sto} {ds : List D} {Q : D → Sto → Prop} (F : List D → M D) (hf : f ≠ "sorted" ∧ f ≠ "list") (hm : G.make f = none) (hfn : G.fn f = some (n, F)) (hc : okName f = true ∧ noStar es = true ∧ glB G.sc f = true ∧ G.hot = false)
    (ha : aD (den k) G es ρ μ = .ok ds μ1) (hl : ds.length = n) (h : Run (F ds μ1) Q) : Run ((den (k + 1)).e G (.Call (.Name f p) es [] pos) ρ μ) Q := by
  obtain ⟨d, μ2, e, q⟩ := h.out
  exact run_ok (call_ok F hf hm hfn hc ha hl e) q
theorem rs_asg {r : Dn} {G : Pu.Ctx} {ρ : Sl} {μ : Sto} {K : Fl → Sto → Prop} {rest : List Stmt} {x : Str} {p pos : Pos} {e : Expr} (hc : isComp e = false ∧ canN G x = true) (h : Run (r.e G e ρ μ) fun d μ1 => ∃ ρ', gN G x d ρ = some ρ' ∧ Run (sD r G rest ρ' μ1) K) : Run (sD r G (.Assign [.Name x p] e pos :: rest) ρ μ) K := by
  refine rs_set (X := r.e G e ρ) ?_ h
  unfold asgN
  rw [if_pos hc.2]
  unfold asgN1
  cases e <;> first | rfl | cases hc.1
theorem if_val {r : Dn} {G : Pu.Ctx} {ρ : Sl} {μ : Sto} {c a b : Expr} {k : Bool} {Q : D → Sto → Prop} (h : r.t G c ρ μ = .ok k μ) (h1 : k = true → Run (r.e G a ρ μ) Q) (h2 : k = false → Run (r.e G b ρ μ) Q) : Run (ifE r G c a b ρ μ) Q := by
  refine run_bind (run_ok h ?_)
  cases k with
  | true => exact h1 rfl
  | false => exact h2 rfl
theorem run_ife {k : Nat} {G : Pu.Ctx} {ρ : Sl} {μ μ1 : Sto} {c a b : Expr} {pos : Pos} {q : Bool} {Q : D → Sto → Prop} (h : (den k).t G c ρ μ = .ok q μ1) (h1 : q = true → Run ((den k).e G a ρ μ1) Q) (h2 : q = false → Run ((den k).e G b ρ μ1) Q) : Run ((den (k + 1)).e G (.IfExp c a b pos) ρ μ) Q := by
  refine run_bind (run_ok h ?_)
  cases q with
  | true => exact h1 rfl
  | false => exact h2 rfl
theorem ix_ints {ns : List Int} {i : Nat} {μ : Sto} (h : i < ns.length) : ixD (.frz (ns.map D.int)) (.int i) μ = .ok (.int ns[i]) μ := by
  show (match (some (ns.map D.int)).bind (fun xs => L2.atI xs (i : Int)) with | some d => R.ok d μ | none => R.stuck) = _
  rw [Option.bind_some, L2.atI_nat (v := D.int ns[i]) (by rw [List.getElem?_map, List.getElem?_eq_getElem h]; rfl)]
theorem at_int {xs : List D} {r : Int} (h0 : 0 ≤ r) (h1 : r < xs.length) : ∃ d ∈ xs, L2.atI xs r = some d := by
  obtain ⟨k, rfl⟩ := Int.eq_ofNat_of_zero_le h0
  have hk : k < xs.length := by omega
  exact ⟨xs[k], List.getElem_mem hk, L2.atI_nat (List.getElem?_eq_getElem hk)⟩
theorem rs_tup {r : Dn} {G : Pu.Ctx} {ρ : Sl} {μ : Sto} {K : Fl → Sto → Prop} {rest : List Stmt} {ts vs : List Expr} {p p2 pos : Pos} {k k2 : Nat} (h0 : G.hot = false) (h1 : swKind G.sc ts vs = 0)
    (h : Run (r.e G (.Tuple vs k2 p2) ρ μ) fun d μ1 => ∃ ρ', gD G (.Tuple ts k p) d ρ = some ρ' ∧ Run (sD r G rest ρ' μ1) K) : Run (sD r G (.Assign [.Tuple ts k p] (.Tuple vs k2 p2) pos :: rest) ρ μ) K := by
  refine rs_cons ?_
  show Run ((if G.hot = false then (if swKind G.sc ts vs = 0 then withX ρ (r.e G (.Tuple vs k2 p2) ρ) (fun d => storeT G (.Tuple ts k p) d ρ) else if swKind G.sc ts vs = 1 then swapD r G ts vs ρ else stuck) else stuck) μ) _
  rw [if_pos h0, if_pos h1]
  refine run_with (h.mono fun d μ1 q => ?_)
  obtain ⟨ρ', e, q⟩ := q
  unfold storeT
  rw [e]
  exact q
def gr : Int := ((10 : Int) ^ 61) ^ 11
theorem gr_pos : 0 < gr := by decide +kernel
theorem run_a_nil {k : Nat} {G : Pu.Ctx} {ρ : Sl} {μ : Sto} {Q : List D → Sto → Prop} (h : Q [] μ) : Run (aD (den k) G [] ρ μ) Q := h
theorem run_a_cons {k : Nat} {G : Pu.Ctx} {ρ : Sl} {μ : Sto} {e : Expr} {es : List Expr} {Q : List D → Sto → Prop} (h : Run ((den k).e G e ρ μ) fun d μ1 => Run (aD (den k) G es ρ μ1) fun ds μ2 => Q (d :: ds) μ2) : Run (aD (den k) G (e :: es) ρ μ) Q :=
  run_bind (h.mono fun d μ1 q => run_bind (q.mono fun ds μ2 z => z))
theorem run_tup {k x : Nat} {G : Pu.Ctx} {ρ : Sl} {μ : Sto} {es : List Expr} {pos : Pos} {Q : D → Sto → Prop} (hn : noStar es = true) (h : Run (aD (den k) G es ρ μ) fun ds μ1 => ds.length ≤ 1000 ∧ Q (.tup ds) μ1) : Run ((den (k + 1)).e G (.Tuple es x pos) ρ μ) Q := by
  obtain ⟨ds, μ1, e, h1, q⟩ := h.out
  exact run_ok (tup_ok hn e (Nat.le_trans h1 (by decide))) q
end Pu

set_option Elab.async false
set_option linter.all false
set_option maxRecDepth 100000
/-! Pu33: xs.pop(e), plain. -/
namespace Pu
open PySem L2
theorem seqIx {k n : Nat} (h : k < n) : seqIndex? (k : Int) n = some k := by
  have e : ¬ ((k : Int) < 0) := by omega
  unfold seqIndex?
  simp only [e, if_false]
  simp [h]
theorem run_pop {k : Nat} {G : Pu.Ctx} {ρ : Sl} {μ : Sto} {o e : Expr} {ap pos : Pos} {c : Nat} {xs0 : List D} {Q : D → Sto → Prop} (hp : plainO o = true ∧ noStar [e] = true ∧ (ap.endLine == pos.line) = true ∧ G.hot = false) (ho : (den k).e G o ρ μ = .ok (.cell c) μ) (hc : μ[c]? = some (.lst xs0))
    (he : Run ((den k).e G e ρ μ) fun d μ1 => ∃ (xs : List D) (j : Nat) (z : D), d = .int j ∧ μ1[c]? = some (.lst xs) ∧ xs[j]? = some z ∧ xs.length < 1000 ∧ Q z (μ1.set c (.lst (xs.eraseIdx j)))) : Run ((den (k + 1)).e G (.Call (.Attribute o "pop" ap) [e] [] pos) ρ μ) Q := by
  obtain ⟨d, μ1, e1, xs, j, z, rfl, h1, h2, h3, h4⟩ := he.out
  refine run_ok ?_ h4
  show methE (den k) G o "pop" [e] (ap.endLine == pos.line) ρ μ = _
  unfold methE
  rw [ho]
  simp only [asO_cell hc]
  show methL (den k) G o "pop" [e] (ap.endLine == pos.line) ρ μ = _
  unfold methL
  rw [if_pos hp]
  simp only [show ¬ (("pop" : Str) = "append") by decide +kernel, ↓reduceIte]
  refine bind_ok ho (bind_ok (b := ()) (μ' := μ) ?_ (bind_ok e1 ?_))
  · unfold chkL
    simp only [hc]
  · have hj : j < xs.length := (List.getElem?_eq_some_iff.mp h2).1
    unfold popD
    simp only [h1]
    rw [if_pos ⟨by omega, by omega⟩, seqIx hj]
    simp only [h2]
theorem i_rng {k n : Nat} {G : Pu.Ctx} {tg a : Expr} {p pos : Pos} {ρ : Sl} {μ μ1 : Sto} (hc : glB G.sc "range" = true ∧ G.isB "range" = true ∧ noStar [a] = true) (h : (den k).e G a ρ μ = .ok (.int n) μ1) (hn : n ≤ 1000000) : iD (den k) G tg (.Call (.Name "range" p) [a] [] pos) ρ μ = .ok (rangeL 0 n) μ1 := by
  have e : iD (den k) G tg (.Call (.Name "range" p) [a] [] pos) ρ = (if glB G.sc "range" = true ∧ G.isB "range" = true ∧ noStar [a] = true then (do
      let d ← (den k).e G a ρ
      fun μ => match d with
        | .int j => if -(2 ^ 62) ≤ j ∧ j < 2 ^ 62 then .ok (rangeL 0 j.toNat) μ else .stuck
        | _ => .stuck) else stuck) := by
    unfold iD ishape
    cases tg <;> rfl
  rw [e, if_pos hc]
  refine bind_ok h ?_
  have h2 : -(2 ^ 62) ≤ (n : Int) ∧ (n : Int) < 2 ^ 62 := ⟨by omega, by omega⟩
  simp only [h2, and_self, ↓reduceIte, Int.toNat_natCast]
/-- a call of a name that holds a class -/
theorem callC_ok {k n : Nat} {G : Pu.Ctx} {C x : Str} {p pos : Pos} {es : List Expr} {ds : List D} {F : List D → M D} {ρ : Sl} {μ μ1 μ2 : Sto} {fs : List (Str × D)} (hg : (glB G.sc x = false ∧ x ≠ "list") ∧ noStar es = true ∧ es ≠ [] ∧ G.hot = false) (hk : (G.hint pos == 3) = false) (ho : (den k).e G (.Name x p) ρ μ = .ok (.adr C) μ1) (hF : G.make C = some (n, F)) (ha : aD (den k) G es ρ μ1 = .ok ds μ2) (hl : ds.length = n) (h : F (.cell μ2.length :: ds) (μ2 ++ [.obj C []]) = .ok .non (μ2 ++ [.obj C fs])) :
    (den (k + 1)).e G (.Call (.Name x p) es [] pos) ρ μ = .ok (.obj C fs) (μ2 ++ [.dead]) := by
  have e4 : stepE4 (den k) G (.Call (.Name x p) es [] pos) ρ = callV (den k) G x p es pos ρ := by
    unfold stepE4
    simp only [hg.1.1, Bool.false_eq_true, ↓reduceIte]
  have e5 : stepE5 (den k) G (.Call (.Name x p) es [] pos) ρ = callV (den k) G x p es pos ρ := by
    rw [← e4]
    match es with
    | [] => rfl
    | [a] =>
      show (if x = "list" ∧ G.hint pos = 1 then listCE (den k) G a ρ else stepE4 (den k) G (.Call (.Name x p) [a] [] pos) ρ) = _
      rw [if_neg fun z => hg.1.2 z.1]
    | _ :: _ :: _ => rfl
  refine (congrFun e5 μ).trans ?_
  unfold callV
  rw [if_pos hg.2]
  refine bind_ok ho ?_
  unfold callVD
  show (match G.make C with
    | some (n, F) => (do
        let ds ← aD (den k) G es ρ
        if ds.length = n then (do
          let i ← newO C
          let y ← F (.cell i :: ds)
          madeD (G.hint pos == 3) i y) else stuck)
    | none => stuck) μ1 = _
  rw [hF]
  refine bind_ok ha ?_
  rw [if_pos hl]
  refine bind_ok (b := μ2.length) (μ' := μ2 ++ [.obj C []]) rfl (bind_ok h ?_)
  rw [hk]
  unfold madeD
  rw [at_end]
  show R.ok (D.obj C fs) ((μ2 ++ [MO.obj C fs]).set μ2.length MO.dead) = _
  rw [set_end]
/-- (a, b) = e, f by swapped stores -/
theorem rs_sw {r : Dn} {G : Pu.Ctx} {ρ : Sl} {μ : Sto} {K : Fl → Sto → Prop} {st : Stmt} {rest : List Stmt} {vs : List Expr} {S : List D → M Fl} (h0 : stmD r G st ρ = withX ρ (aD r G vs ρ) S) (h : Run (aD r G vs ρ μ) fun ds μ1 => ∃ ρ', S ds μ1 = .ok (.next ρ') μ1 ∧ Run (sD r G rest ρ' μ1) K) : Run (sD r G (st :: rest) ρ μ) K := by
  refine rs_cons ?_
  rw [h0]
  refine run_with (h.mono fun ds μ1 q => ?_)
  obtain ⟨ρ', e, q⟩ := q
  rw [e]
  exact q
/-- a class method of a class that a name holds -/
theorem clsm_ok {k n : Nat} {G : Pu.Ctx} {C m : Str} {o : Expr} {ap pos : Pos} {es : List Expr} {ds : List D} {F : List D → M D} {ρ : Sl} {μ μ1 μ2 : Sto} {v : R D} (hm : m ≠ "get" ∧ (plainO o = true ∧ noStar es = true ∧ (ap.endLine == pos.line) = true ∧ G.hot = false ∧ es.length < 30) ∧ es ≠ []) (ho : (den k).e G o ρ μ = .ok (.adr C) μ1) (hF : G.cmeth C m = some (n, F)) (ha : aD (den k) G es ρ μ1 = .ok ds μ2) (hl : ds.length = n) (h : F (.adr C :: ds) μ2 = v) :
    (den (k + 1)).e G (.Call (.Attribute o m ap) es [] pos) ρ μ = v := by
  have e5 : stepE5 (den k) G (.Call (.Attribute o m ap) es [] pos) ρ = methE (den k) G o m es (ap.endLine == pos.line) ρ := by
    match es with
    | [] => rfl
    | [a] =>
      show (if m = "get" then getE1 (den k) G o a (ap.endLine == pos.line) ρ else _) = _
      rw [if_neg hm.1]
      rfl
    | [a, b] =>
      show (if m = "get" then getE2 (den k) G o a b (ap.endLine == pos.line) ρ else _) = _
      rw [if_neg hm.1]
      rfl
    | _ :: _ :: _ :: _ => rfl
  refine (congrFun e5 μ).trans ?_
  unfold methE
  rw [ho]
  show (if plainO o = true ∧ noStar es = true ∧ (ap.endLine == pos.line) = true ∧ G.hot = false ∧ es.length < 30 then clsmD (den k) G C m es ρ μ1 else .stuck) = _
  rw [if_pos hm.2.1]
  unfold clsmD
  simp only [hF]
  rw [if_pos hm.2.2]
  refine bind_ok ha ?_
  rw [if_pos hl]
  exact h
theorem range_len {lo : Int} {n : Nat} : (rangeL lo n).length = n := by simp [rangeL]
end Pu

set_option Elab.async false
set_option linter.all false
set_option maxRecDepth 100000
/-! k41: the contexts and the dens of the law's defs (printed by lawgen2.py). -/
namespace K41
open PySem L2 Pu
abbrev prog : Program := PySem.Challenge.pw_loneguess_k41_formulas_told
def top (i : Nat) : Stmt := prog.main.body.getD i (.Pass ⟨0, 0, 0, 0⟩)
def clsBody : Stmt → List Stmt
  | .ClassDef _ _ _ b _ _ _ _ _ _ _ => b
  | _ => []
def mtop (i j : Nat) : Stmt := (clsBody (top i)).getD j (.Pass ⟨0, 0, 0, 0⟩)
def blts : List Str := ["abs", "all", "classmethod", "int", "isinstance", "len", "list", "max", "min", "property", "range", "repr", "set", "sorted", "str", "sum", "tuple", "zip"]
def globs : List (Str × D) := [("MAX_LETTERS", .int 8), ("MAX_NAMES", .int 4), ("MAX_DEPTH", .int 8), ("WORDS", .tup [.str "all", .str "and", .str "none", .str "not", .str "or"]), ("ALL", .str "all"), ("AND", .str "and"), ("NONE", .str "none"), ("NOT", .str "not"), ("OR", .str "or"), ("NAME", .str "name"), ("Formula", .adr "Formula")]
def hintOf (p : Pos) : Nat := if (p.line == 137 && p.col == 11) = true then 1 else if (p.line == 150 && p.col == 17) = true then 1 else if (p.line == 184 && p.col == 17) = true then 1 else 0
def xcs : List Str := ["InvalidName", "InvalidFormula", "InvalidOperation"]
def catOf (c x : Str) : Option Bool := none
def flds : List (Str × Str) := [("Formula", "own_tree"), ("Formula", "own_names")]
def clss : List Str := ["Formula"]
abbrev Fn := Nat × (List D → M D)
def cx (st : Stmt) (N : List Str) (k : Nat) (fs : List (Str × Fn)) (ms ds : List ((Str × Str) × Fn)) (pr : List ((Str × Str) × (List D → M D))) (mk : List (Str × Fn)) (cm : List ((Str × Str) × Fn)) : Pu.Ctx :=
  { N := N, sc := defScope st, own := fun _ => true, glob := fun x => globs.lookup x, fn := fun x => fs.lookup x, isB := fun x => blts.contains x, xc := fun x => xcs.contains x, cat := catOf, hint := hintOf, k := k, hot := false,
    fld := fun C f => flds.contains (C, f), meth := fun C m => ms.lookup (C, m), make := fun C => mk.lookup C, dun := fun C m => ds.lookup (C, m), prop := fun C m => pr.lookup (C, m), ne := fun C => clss.contains C, cmeth := fun C m => cm.lookup (C, m), cls := fun C => clss.contains C,
    sub := fun C B => if (C == B && clss.contains C) = true then some true else none }
abbrev s__law_bit : Stmt := top 31
abbrev g__law_bit : Pu.Ctx := cx s__law_bit ["_law_pot_here", "_law_much", "_law_first", "_law_later", "_law_found"] 0 [] [] [] [] [] []
def d__law_bit : List D → M D := defD 40 g__law_bit (defBody s__law_bit)
abbrev s__law_pick : Stmt := top 32
abbrev g__law_pick : Pu.Ctx := cx s__law_pick ["_law_pot_here", "_law_items"] 1 [("_law_bit", 2, d__law_bit)] [] [] [] [] []
def d__law_pick : List D → M D := defD 40 g__law_pick (defBody s__law_pick)
abbrev s__law_tree : Stmt := top 34
abbrev g__law_tree (n : Nat) (F : List D → M D) : Pu.Ctx := cx s__law_tree ["_law_pot_here", "_law_words", "_law_deep", "_law_lot"] (2 + 1 * n + 0) [("_law_bit", 2, d__law_bit), ("_law_tree", 3, F), ("_law_pick", 2, d__law_pick)] [] [] [] [] []
def d__law_tree : Nat → List D → M D
  | 0 => fun _ => stuck
  | n + 1 => defD 40 (g__law_tree n (d__law_tree n)) (defBody s__law_tree)
abbrev s__law_dealt : Stmt := top 33
abbrev g__law_dealt : Pu.Ctx := cx s__law_dealt ["_law_pot_here", "_law_items", "_law_waits", "_law_turn"] 1 [("_law_bit", 2, d__law_bit)] [] [] [] [] []
def d__law_dealt : List D → M D := defD 40 g__law_dealt (defBody s__law_dealt)
abbrev s__law_sets_of : Stmt := top 37
abbrev g__law_sets_of : Pu.Ctx := cx s__law_sets_of ["_law_words", "_law_found", "_law_word", "_law_order", "_law_size", "_law_some"] 0 [] [] [] [] [] []
def d__law_sets_of : List D → M D := defD 40 g__law_sets_of (defBody s__law_sets_of)
abbrev s__law_so : Stmt := top 35
abbrev g__law_so (n : Nat) (F : List D → M D) : Pu.Ctx := cx s__law_so ["_law_tree_here", "_law_words", "_law_some"] (0 + 1 * n + 0) [("_law_so", 2, F)] [] [] [] [] []
def d__law_so : Nat → List D → M D
  | 0 => fun _ => stuck
  | n + 1 => defD 40 (g__law_so n (d__law_so n)) (defBody s__law_so)
abbrev s__law_words_in : Stmt := top 36
abbrev g__law_words_in (n : Nat) (F : List D → M D) : Pu.Ctx := cx s__law_words_in ["_law_tree_here", "_law_found", "_law_part"] (0 + 1 * n + 0) [("_law_words_in", 1, F)] [] [] [] [] []
def d__law_words_in : Nat → List D → M D
  | 0 => fun _ => stuck
  | n + 1 => defD 40 (g__law_words_in n (d__law_words_in n)) (defBody s__law_words_in)
abbrev s__law_count : Stmt := top 39
abbrev g__law_count (n : Nat) (F : List D → M D) : Pu.Ctx := cx s__law_count ["_law_tree_here", "_law_part"] (0 + 1 * n + 0) [("_law_count", 1, F)] [] [] [] [] []
def d__law_count : Nat → List D → M D
  | 0 => fun _ => stuck
  | n + 1 => defD 40 (g__law_count n (d__law_count n)) (defBody s__law_count)
abbrev s__law_tree_text : Stmt := top 38
abbrev g__law_tree_text (n : Nat) (F : List D → M D) : Pu.Ctx := cx s__law_tree_text ["_law_tree_here", "_law_parts", "_law_part", "_law_told"] (0 + 1 * n + 0) [("_law_tree_text", 1, F)] [] [] [] [] []
def d__law_tree_text : Nat → List D → M D
  | 0 => fun _ => stuck
  | n + 1 => defD 40 (g__law_tree_text n (d__law_tree_text n)) (defBody s__law_tree_text)
abbrev s_is_so : Stmt := top 25
abbrev g_is_so (n : Nat) (F : List D → M D) : Pu.Ctx := cx s_is_so ["tree", "names"] (0 + 1 * n + 0) [("is_so", 2, F)] [] [] [] [] []
def d_is_so : Nat → List D → M D
  | 0 => fun _ => stuck
  | n + 1 => defD 40 (g_is_so n (d_is_so n)) (defBody s_is_so)
abbrev s_is_ascending : Stmt := top 10
abbrev g_is_ascending : Pu.Ctx := cx s_is_ascending ["values", "one", "other"] 0 [] [] [] [] [] []
def d_is_ascending : List D → M D := defD 40 g_is_ascending (defBody s_is_ascending)
abbrev s_are_small : Stmt := top 8
abbrev g_are_small : Pu.Ctx := cx s_are_small ["text", "sign"] 0 [] [] [] [] [] []
def d_are_small : List D → M D := defD 40 g_are_small (defBody s_are_small)
abbrev s_is_name : Stmt := top 9
abbrev g_is_name : Pu.Ctx := cx s_is_name ["value"] 1 [("are_small", 1, d_are_small)] [] [] [] [] []
def d_is_name : List D → M D := defD 40 g_is_name (defBody s_is_name)
abbrev s_Formula_holds : Stmt := mtop 28 4
abbrev g_Formula_holds : Pu.Ctx := cx s_Formula_holds ["self", "names", "name"] 10 [("is_so", 2, (d_is_so 10)), ("is_ascending", 1, d_is_ascending), ("is_name", 1, d_is_name)] [] [] [] [] []
def d_Formula_holds : List D → M D := defD 40 g_Formula_holds (defBody s_Formula_holds)
abbrev s_Formula_tree : Stmt := mtop 28 2
abbrev g_Formula_tree : Pu.Ctx := cx s_Formula_tree ["self"] 0 [] [] [] [] [] []
def d_Formula_tree : List D → M D := defD 40 g_Formula_tree (defBody s_Formula_tree)
abbrev s_Formula_names : Stmt := mtop 28 3
abbrev g_Formula_names : Pu.Ctx := cx s_Formula_names ["self"] 0 [] [] [] [] [] []
def d_Formula_names : List D → M D := defD 40 g_Formula_names (defBody s_Formula_names)
abbrev s_trees_in : Stmt := top 24
abbrev g_trees_in (n : Nat) (F : List D → M D) : Pu.Ctx := cx s_trees_in ["tree", "part", "inner"] (0 + 1 * n + 0) [("trees_in", 1, F)] [] [] [] [] []
def d_trees_in : Nat → List D → M D
  | 0 => fun _ => stuck
  | n + 1 => defD 40 (g_trees_in n (d_trees_in n)) (defBody s_trees_in)
abbrev s_Formula___len__ : Stmt := mtop 28 12
abbrev g_Formula___len__ : Pu.Ctx := cx s_Formula___len__ ["self"] 10 [("trees_in", 1, (d_trees_in 10))] [] [] [] [] []
def d_Formula___len__ : List D → M D := defD 40 g_Formula___len__ (defBody s_Formula___len__)
abbrev s_part_text : Stmt := top 26
abbrev s_text_of : Stmt := top 27
abbrev g_part_text (n : Nat) (F : List D → M D) : Pu.Ctx := cx s_part_text ["tree"] (0 + 2 * n + 0) [("text_of", 1, F)] [] [] [] [] []
def h_part_text (n : Nat) (F : List D → M D) : List D → M D := defD 40 (g_part_text n F) (defBody s_part_text)
abbrev g_text_of (n : Nat) (F : List D → M D) : Pu.Ctx := cx s_text_of ["tree"] (0 + 2 * n + 1) [("part_text", 1, (h_part_text n F))] [] [] [] [] []
def d_text_of : Nat → List D → M D
  | 0 => fun _ => stuck
  | n + 1 => defD 40 (g_text_of n (d_text_of n)) (defBody s_text_of)
abbrev s_Formula___str__ : Stmt := mtop 28 14
abbrev g_Formula___str__ : Pu.Ctx := cx s_Formula___str__ ["self"] 20 [("text_of", 1, (d_text_of 10))] [] [] [] [] []
def d_Formula___str__ : List D → M D := defD 40 g_Formula___str__ (defBody s_Formula___str__)
abbrev s_Formula___call__ : Stmt := mtop 28 6
abbrev g_Formula___call__ : Pu.Ctx := cx s_Formula___call__ ["self", "names"] 11 [] [(("Formula", "holds"), 1, d_Formula_holds)] [] [] [] []
def d_Formula___call__ : List D → M D := defD 40 g_Formula___call__ (defBody s_Formula___call__)
abbrev s__law_told_right : Stmt := top 40
abbrev g__law_told_right : Pu.Ctx := cx s__law_told_right ["_law_made", "_law_tree_here", "_law_words", "_law_told", "_law_some", "_law_due"] 23 [("_law_sets_of", 1, d__law_sets_of), ("_law_so", 2, (d__law_so 10)), ("_law_words_in", 1, (d__law_words_in 10)), ("_law_count", 1, (d__law_count 10)), ("_law_tree_text", 1, (d__law_tree_text 10))] [(("Formula", "holds"), 1, d_Formula_holds)] [(("Formula", "__len__"), 0, d_Formula___len__), (("Formula", "__str__"), 0, d_Formula___str__), (("Formula", "__call__"), 1, d_Formula___call__)] [(("Formula", "tree"), d_Formula_tree), (("Formula", "names"), d_Formula_names)] [] []
def d__law_told_right : List D → M D := defD 40 g__law_told_right (defBody s__law_told_right)
abbrev s_is_free_name : Stmt := top 21
abbrev g_is_free_name : Pu.Ctx := cx s_is_free_name ["value"] 2 [("is_name", 1, d_is_name)] [] [] [] [] []
def d_is_free_name : List D → M D := defD 40 g_is_free_name (defBody s_is_free_name)
abbrev s_is_tree_within : Stmt := top 22
abbrev g_is_tree_within (n : Nat) (F : List D → M D) : Pu.Ctx := cx s_is_tree_within ["value", "deep", "sizes", "part"] (3 + 1 * n + 0) [("is_free_name", 1, d_is_free_name), ("is_tree_within", 2, F)] [] [] [] [] []
def d_is_tree_within : Nat → List D → M D
  | 0 => fun _ => stuck
  | n + 1 => defD 40 (g_is_tree_within n (d_is_tree_within n)) (defBody s_is_tree_within)
abbrev s_names_in : Stmt := top 23
abbrev g_names_in (n : Nat) (F : List D → M D) : Pu.Ctx := cx s_names_in ["tree", "part", "name"] (0 + 1 * n + 0) [("names_in", 1, F)] [] [] [] [] []
def d_names_in : Nat → List D → M D
  | 0 => fun _ => stuck
  | n + 1 => defD 40 (g_names_in n (d_names_in n)) (defBody s_names_in)
abbrev s_Formula___init__ : Stmt := mtop 28 0
abbrev g_Formula___init__ : Pu.Ctx := cx s_Formula___init__ ["self", "tree"] 13 [("is_tree_within", 2, (d_is_tree_within 10)), ("names_in", 1, (d_names_in 10))] [] [] [] [] []
def d_Formula___init__ : List D → M D := defD 40 g_Formula___init__ (defBody s_Formula___init__)
abbrev s_Formula_of : Stmt := mtop 28 1
abbrev g_Formula_of : Pu.Ctx := cx s_Formula_of ["cls", "name"] 15 [("is_free_name", 1, d_is_free_name)] [] [] [] [("Formula", 1, d_Formula___init__)] []
def d_Formula_of : List D → M D := defD 40 g_Formula_of (defBody s_Formula_of)
abbrev s_Formula___eq__ : Stmt := mtop 28 13
abbrev g_Formula___eq__ : Pu.Ctx := cx s_Formula___eq__ ["self", "value"] 0 [] [] [] [] [] []
def d_Formula___eq__ : List D → M D := defD 40 g_Formula___eq__ (defBody s_Formula___eq__)
abbrev s__law_right : Stmt := top 41
abbrev g__law_right : Pu.Ctx := cx s__law_right ["_law_pot_here", "_law_words", "_law_turn", "_law_shown", "_law_again", "_law_odd", "_law_tree_here", "_law_other", "_law_made", "_law_near", "_law_twin", "_law_told", "_law_word", "_law_value"] 24 [("_law_tree", 3, (d__law_tree 10)), ("_law_dealt", 2, d__law_dealt), ("_law_told_right", 3, d__law_told_right), ("_law_bit", 2, d__law_bit)] [] [(("Formula", "__eq__"), 1, d_Formula___eq__), (("Formula", "__str__"), 0, d_Formula___str__)] [] [("Formula", 1, d_Formula___init__)] [(("Formula", "of"), 1, d_Formula_of)]
def d__law_right : List D → M D := defD 40 g__law_right (defBody s__law_right)
abbrev s__law_pot : Stmt := top 30
abbrev g__law_pot : Pu.Ctx := cx s__law_pot ["_law_script", "_law_at", "_law_cell", "_law_great", "_law_blend"] 0 [] [] [] [] [] []
def d__law_pot : List D → M D := defD 40 g__law_pot (defBody s__law_pot)
abbrev s_law : Stmt := top 42
abbrev g_law : Pu.Ctx := cx s_law ["_law_script", "_law_at", "_law_told"] 25 [("_law_right", 1, d__law_right), ("_law_pot", 2, d__law_pot)] [(("Formula", "holds"), 1, d_Formula_holds)] [(("Formula", "__str__"), 0, d_Formula___str__), (("Formula", "__len__"), 0, d_Formula___len__)] [] [("Formula", 1, d_Formula___init__)] []
def d_law : List D → M D := defD 40 g_law (defBody s_law)
end K41

set_option Elab.async false
set_option linter.all false
set_option maxRecDepth 100000
set_option maxHeartbeats 1000000
/-! k41: trees; what is true; which trees there are. -/
namespace K41
open PySem L2 Pu
inductive T where
  | nm (w : Str) | al | no | neg (t : T) | an (a b : T) | orr (a b : T)
def T.d : T → D
  | .nm w => .tup [.str "name", .str w]
  | .al => .tup [.str "all"]
  | .no => .tup [.str "none"]
  | .neg t => .tup [.str "not", t.d]
  | .an a b => .tup [.str "and", a.d, b.d]
  | .orr a b => .tup [.str "or", a.d, b.d]
def T.dep : T → Nat
  | .nm _ => 1
  | .al => 1
  | .no => 1
  | .neg t => t.dep + 1
  | .an a b => max a.dep b.dep + 1
  | .orr a b => max a.dep b.dep + 1
/-! ### is_so, the law's own -/
def inW (w : Str) (ws : List Str) : Bool := inV (.str w) ((ws.map D.str).map flatOf)
def so : T → List Str → Bool
  | .nm w, ws => inW w ws
  | .al, _ => true
  | .no, _ => false
  | .neg t, ws => !so t ws
  | .an a b, ws => so a ws && so b ws
  | .orr a b, ws => so a ws || so b ws
abbrev names (ws : List Str) : D := .tup (ws.map D.str)
theorem flat_strs : ∀ ws : List Str, (ws.map D.str).all flatD = true
  | [] => rfl
  | w :: r => by rw [List.map_cons, List.all_cons, flat_strs r]; rfl
theorem in_names (w : Str) (ws : List Str) (μ : Sto) : inD false (.str w) (names ws) μ = .ok (.bl (inW w ws)) μ := by
  show (if flatD (.str w) = true ∧ (ws.map D.str).all flatD = true then R.ok (D.bl (inV (.str w) ((ws.map D.str).map flatOf))) μ else .stuck) = _
  rw [if_pos ⟨rfl, flat_strs ws⟩]
  rfl
section
variable {n : Nat} {x y ns : D} {μ : Sto} {b c : Bool}
theorem so_nm (w : Str) (ws : List Str) : d_is_so (n + 1) [.tup [.str "name", .str w], names ws] μ = .ok (.bl (inW w ws)) μ :=
  end_ifR (μ1 := μ) rfl (s_ret (bind_ok (b := D.str w) (μ' := μ) rfl (bind_ok (b := names ws) (μ' := μ) rfl (in_names w ws μ))))
theorem so_neg (h : d_is_so n [x, ns] μ = .ok (.bl b) μ) : d_is_so (n + 1) [.tup [.str "not", x], ns] μ = .ok (.bl (!b)) μ := by
  refine (end_if0 rfl rfl).trans ((end_if0 rfl rfl).trans ((end_if0 rfl rfl).trans (end_ret.trans ?_)))
  exact bind_ok (b := true) (μ' := μ) rfl (bind_ok (b := D.bl b) (μ' := μ) (call_ok (d_is_so n) (ds := [x, ns]) (by decide +kernel) rfl rfl ⟨rfl, rfl, rfl, rfl⟩ rfl rfl h) rfl)
theorem so_an (h : d_is_so n [x, ns] μ = .ok (.bl b) μ) (h2 : d_is_so n [y, ns] μ = .ok (.bl c) μ) : d_is_so (n + 1) [.tup [.str "and", x, y], ns] μ = .ok (.bl (b && c)) μ := by
  refine (end_if0 rfl rfl).trans (end_ifR (μ1 := μ) rfl (s_ret ?_))
  refine bind_ok (b := D.bl b) (μ' := μ) (call_ok (d_is_so n) (ds := [x, ns]) (by decide +kernel) rfl rfl ⟨rfl, rfl, rfl, rfl⟩ rfl rfl h) (bind_ok (b := b) (μ' := μ) rfl ?_)
  cases b with
  | false => rfl
  | true => exact bool_one.trans <| call_ok (d_is_so n) (ds := [y, ns]) (by decide +kernel) rfl rfl ⟨rfl, rfl, rfl, rfl⟩ rfl rfl h2
theorem so_or (h : d_is_so n [x, ns] μ = .ok (.bl b) μ) (h2 : d_is_so n [y, ns] μ = .ok (.bl c) μ) : d_is_so (n + 1) [.tup [.str "or", x, y], ns] μ = .ok (.bl (b || c)) μ := by
  refine (end_if0 rfl rfl).trans ((end_if0 rfl rfl).trans (end_ifR (μ1 := μ) rfl (s_ret ?_)))
  refine bind_ok (b := D.bl b) (μ' := μ) (call_ok (d_is_so n) (ds := [x, ns]) (by decide +kernel) rfl rfl ⟨rfl, rfl, rfl, rfl⟩ rfl rfl h) (bind_ok (b := b) (μ' := μ) rfl ?_)
  cases b with
  | true => rfl
  | false => exact bool_one.trans <| call_ok (d_is_so n) (ds := [y, ns]) (by decide +kernel) rfl rfl ⟨rfl, rfl, rfl, rfl⟩ rfl rfl h2
theorem lso_nm (w : Str) (ws : List Str) : d__law_so (n + 1) [.tup [.str "name", .str w], names ws] μ = .ok (.bl (inW w ws)) μ :=
  (end_if0 rfl rfl).trans (end_ifR (μ1 := μ) rfl (s_ret (bind_ok (b := D.str w) (μ' := μ) rfl (bind_ok (b := names ws) (μ' := μ) rfl (in_names w ws μ)))))
theorem lso_neg (h : d__law_so n [x, ns] μ = .ok (.bl b) μ) : d__law_so (n + 1) [.tup [.str "not", x], ns] μ = .ok (.bl (!b)) μ := by
  refine (end_if0 rfl rfl).trans ((end_if0 rfl rfl).trans (end_ifR (μ1 := μ) rfl (s_ret ?_)))
  exact bind_ok (b := D.bl b) (μ' := μ) (call_ok (d__law_so n) (ds := [x, ns]) (by decide +kernel) rfl rfl ⟨rfl, rfl, rfl, rfl⟩ rfl rfl h) rfl
theorem lso_two {op : Str} (hop : op = "and" ∨ op = "or") (h : d__law_so n [x, ns] μ = .ok (.bl b) μ) (h2 : d__law_so n [y, ns] μ = .ok (.bl c) μ) : d__law_so (n + 1) [.tup [.str op, x, y], ns] μ = .ok (.bl (if op = "and" then b && c else b || c)) μ := by
  rcases hop with rfl | rfl
  · refine (end_if0 rfl rfl).trans ((end_if0 rfl rfl).trans ((end_if0 rfl rfl).trans ((end_next (st_asg rfl (lst_ok (ds := [.bl b, .bl c]) rfl (show (0 : Nat) ≠ 1 by decide) (a_cons (call_ok (d__law_so n) (ds := [x, ns]) (by decide +kernel) rfl rfl ⟨rfl, rfl, rfl, rfl⟩ rfl rfl h) (a_cons (call_ok (d__law_so n) (ds := [y, ns]) (by decide +kernel) rfl rfl ⟨rfl, rfl, rfl, rfl⟩ rfl rfl h2) a_nil)) (show 2 ≤ sizeLine by decide)) rfl)).trans (end_ret.trans ?_))))
    cases b <;> cases c <;> rfl
  · refine (end_if0 rfl rfl).trans ((end_if0 rfl rfl).trans ((end_if0 rfl rfl).trans ((end_next (st_asg rfl (lst_ok (ds := [.bl b, .bl c]) rfl (show (0 : Nat) ≠ 1 by decide) (a_cons (call_ok (d__law_so n) (ds := [x, ns]) (by decide +kernel) rfl rfl ⟨rfl, rfl, rfl, rfl⟩ rfl rfl h) (a_cons (call_ok (d__law_so n) (ds := [y, ns]) (by decide +kernel) rfl rfl ⟨rfl, rfl, rfl, rfl⟩ rfl rfl h2) a_nil)) (show 2 ≤ sizeLine by decide)) rfl)).trans (end_ret.trans ?_))))
    cases b <;> cases c <;> rfl
end
theorem is_so_ok (ws : List Str) (μ : Sto) : ∀ (t : T) (n : Nat), t.dep ≤ n → d_is_so n [t.d, names ws] μ = .ok (.bl (so t ws)) μ
  | .nm w, n + 1, _ => so_nm w ws
  | .al, n + 1, _ => rfl
  | .no, n + 1, _ => rfl
  | .neg t, n + 1, h => so_neg (is_so_ok ws μ t n (by simp only [T.dep] at h; omega))
  | .an a b, n + 1, h => so_an (is_so_ok ws μ a n (by simp only [T.dep] at h; omega)) (is_so_ok ws μ b n (by simp only [T.dep] at h; omega))
  | .orr a b, n + 1, h => so_or (is_so_ok ws μ a n (by simp only [T.dep] at h; omega)) (is_so_ok ws μ b n (by simp only [T.dep] at h; omega))
theorem law_so_ok (ws : List Str) (μ : Sto) : ∀ (t : T) (n : Nat), t.dep ≤ n → d__law_so n [t.d, names ws] μ = .ok (.bl (so t ws)) μ
  | .nm w, n + 1, _ => lso_nm w ws
  | .al, n + 1, _ => rfl
  | .no, n + 1, _ => rfl
  | .neg t, n + 1, h => lso_neg (law_so_ok ws μ t n (by simp only [T.dep] at h; omega))
  | .an a b, n + 1, h => lso_two (.inl rfl) (law_so_ok ws μ a n (by simp only [T.dep] at h; omega)) (law_so_ok ws μ b n (by simp only [T.dep] at h; omega))
  | .orr a b, n + 1, h => lso_two (.inr rfl) (law_so_ok ws μ a n (by simp only [T.dep] at h; omega)) (law_so_ok ws μ b n (by simp only [T.dep] at h; omega))
end K41

set_option Elab.async false
set_option linter.all false
set_option maxRecDepth 100000
set_option maxHeartbeats 1000000
/-! k41: which trees there are. -/
namespace K41
open PySem L2 Pu
def T.nl : T → List Str
  | .nm w => [w]
  | .al => []
  | .no => []
  | .neg t => t.nl
  | .an a b => a.nl ++ b.nl
  | .orr a b => a.nl ++ b.nl
def T.py : T → PyData
  | .nm w => .tuple [.str "name", .str w]
  | .al => .tuple [.str "all"]
  | .no => .tuple [.str "none"]
  | .neg t => .tuple [.str "not", t.py]
  | .an a b => .tuple [.str "and", a.py, b.py]
  | .orr a b => .tuple [.str "or", a.py, b.py]
theorem toPy_t : ∀ t : T, toPy t.d = some t.py
  | .nm w => rfl
  | .al => rfl
  | .no => rfl
  | .neg t => by simp only [T.d, toPy, toPyL, toPy_t t]; rfl
  | .an a b => by simp only [T.d, toPy, toPyL, toPy_t a, toPy_t b]; rfl
  | .orr a b => by simp only [T.d, toPy, toPyL, toPy_t a, toPy_t b]; rfl
theorem toPyT_t (μ : Sto) (t : T) : toPyT μ t.d = some t.py := by cases t <;> exact toPy_t _
def five : List Str := ["a", "odd", "ends", "zzzzzzzz", "nota"]
/-- a tree of our names, not too deep -/
structure Good (t : T) : Prop where
  nl : ∀ w ∈ t.nl, w ∈ five
  dep : t.dep ≤ 8
theorem Good.neg {t : T} (h : Good (.neg t)) : Good t := ⟨h.nl, by have := h.dep; simp only [T.dep] at this; omega⟩
theorem Good.an {a b : T} (h : Good (.an a b)) : Good a ∧ Good b :=
  ⟨⟨fun w hw => h.nl w (List.mem_append_left _ hw), by have := h.dep; simp only [T.dep] at this; omega⟩, ⟨fun w hw => h.nl w (List.mem_append_right _ hw), by have := h.dep; simp only [T.dep] at this; omega⟩⟩
theorem Good.orr {a b : T} (h : Good (.orr a b)) : Good a ∧ Good b :=
  ⟨⟨fun w hw => h.nl w (List.mem_append_left _ hw), by have := h.dep; simp only [T.dep] at this; omega⟩, ⟨fun w hw => h.nl w (List.mem_append_right _ hw), by have := h.dep; simp only [T.dep] at this; omega⟩⟩
theorem five_ok : ∀ w ∈ five, PyData.canLay0 (.str w) = true := by decide +kernel
theorem lay_t : ∀ t : T, (∀ w ∈ t.nl, w ∈ five) → t.py.canLay0 = true
  | .nm w, h => by
    have e := five_ok w (h w List.mem_cons_self)
    show (PyData.canLay0 (.str "name") && (PyData.canLay0 (.str w) && true)) = true
    rw [e]
    decide +kernel
  | .al, _ => by decide +kernel
  | .no, _ => by decide +kernel
  | .neg t, h => by
    simp only [T.py, PyData.canLay0, PyData.canLayAll0, lay_t t h, Bool.and_true]
    decide +kernel
  | .an a b, h => by
    simp only [T.py, PyData.canLay0, PyData.canLayAll0, lay_t a fun w hw => h w (List.mem_append_left _ hw), lay_t b fun w hw => h w (List.mem_append_right _ hw), Bool.and_true]
    decide +kernel
  | .orr a b, h => by
    simp only [T.py, PyData.canLay0, PyData.canLayAll0, lay_t a fun w hw => h w (List.mem_append_left _ hw), lay_t b fun w hw => h w (List.mem_append_right _ hw), Bool.and_true]
    decide +kernel
theorem depth_t : ∀ t : T, t.py.depth ≤ t.dep + 1
  | .nm w => by simp [T.py, T.dep, PyData.depth, PyData.depthAll]
  | .al => by simp [T.py, T.dep, PyData.depth, PyData.depthAll]
  | .no => by simp [T.py, T.dep, PyData.depth, PyData.depthAll]
  | .neg t => by
    have := depth_t t
    simp only [T.py, T.dep, PyData.depth, PyData.depthAll]
    omega
  | .an a b => by
    have := depth_t a
    have := depth_t b
    simp only [T.py, T.dep, PyData.depth, PyData.depthAll]
    omega
  | .orr a b => by
    have := depth_t a
    have := depth_t b
    simp only [T.py, T.dep, PyData.depth, PyData.depthAll]
    omega
theorem shaped_t {t : T} (g : Good t) : SeqAt.shaped t.py = true := by
  unfold SeqAt.shaped
  rw [lay_t t g.nl, Bool.true_and, decide_eq_true_eq]
  have := depth_t t
  have := g.dep
  omega
theorem eq_t (μ : Sto) {a b : T} (ga : Good a) (gb : Good b) : eqB μ a.d b.d = some (PyData.eqv a.py b.py) := by
  have e : eqB μ a.d b.d = (match toPyT μ a.d, toPyT μ b.d with
    | some p, some q => if SeqAt.shaped p = true ∧ SeqAt.shaped q = true then some (PyData.eqv p q) else none
    | _, _ => none) := by cases a <;> cases b <;> rfl
  rw [e, toPyT_t, toPyT_t]
  simp only
  rw [if_pos ⟨shaped_t ga, shaped_t gb⟩]
theorem eq_unit (μ : Sto) {a : T} (g : Good a) : eqB μ a.d (.tup []) = some false := by
  have e : eqB μ a.d (.tup []) = (match toPyT μ a.d, toPyT μ (.tup []) with
    | some p, some q => if SeqAt.shaped p = true ∧ SeqAt.shaped q = true then some (PyData.eqv p q) else none
    | _, _ => none) := by cases a <;> rfl
  rw [e, toPyT_t]
  show (if SeqAt.shaped a.py = true ∧ SeqAt.shaped (.tuple []) = true then some (PyData.eqv a.py (.tuple [])) else none) = _
  rw [if_pos ⟨shaped_t g, by decide +kernel⟩]
  cases a <;> simp [T.py, PyData.eqv, PyData.eqvAll]
/-! ### is_tree_within -/
theorem free_ok : ∀ w ∈ five, ∀ μ, d_is_free_name [.str w] μ = .ok (.bl true) μ := by
  intro w hw μ
  simp only [five, List.mem_cons, List.not_mem_nil, or_false] at hw
  rcases hw with rfl | rfl | rfl | rfl | rfl <;> rfl
section
variable {n : Nat} {μ : Sto} {deep : Int}
abbrev gW (n : Nat) : Pu.Ctx := g_is_tree_within n (d_is_tree_within n)
theorem w_test (t : T) (g : Good t) (hd : deep ≠ 0) : (den 39).t (gW n) (match defBody s_is_tree_within with | .If c _ _ _ :: _ => c | _ => .Constant .none 0 ⟨0, 0, 0, 0⟩) [some t.d, some (.int deep), none, none] μ = .ok false μ := by
  refine bind_ok (b := false) (μ' := μ) (show R.ok (decide (deep = 0)) μ = .ok false μ by rw [decide_eq_false hd]) ?_
  refine bind_ok (b := false) (μ' := μ) (by cases t <;> rfl) ?_
  refine bind_ok (b := false) (μ' := μ) ?_ (by cases t <;> rfl)
  refine bind_ok (b := D.bl false) (μ' := μ) (bind_ok (b := t.d) (μ' := μ) rfl (bind_ok (b := .tup []) (μ' := μ) rfl ?_)) rfl
  have e : asO μ t.d = none := by cases t <;> rfl
  show eqO (gW n) false t.d (.tup []) μ = _
  unfold eqO
  rw [e]
  show eqD false t.d (.tup []) μ = _
  unfold eqD
  rw [eq_unit μ g]
  rfl
/-- all parts are trees -/
theorem w_parts {xs : List D} {ρ : Sl} (hx : xs.length ≤ 2) (h : ∀ x ∈ xs, d_is_tree_within n [x, .int (deep - 1)] μ = .ok (.bl true) μ) (v sz : D) (hρ : ρ = [some v, some (.int deep), some sz, none]) (hv : slD v (some 1) none μ = .ok (.tup xs) μ) :
    (den 39).e (gW n) (match defBody s_is_tree_within with | [_, _, _, _, _, .Return (some e) _] => e | _ => .Constant .none 0 ⟨0, 0, 0, 0⟩) ρ μ = .ok (.bl true) μ := by
  subst hρ
  refine bind_ok (b := [.lst (xs.map fun _ => .bl true)]) (μ' := μ) (bind_ok (b := .lst (xs.map fun _ => .bl true)) (μ' := μ) (bind_ok (b := xs) (μ' := μ) (bind_ok (b := .tup xs) (μ' := μ) (bind_ok (b := v) (μ' := μ) rfl (bind_ok (b := some 1) (μ' := μ) rfl (bind_ok (b := none) (μ' := μ) rfl hv))) rfl) (bind_ok (b := xs.map fun _ => .bl true) (μ' := μ) (noX_ok (comp_map (g := fun _ => .bl true) xs [] (fun d hd => ?_) (by simp only [List.length_nil]; exact Nat.le_trans (by omega) (show 2 ≤ sizeLine by decide)))) rfl)) rfl) ?_
  · exact bind_ok (b := true) (μ' := μ) rfl (bind_ok (b := .bl true) (μ' := μ) (call_ok (d_is_tree_within n) (ds := [d, .int (deep - 1)]) (by decide +kernel) rfl rfl ⟨rfl, rfl, rfl, rfl⟩ rfl rfl (h d hd)) rfl)
  · match xs, hx with
    | [], _ => rfl
    | [_], _ => rfl
    | [_, _], _ => rfl
end
theorem within_ok (μ : Sto) : ∀ (t : T) (n : Nat) (deep : Int), (t.dep : Int) ≤ deep → t.dep ≤ n → Good t → d_is_tree_within n [t.d, .int deep] μ = .ok (.bl true) μ
  | t, 0, deep, _, h, _ => by cases t <;> simp [T.dep] at h
  | .nm w, n + 1, deep, hd, h, g => by
    refine (end_if0 (w_test (.nm w) g (by simp only [T.dep] at hd; omega)) rfl).trans ((end_if0 rfl rfl).trans (end_ifR (μ1 := μ) rfl (s_ret ?_)))
    refine bind_ok (b := D.bl true) (μ' := μ) rfl (bind_ok (b := true) (μ' := μ) rfl (bool_one.trans ?_))
    exact call_ok d_is_free_name (ds := [.str w]) (by decide +kernel) rfl rfl ⟨rfl, rfl, rfl, rfl⟩ rfl rfl (free_ok w (g.nl w List.mem_cons_self) μ)
  | .al, n + 1, deep, hd, h, g => (end_if0 (w_test .al g (by simp only [T.dep] at hd; omega)) rfl).trans rfl
  | .no, n + 1, deep, hd, h, g => (end_if0 (w_test .no g (by simp only [T.dep] at hd; omega)) rfl).trans rfl
  | .neg t, n + 1, deep, hd, h, g => by
    refine (end_if0 (w_test (.neg t) g (by simp only [T.dep] at hd; omega)) rfl).trans ((end_if0 rfl rfl).trans ((end_if0 rfl rfl).trans ((end_next (ρ' := [some (T.neg t).d, some (.int deep), some (.dic [(.inr "not", .int 2), (.inr "and", .int 3), (.inr "or", .int 3)]), none]) (μ1 := μ) rfl).trans ((end_if0 rfl rfl).trans (end_ret.trans ?_)))))
    exact w_parts (xs := [t.d]) (by simp) (fun x hx => by rw [List.mem_singleton.mp hx]; exact within_ok μ t n (deep - 1) (by simp only [T.dep] at hd; omega) (by simp only [T.dep] at h; omega) g.neg) _ _ rfl rfl
  | .an a b, n + 1, deep, hd, h, g => by
    refine (end_if0 (w_test (.an a b) g (by simp only [T.dep] at hd; omega)) rfl).trans ((end_if0 rfl rfl).trans ((end_if0 rfl rfl).trans ((end_next (ρ' := [some (T.an a b).d, some (.int deep), some (.dic [(.inr "not", .int 2), (.inr "and", .int 3), (.inr "or", .int 3)]), none]) (μ1 := μ) rfl).trans ((end_if0 rfl rfl).trans (end_ret.trans ?_)))))
    refine w_parts (xs := [a.d, b.d]) (by simp) (fun x hx => ?_) _ _ rfl rfl
    simp only [List.mem_cons, List.not_mem_nil, or_false] at hx
    rcases hx with rfl | rfl
    · exact within_ok μ a n (deep - 1) (by simp only [T.dep] at hd; omega) (by simp only [T.dep] at h; omega) g.an.1
    · exact within_ok μ b n (deep - 1) (by simp only [T.dep] at hd; omega) (by simp only [T.dep] at h; omega) g.an.2
  | .orr a b, n + 1, deep, hd, h, g => by
    refine (end_if0 (w_test (.orr a b) g (by simp only [T.dep] at hd; omega)) rfl).trans ((end_if0 rfl rfl).trans ((end_if0 rfl rfl).trans ((end_next (ρ' := [some (T.orr a b).d, some (.int deep), some (.dic [(.inr "not", .int 2), (.inr "and", .int 3), (.inr "or", .int 3)]), none]) (μ1 := μ) rfl).trans ((end_if0 rfl rfl).trans (end_ret.trans ?_)))))
    refine w_parts (xs := [a.d, b.d]) (by simp) (fun x hx => ?_) _ _ rfl rfl
    simp only [List.mem_cons, List.not_mem_nil, or_false] at hx
    rcases hx with rfl | rfl
    · exact within_ok μ a n (deep - 1) (by simp only [T.dep] at hd; omega) (by simp only [T.dep] at h; omega) g.orr.1
    · exact within_ok μ b n (deep - 1) (by simp only [T.dep] at hd; omega) (by simp only [T.dep] at h; omega) g.orr.2
end K41

set_option Elab.async false
set_option linter.all false
set_option maxRecDepth 100000
set_option maxHeartbeats 1000000
/-! k41: the parts of a tree, their number, the text. -/
namespace K41
open PySem L2 Pu
def T.cnt : T → Nat
  | .nm _ => 1
  | .al => 1
  | .no => 1
  | .neg t => t.cnt + 1
  | .an a b => a.cnt + b.cnt + 1
  | .orr a b => a.cnt + b.cnt + 1
def T.tr : T → List D
  | .nm w => [(T.nm w).d]
  | .al => [T.al.d]
  | .no => [T.no.d]
  | .neg t => (T.neg t).d :: t.tr
  | .an a b => (T.an a b).d :: (a.tr ++ b.tr)
  | .orr a b => (T.orr a b).d :: (a.tr ++ b.tr)
theorem tr_len : ∀ t : T, t.tr.length = t.cnt
  | .nm w => rfl
  | .al => rfl
  | .no => rfl
  | .neg t => by simp only [T.tr, T.cnt, List.length_cons, tr_len t]
  | .an a b => by simp only [T.tr, T.cnt, List.length_cons, List.length_append, tr_len a, tr_len b]
  | .orr a b => by simp only [T.tr, T.cnt, List.length_cons, List.length_append, tr_len a, tr_len b]
theorem cnt_dep : ∀ t : T, t.cnt + 1 ≤ 2 ^ t.dep
  | .nm w => by simp [T.cnt, T.dep]
  | .al => by decide
  | .no => by decide
  | .neg t => by
    have := cnt_dep t
    simp only [T.cnt, T.dep, Nat.pow_succ]
    omega
  | .an a b => by
    have h1 := cnt_dep a
    have h2 := cnt_dep b
    have e1 : 2 ^ a.dep ≤ 2 ^ max a.dep b.dep := Nat.pow_le_pow_right (by decide) (Nat.le_max_left _ _)
    have e2 : 2 ^ b.dep ≤ 2 ^ max a.dep b.dep := Nat.pow_le_pow_right (by decide) (Nat.le_max_right _ _)
    simp only [T.cnt, T.dep, Nat.pow_succ]
    omega
  | .orr a b => by
    have h1 := cnt_dep a
    have h2 := cnt_dep b
    have e1 : 2 ^ a.dep ≤ 2 ^ max a.dep b.dep := Nat.pow_le_pow_right (by decide) (Nat.le_max_left _ _)
    have e2 : 2 ^ b.dep ≤ 2 ^ max a.dep b.dep := Nat.pow_le_pow_right (by decide) (Nat.le_max_right _ _)
    simp only [T.cnt, T.dep, Nat.pow_succ]
    omega
theorem Good.cnt {t : T} (g : Good t) : t.cnt ≤ 255 := by
  have h1 := cnt_dep t
  have h2 : 2 ^ t.dep ≤ 2 ^ 8 := Nat.pow_le_pow_right (by decide) g.dep
  omega
/-! ### trees_in -/
section
variable {n : Nat} {μ : Sto}
abbrev gT (n : Nat) : Pu.Ctx := g_trees_in n (d_trees_in n)
/-- one part's trees -/
theorem t_part {x v : D} {ys acc : List D} (h : d_trees_in n [x] μ = .ok (.lst ys) μ) (hl : acc.length + ys.length ≤ 1000) :
    innerD (den 37) (blkG (gT n) (match defBody s_trees_in with | [_, .Return (some (.List [_, .Starred (.ListComp _ _ sc _) _] _)) _] => sc | _ => defScope s_trees_in)) (match defBody s_trees_in with | [_, .Return (some (.List [_, .Starred (.ListComp _ [_, ⟨t, _, _, _⟩] _ _) _] _)) _] => t | _ => .Constant .none 0 ⟨0, 0, 0, 0⟩) (match defBody s_trees_in with | [_, .Return (some (.List [_, .Starred (.ListComp _ [_, ⟨_, i, _, _⟩] _ _) _] _)) _] => i | _ => .Constant .none 0 ⟨0, 0, 0, 0⟩) [] [2]
      (leafL (den 37) (blkG (gT n) (match defBody s_trees_in with | [_, .Return (some (.List [_, .Starred (.ListComp _ _ sc _) _] _)) _] => sc | _ => defScope s_trees_in)) (match defBody s_trees_in with | [_, .Return (some (.List [_, .Starred (.ListComp e _ _ _) _] _)) _] => e | _ => .Constant .none 0 ⟨0, 0, 0, 0⟩)) [some v, some x, none] acc μ = .ok (acc ++ ys) μ := by
  refine bind_ok (b := ys) (μ' := μ) (bind_ok (b := .lst ys) (μ' := μ) (call_ok (d_trees_in n) (ds := [x]) (by decide +kernel) rfl rfl ⟨rfl, rfl, rfl, rfl⟩ rfl rfl h) rfl) ?_
  exact inner_copy (ρ' := fun y => [some v, some x, some y]) ys acc (fun y => ⟨rfl, rfl⟩) (Nat.le_trans hl (by decide))
theorem t_all {v : D} {xs zs : List D} (h0 : slD v (some 1) none μ = .ok (.tup xs) μ) (hz : zs.length ≤ 1000)
    (h : clauseD (den 37) (blkG (gT n) (match defBody s_trees_in with | [_, .Return (some (.List [_, .Starred (.ListComp _ _ sc _) _] _)) _] => sc | _ => defScope s_trees_in)) (match defBody s_trees_in with | [_, .Return (some (.List [_, .Starred (.ListComp _ (⟨t, _, _, _⟩ :: _) _ _) _] _)) _] => t | _ => .Constant .none 0 ⟨0, 0, 0, 0⟩) []
      (innerD (den 37) (blkG (gT n) (match defBody s_trees_in with | [_, .Return (some (.List [_, .Starred (.ListComp _ _ sc _) _] _)) _] => sc | _ => defScope s_trees_in)) (match defBody s_trees_in with | [_, .Return (some (.List [_, .Starred (.ListComp _ [_, ⟨t, _, _, _⟩] _ _) _] _)) _] => t | _ => .Constant .none 0 ⟨0, 0, 0, 0⟩) (match defBody s_trees_in with | [_, .Return (some (.List [_, .Starred (.ListComp _ [_, ⟨_, i, _, _⟩] _ _) _] _)) _] => i | _ => .Constant .none 0 ⟨0, 0, 0, 0⟩) [] [2]
      (leafL (den 37) (blkG (gT n) (match defBody s_trees_in with | [_, .Return (some (.List [_, .Starred (.ListComp _ _ sc _) _] _)) _] => sc | _ => defScope s_trees_in)) (match defBody s_trees_in with | [_, .Return (some (.List [_, .Starred (.ListComp e _ _ _) _] _)) _] => e | _ => .Constant .none 0 ⟨0, 0, 0, 0⟩))) [some v, none, none] xs [] μ = .ok zs μ) :
    (den 39).e (gT n) (match defBody s_trees_in with | [_, .Return (some e) _] => e | _ => .Constant .none 0 ⟨0, 0, 0, 0⟩) [some v, none, none] μ = .ok (.lst (v :: zs)) μ := by
  refine bind_ok (b := v :: zs) (μ' := μ) (bind_ok (b := v) (μ' := μ) rfl (bind_ok (b := zs) (μ' := μ) (bind_ok (b := .lst zs) (μ' := μ) ?_ (bind_ok (b := zs) (μ' := μ) rfl (bind_ok (b := []) (μ' := μ) rfl (show R.ok (zs ++ []) μ = _ by rw [List.append_nil])))) rfl)) ?_
  · exact bind_ok (b := xs) (μ' := μ) (bind_ok (b := .tup xs) (μ' := μ) (bind_ok (b := v) (μ' := μ) rfl (bind_ok (b := some 1) (μ' := μ) rfl (bind_ok (b := none) (μ' := μ) rfl h0))) rfl) (bind_ok (b := zs) (μ' := μ) (noX_ok h) rfl)
  · show (if (v :: zs).length ≤ sizeLine then (if (0 : Nat) = 1 then _ else R.ok (D.lst (v :: zs)) μ) else _) = _
    rw [if_pos (Nat.le_trans (show (v :: zs).length ≤ 1001 by rw [List.length_cons]; omega) (by decide)), if_neg (by decide)]
end
theorem trees_ok (μ : Sto) : ∀ (t : T) (n : Nat), t.dep ≤ n → t.cnt ≤ 255 → d_trees_in n [t.d] μ = .ok (.lst t.tr) μ
  | t, 0, h, _ => by cases t <;> simp [T.dep] at h
  | .nm w, n + 1, _, _ => rfl
  | .al, n + 1, _, _ => rfl
  | .no, n + 1, _, _ => rfl
  | .neg t, n + 1, h, hc => by
    simp only [T.dep, T.cnt] at h hc
    have l := tr_len t
    refine (end_if0 rfl rfl).trans (end_ret.trans (t_all (xs := [t.d]) (zs := t.tr) rfl (by omega) ?_))
    exact clause_cons rfl (t_part (acc := []) (trees_ok μ t n (by omega) (by omega)) (by simp only [List.length_nil]; omega)) clause_nil
  | .an a b, n + 1, h, hc => by
    simp only [T.dep, T.cnt] at h hc
    have la := tr_len a
    have lb := tr_len b
    refine (end_if0 rfl rfl).trans (end_ret.trans (t_all (xs := [a.d, b.d]) (zs := a.tr ++ b.tr) rfl (by rw [List.length_append]; omega) ?_))
    exact clause_cons rfl (t_part (acc := []) (trees_ok μ a n (by omega) (by omega)) (by simp only [List.length_nil]; omega)) (clause_cons rfl (t_part (trees_ok μ b n (by omega) (by omega)) (by simp only [List.nil_append]; omega)) clause_nil)
  | .orr a b, n + 1, h, hc => by
    simp only [T.dep, T.cnt] at h hc
    have la := tr_len a
    have lb := tr_len b
    refine (end_if0 rfl rfl).trans (end_ret.trans (t_all (xs := [a.d, b.d]) (zs := a.tr ++ b.tr) rfl (by rw [List.length_append]; omega) ?_))
    exact clause_cons rfl (t_part (acc := []) (trees_ok μ a n (by omega) (by omega)) (by simp only [List.length_nil]; omega)) (clause_cons rfl (t_part (trees_ok μ b n (by omega) (by omega)) (by simp only [List.nil_append]; omega)) clause_nil)
/-! ### the law's own count -/
abbrev gC (n : Nat) : Pu.Ctx := g__law_count n (d__law_count n)
theorem c_all {n : Nat} {μ : Sto} {v : D} {xs : List D} {is : List Int} {f : D → Option D} (h0 : slD v (some 1) none μ = .ok (.tup xs) μ) (hx : xs.length ≤ 2)
    (h : ∀ x ∈ xs, (f x = none ∧ tyD μ x = some "str") ∨ ∃ i, f x = some (.int i) ∧ tyD μ x = some "tuple" ∧ d__law_count n [x] μ = .ok (.int i) μ) (hi : xs.filterMap f = is.map D.int) :
    (den 39).e (gC n) (match defBody s__law_count with | [.Return (some e) _] => e | _ => .Constant .none 0 ⟨0, 0, 0, 0⟩) [some v, none] μ = .ok (.int (1 + is.sum)) μ := by
  have sl : sizeLine = 16777216 := rfl
  refine bind_ok (b := D.int 1) (μ' := μ) rfl (bind_ok (b := D.int is.sum) (μ' := μ) (bind_ok (b := [.lst (is.map D.int)]) (μ' := μ) (bind_ok (b := .lst (is.map D.int)) (μ' := μ) ?_ rfl) ?_) rfl)
  · refine bind_ok (b := xs) (μ' := μ) (bind_ok (b := .tup xs) (μ' := μ) (bind_ok (b := v) (μ' := μ) rfl (bind_ok (b := some 1) (μ' := μ) rfl (bind_ok (b := none) (μ' := μ) rfl h0))) rfl) (bind_ok (b := is.map D.int) (μ' := μ) (noX_ok ?_) rfl)
    refine (comp_pure (g := f) xs [] (fun d hd => ?_) (by simp only [List.length_nil]; omega)).trans (by rw [hi]; rfl)
    rcases h d hd with ⟨e1, e2⟩ | ⟨i, e1, e2, e3⟩
    · rw [e1]
      refine bind_ok (b := false) (μ' := μ) (bind_ok (b := D.bl false) (μ' := μ) (bind_ok (b := [d, .ty "tuple"]) (μ' := μ) rfl ?_) rfl) rfl
      show isiD [d, .ty "tuple"] μ = _
      unfold isiD
      simp only [e2]
      rfl
    · rw [e1]
      refine bind_ok (b := true) (μ' := μ) (bind_ok (b := D.bl true) (μ' := μ) (bind_ok (b := [d, .ty "tuple"]) (μ' := μ) rfl ?_) rfl) (bind_ok (b := D.int i) (μ' := μ) (call_ok (d__law_count n) (ds := [d]) (by decide +kernel) rfl rfl ⟨rfl, rfl, rfl, rfl⟩ rfl rfl e3) rfl)
      show isiD [d, .ty "tuple"] μ = _
      unfold isiD
      simp only [e2]
      rfl
  · show sumD [.lst (is.map D.int)] μ = _
    show (match intsOf (is.map D.int) with | some bs => R.ok (D.int bs.sum) μ | none => .stuck) = _
    rw [intsOf_of]
theorem ty_t (μ : Sto) (t : T) : tyD μ t.d = some "tuple" := by cases t <;> rfl
theorem c_two {n : Nat} {μ : Sto} {a b : T} {op : Str} (ha : d__law_count n [a.d] μ = .ok (.int a.cnt) μ) (hb : d__law_count n [b.d] μ = .ok (.int b.cnt) μ) : d__law_count (n + 1) [.tup [.str op, a.d, b.d]] μ = .ok (.int (a.cnt + b.cnt + 1 : Nat)) μ := by
  let f : D → Option D := fun x => match d__law_count n [x] μ with | .ok (.int i) _ => some (.int i) | _ => none
  have fa : f a.d = some (.int a.cnt) := by show (match d__law_count n [a.d] μ with | .ok (.int i) _ => some (D.int i) | _ => none) = _; rw [ha]
  have fb : f b.d = some (.int b.cnt) := by show (match d__law_count n [b.d] μ with | .ok (.int i) _ => some (D.int i) | _ => none) = _; rw [hb]
  refine end_ret.trans ((c_all (xs := [a.d, b.d]) (is := [(a.cnt : Int), b.cnt]) (f := f) rfl (by simp) (fun x hx => ?_) ?_).trans ?_)
  · simp only [List.mem_cons, List.not_mem_nil, or_false] at hx
    rcases hx with rfl | rfl
    · exact .inr ⟨_, fa, ty_t μ a, ha⟩
    · exact .inr ⟨_, fb, ty_t μ b, hb⟩
  · rw [List.filterMap_cons_some fa, List.filterMap_cons_some fb]
    rfl
  · simp only [List.sum_cons, List.sum_nil]
    congr 2
    omega
theorem count_ok (μ : Sto) : ∀ (t : T) (n : Nat), t.dep ≤ n → d__law_count n [t.d] μ = .ok (.int t.cnt) μ
  | t, 0, h => by cases t <;> simp [T.dep] at h
  | .nm w, n + 1, _ => rfl
  | .al, n + 1, _ => rfl
  | .no, n + 1, _ => rfl
  | .neg t, n + 1, h => by
    simp only [T.dep] at h
    refine end_ret.trans ((c_all (xs := [t.d]) (is := [(t.cnt : Int)]) (f := fun _ => some (.int t.cnt)) rfl (by simp) (fun x hx => ?_) rfl).trans ?_)
    · rw [List.mem_singleton.mp hx]
      exact .inr ⟨_, rfl, ty_t μ t, count_ok μ t n (by omega)⟩
    · simp only [List.sum_cons, List.sum_nil, T.cnt]
      congr 2
      omega
  | .an a b, n + 1, h => by
    simp only [T.dep] at h
    have ha := count_ok μ a n (by omega)
    have hb := count_ok μ b n (by omega)
    exact c_two ha hb
  | .orr a b, n + 1, h => by
    simp only [T.dep] at h
    have ha := count_ok μ a n (by omega)
    have hb := count_ok μ b n (by omega)
    exact c_two ha hb
end K41

set_option Elab.async false
set_option linter.all false
set_option maxRecDepth 100000
set_option maxHeartbeats 1000000
/-! k41: the text of a tree. -/
namespace K41
open PySem L2 Pu
def T.two : T → Bool
  | .an _ _ => true
  | .orr _ _ => true
  | _ => false
def wrap (b : Bool) (x : Str) : Str := if b then ("(" : Str) ++ x ++ (")" : Str) else x
def T.tx : T → Str
  | .nm w => w
  | .al => "all"
  | .no => "none"
  | .neg t => ("not " : Str) ++ wrap t.two t.tx
  | .an a b => wrap a.two a.tx ++ (" " : Str) ++ ("and" : Str) ++ (" " : Str) ++ wrap b.two b.tx
  | .orr a b => wrap a.two a.tx ++ (" " : Str) ++ ("or" : Str) ++ (" " : Str) ++ wrap b.two b.tx
abbrev T.pt (t : T) : Str := wrap t.two t.tx
theorem wrap_len (b : Bool) (x : Str) : (wrap b x).length ≤ x.length + 2 := by
  cases b with
  | true =>
    show (("(" : Str) ++ x ++ (")" : Str)).length ≤ _
    rw [str_len, str_len]
    have e1 : (("(" : Str)).length = 1 := rfl
    have e2 : ((")" : Str)).length = 1 := rfl
    omega
  | false => exact Nat.le_add_right _ _
theorem five_len : ∀ w ∈ five, w.length ≤ 8 := by decide +kernel
theorem tx_len : ∀ t : T, (∀ w ∈ t.nl, w ∈ five) → t.tx.length + 7 ≤ 16 * t.cnt
  | .nm w, h => by
    have := five_len w (h w List.mem_cons_self)
    simp only [T.tx, T.cnt]
    omega
  | .al, _ => by decide +kernel
  | .no, _ => by decide +kernel
  | .neg t, h => by
    have h1 := tx_len t h
    have h2 := wrap_len t.two t.tx
    have e : (("not " : Str)).length = 4 := rfl
    simp only [T.tx, T.cnt, str_len]
    omega
  | .an a b, h => by
    have h1 := tx_len a fun w hw => h w (List.mem_append_left _ hw)
    have h2 := tx_len b fun w hw => h w (List.mem_append_right _ hw)
    have h3 := wrap_len a.two a.tx
    have h4 := wrap_len b.two b.tx
    have e1 : ((" " : Str)).length = 1 := rfl
    have e2 : (("and" : Str)).length = 3 := rfl
    simp only [T.tx, T.cnt, str_len]
    omega
  | .orr a b, h => by
    have h1 := tx_len a fun w hw => h w (List.mem_append_left _ hw)
    have h2 := tx_len b fun w hw => h w (List.mem_append_right _ hw)
    have h3 := wrap_len a.two a.tx
    have h4 := wrap_len b.two b.tx
    have e1 : ((" " : Str)).length = 1 := rfl
    have e2 : (("or" : Str)).length = 2 := rfl
    simp only [T.tx, T.cnt, str_len]
    omega
theorem Good.len {t : T} (g : Good t) : t.tx.length ≤ 5000 := by
  have := tx_len t g.nl
  have := g.cnt
  omega
theorem Good.pln {t : T} (g : Good t) : t.pt.length ≤ 5002 := by
  show (wrap t.two t.tx).length ≤ 5002
  have := wrap_len t.two t.tx
  have := g.len
  omega
theorem fit {n : Nat} (h : n ≤ 20000) : n ≤ sizeLine := Nat.le_trans h (by decide)
/-! ### part_text, text_of -/
section
variable {n : Nat} {μ : Sto}
theorem p_two {a b x : D} {op tx : Str} (hx : x = .tup [.str op, a, b]) (hop : op = "and" ∨ op = "or") (hl : tx.length ≤ 5000) (h : d_text_of n [x] μ = .ok (.str tx) μ) : h_part_text n (d_text_of n) [x] μ = .ok (.str (wrap true tx)) μ := by
  subst hx
  have e1 : (Str.empty).length = 0 := rfl
  have e2 : (("(" : Str)).length = 1 := rfl
  have e3 : ((")" : Str)).length = 1 := rfl
  have e : wrap true tx = (Str.empty ++ ("(" : Str)) ++ tx ++ (")" : Str) := by
    rw [empty_app]
    rfl
  rw [e]
  refine end_ret.trans (ife_ok (q := true) (μ1 := μ) (by rcases hop with rfl | rfl <;> rfl) ?_)
  refine js_ok (parts_cons (y := "(") (μ1 := μ) rfl (by rw [str_len]; exact fit (by omega)) (parts_cons (y := tx) (μ1 := μ) (fmt_ok (call_ok (d_text_of n) (ds := [.tup [.str op, a, b]]) (by decide +kernel) rfl rfl ⟨rfl, rfl, rfl, rfl⟩ rfl rfl h) (fit (by omega))) ?_ (parts_cons (y := ")") (μ1 := μ) rfl ?_ parts_nil)))
  · simp only [str_len]; exact fit (by omega)
  · simp only [str_len]; exact fit (by omega)
theorem p_ok {t : T} (g : Good t) (h : d_text_of n [t.d] μ = .ok (.str t.tx) μ) : h_part_text n (d_text_of n) [t.d] μ = .ok (.str t.pt) μ := by
  have hl := g.len
  cases t with
  | nm w => exact end_ret.trans (ife_ok (q := false) (μ1 := μ) rfl (call_ok (d_text_of n) (ds := [(T.nm w).d]) (by decide +kernel) rfl rfl ⟨rfl, rfl, rfl, rfl⟩ rfl rfl h))
  | al => exact end_ret.trans (ife_ok (q := false) (μ1 := μ) rfl (call_ok (d_text_of n) (ds := [T.al.d]) (by decide +kernel) rfl rfl ⟨rfl, rfl, rfl, rfl⟩ rfl rfl h))
  | no => exact end_ret.trans (ife_ok (q := false) (μ1 := μ) rfl (call_ok (d_text_of n) (ds := [T.no.d]) (by decide +kernel) rfl rfl ⟨rfl, rfl, rfl, rfl⟩ rfl rfl h))
  | neg t => exact end_ret.trans (ife_ok (q := false) (μ1 := μ) rfl (call_ok (d_text_of n) (ds := [t.neg.d]) (by decide +kernel) rfl rfl ⟨rfl, rfl, rfl, rfl⟩ rfl rfl h))
  | an a b => exact p_two (x := (a.an b).d) rfl (.inl rfl) hl h
  | orr a b => exact p_two (x := (a.orr b).d) rfl (.inr rfl) hl h
theorem x_two {a b : T} (ga : Good a) (gb : Good b) {op : Str} (hop : op = "and" ∨ op = "or") (ha : h_part_text n (d_text_of n) [a.d] μ = .ok (.str a.pt) μ) (hb : h_part_text n (d_text_of n) [b.d] μ = .ok (.str b.pt) μ) :
    d_text_of (n + 1) [.tup [.str op, a.d, b.d]] μ = .ok (.str (a.pt ++ (" " : Str) ++ op ++ (" " : Str) ++ b.pt)) μ := by
  have la := ga.pln
  have lb := gb.pln
  have e1 : (Str.empty).length = 0 := rfl
  have e2 : ((" " : Str)).length = 1 := rfl
  have e3 : op.length ≤ 3 := by rcases hop with rfl | rfl <;> decide +kernel
  have ee : a.pt ++ (" " : Str) ++ op ++ (" " : Str) ++ b.pt = (Str.empty ++ a.pt) ++ (" " : Str) ++ op ++ (" " : Str) ++ b.pt := by rw [empty_app]
  rw [ee]
  have body : (den 38).e (g_text_of n (d_text_of n)) (match defBody s_text_of with | [_, _, .If _ [.Return (some e) _] _ _, _] => e | _ => .Constant .none 0 ⟨0, 0, 0, 0⟩) [some (.tup [.str op, a.d, b.d])] μ = .ok (.str ((Str.empty ++ a.pt) ++ (" " : Str) ++ op ++ (" " : Str) ++ b.pt)) μ := by
    refine js_ok (parts_cons (y := a.pt) (μ1 := μ) (fmt_ok (call_ok (h_part_text n (d_text_of n)) (ds := [a.d]) (by decide +kernel) rfl rfl ⟨rfl, rfl, rfl, rfl⟩ rfl rfl ha) (fit (by omega))) ?_
      (parts_cons (y := " ") (μ1 := μ) rfl ?_ (parts_cons (y := op) (μ1 := μ) (fmt_ok (y := op) rfl (fit (by omega))) ?_ (parts_cons (y := " ") (μ1 := μ) rfl ?_ (parts_cons (y := b.pt) (μ1 := μ) (fmt_ok (call_ok (h_part_text n (d_text_of n)) (ds := [b.d]) (by decide +kernel) rfl rfl ⟨rfl, rfl, rfl, rfl⟩ rfl rfl hb) (fit (by omega))) ?_ parts_nil)))))
    all_goals (simp only [str_len]; exact fit (by omega))
  rcases hop with rfl | rfl
  · exact (end_if0 rfl rfl).trans ((end_if0 rfl rfl).trans (end_ifR (μ1 := μ) rfl (s_ret body)))
  · exact (end_if0 rfl rfl).trans ((end_if0 rfl rfl).trans (end_ifR (μ1 := μ) rfl (s_ret body)))
end
theorem text_ok (μ : Sto) : ∀ (t : T) (n : Nat), t.dep ≤ n → Good t → d_text_of n [t.d] μ = .ok (.str t.tx) μ
  | t, 0, h, _ => by cases t <;> simp [T.dep] at h
  | .nm w, n + 1, _, _ => rfl
  | .al, n + 1, _, _ => rfl
  | .no, n + 1, _, _ => rfl
  | .neg t, n + 1, h, g => by
    simp only [T.dep] at h
    have l := g.neg.pln
    have e : (("not " : Str)).length = 4 := rfl
    refine (end_if0 rfl rfl).trans (end_ifR (μ1 := μ) rfl (s_ret (bin_ok (x := .str "not ") (μ1 := μ) rfl (call_ok (h_part_text n (d_text_of n)) (ds := [t.d]) (by decide +kernel) rfl rfl ⟨rfl, rfl, rfl, rfl⟩ rfl rfl (p_ok g.neg (text_ok μ t n (by omega) g.neg))) (add_str (x := "not ") (y := t.pt) (fit (by omega))))))
  | .an a b, n + 1, h, g => by
    simp only [T.dep] at h
    exact x_two g.an.1 g.an.2 (.inl rfl) (p_ok g.an.1 (text_ok μ a n (by omega) g.an.1)) (p_ok g.an.2 (text_ok μ b n (by omega) g.an.2))
  | .orr a b, n + 1, h, g => by
    simp only [T.dep] at h
    exact x_two g.orr.1 g.orr.2 (.inr rfl) (p_ok g.orr.1 (text_ok μ a n (by omega) g.orr.1)) (p_ok g.orr.2 (text_ok μ b n (by omega) g.orr.2))
end K41

set_option Elab.async false
set_option linter.all false
set_option maxRecDepth 100000
set_option maxHeartbeats 1000000
/-! k41: the law's own text of a tree. -/
namespace K41
open PySem L2 Pu
section
variable {n : Nat} {μ : Sto}
abbrev gX (n : Nat) : Pu.Ctx := g__law_tree_text n (d__law_tree_text n)
abbrev xBody : List Stmt := match defBody s__law_tree_text with | _ :: .For _ _ b _ _ :: _ => b | _ => []
/-- a part that is a text is passed over -/
theorem xl_str {v : D} {c : Nat} {w : Str} {y : Option D} : (den 39).s (gX n) xBody [some v, some (.cell c), some (.str w), y] μ = .ok (.next [some v, some (.cell c), some (.str w), y]) μ := rfl
theorem xl_part {t : T} {v : D} {c : Nat} {xs : List D} {y : Option D} {l : Sto} (g : Good t) (hc : μ[c]? = some (.lst xs)) (hx : xs.length ≤ 2) (h : d__law_tree_text n [t.d] μ = .ok (.str t.tx) (μ ++ l)) :
    (den 39).s (gX n) xBody [some v, some (.cell c), some t.d, y] μ = .ok (.next [some v, some (.cell c), some t.d, some (.str t.tx)]) ((μ ++ l).set c (.lst (xs ++ [.str t.pt]))) := by
  have hcl : (μ ++ l)[c]? = some (.lst xs) := by
    rw [List.getElem?_append_left (List.getElem?_eq_some_iff.mp hc).1, hc]
  have hl := g.len
  have e2 : (("(" : Str)).length = 1 := rfl
  have e3 : ((")" : Str)).length = 1 := rfl
  refine (s_next (st_if (q := true) (μ1 := μ) ?_ ?_)).trans s_nil
  · refine bind_ok (b := D.bl true) (μ' := μ) (bind_ok (b := [t.d, .ty "tuple"]) (μ' := μ) rfl ?_) rfl
    show isiD [t.d, .ty "tuple"] μ = _
    unfold isiD
    simp only [ty_t]
    rfl
  · refine (s_next (st_asg (d := .str t.tx) (μ1 := μ ++ l) rfl (call_ok (d__law_tree_text n) (ds := [t.d]) (by decide +kernel) rfl rfl ⟨rfl, rfl, rfl, rfl⟩ rfl rfl h) rfl)).trans ?_
    refine (s_next (st_expr rfl (append_ok (xs := xs) (xs1 := xs) (v := .str t.pt) (μ1 := μ ++ l) ⟨rfl, rfl, rfl, rfl⟩ rfl hcl ?_ hcl (Nat.lt_of_le_of_lt hx (by decide))))).trans s_nil
    have two : ∀ a b : D, ∀ op : Str, ∀ tx : Str, tx.length ≤ 5000 → op = "and" ∨ op = "or" → (den 36).e (gX n) (match xBody with | [.If _ [_, .Expr (.Call _ [e] _ _) _] _ _] => e | _ => .Constant .none 0 ⟨0, 0, 0, 0⟩) [some v, some (.cell c), some (.tup [.str op, a, b]), some (.str tx)] (μ ++ l) = .ok (.str (wrap true tx)) (μ ++ l) := by
      intro a b op tx hl hop
      refine ife_ok (q := true) (μ1 := μ ++ l) (by rcases hop with rfl | rfl <;> rfl) ?_
      exact bin_ok (x := .str (("(" : Str) ++ tx)) (y := .str ")") (μ1 := μ ++ l) (μ2 := μ ++ l) (bin_ok (x := .str "(") (y := .str tx) (μ1 := μ ++ l) (μ2 := μ ++ l) rfl rfl (add_str (x := "(") (y := tx) (fit (by omega)))) rfl (add_str (x := ("(" : Str) ++ tx) (y := ")") (fit (by rw [str_len]; omega)))
    cases t with
    | nm w => rfl
    | al => rfl
    | no => rfl
    | neg t => rfl
    | an a b => exact two a.d b.d "and" _ hl (.inl rfl)
    | orr a b => exact two a.d b.d "or" _ hl (.inr rfl)
end
theorem xl_end {n : Nat} {μ l0 l : Sto} {t : T} {v : D} {xs : List D} {y : Option D} (g : Good t) (hx : xs.length ≤ 2) (h : d__law_tree_text n [t.d] (μ ++ .lst xs :: l0) = .ok (.str t.tx) (μ ++ .lst xs :: l0 ++ l)) :
    (den 39).s (gX n) xBody [some v, some (.cell μ.length), some t.d, y] (μ ++ .lst xs :: l0) = .ok (.next [some v, some (.cell μ.length), some t.d, some (.str t.tx)]) (μ ++ .lst (xs ++ [.str t.pt]) :: (l0 ++ l)) := by
  refine (xl_part g at_end hx h).trans ?_
  have e : (μ ++ .lst xs :: l0 ++ l).set μ.length (.lst (xs ++ [.str t.pt])) = μ ++ .lst (xs ++ [.str t.pt]) :: (l0 ++ l) := by simp
  exact congrArg _ e
theorem x_fin2 {n : Nat} {μ : Sto} {x y z : D} {ρ3 : Option D} {op p q : Str} {c : Nat} (hop : op = "and" ∨ op = "or") (hc : μ[c]? = some (.lst [.str p, .str q])) (hp : p.length ≤ 5002) (hq : q.length ≤ 5002) :
    endD (sD (den 39) (gX n) ((defBody s__law_tree_text).drop 2) [some (.tup [.str op, x, y]), some (.cell c), some z, ρ3]) μ = .ok (.str (p ++ (" " : Str) ++ op ++ (" " : Str) ++ q)) μ := by
  have e2 : ((" " : Str)).length = 1 := rfl
  have e3 : op.length ≤ 3 := by rcases hop with rfl | rfl <;> decide +kernel
  refine (end_if0 (μ1 := μ) (μ2 := μ) (by rcases hop with rfl | rfl <;> rfl) rfl).trans ((end_if0 (μ1 := μ) (μ2 := μ) (by rcases hop with rfl | rfl <;> rfl) rfl).trans (end_ret.trans ?_))
  refine ife_ok (q := true) (μ1 := μ) ?_ ?_
  · refine bind_ok (b := D.bl true) (μ' := μ) (bind_ok (b := D.int 2) (μ' := μ) (bind_ok (b := [.cell c]) (μ' := μ) rfl (len_cell hc)) rfl) rfl
  · have c1 : (p ++ (" " : Str)).length ≤ 5003 := by rw [str_len]; omega
    have c2 : (p ++ (" " : Str) ++ op).length ≤ 5006 := by rw [str_len]; omega
    have c3 : (p ++ (" " : Str) ++ op ++ (" " : Str)).length ≤ 5007 := by rw [str_len]; omega
    refine bin_ok (x := .str (p ++ (" " : Str) ++ op ++ (" " : Str))) (y := .str q) (μ1 := μ) (μ2 := μ) ?_ (bind_ok (b := D.cell c) (μ' := μ) rfl (bind_ok (b := D.int 1) (μ' := μ) rfl (ix_cell hc rfl))) (add_str (fit (by omega)))
    refine bin_ok (x := .str (p ++ (" " : Str) ++ op)) (y := .str " ") (μ1 := μ) (μ2 := μ) ?_ rfl (add_str (fit (by omega)))
    refine bin_ok (x := .str (p ++ (" " : Str))) (y := .str op) (μ1 := μ) (μ2 := μ) ?_ rfl (add_str (fit (by omega)))
    exact bin_ok (x := .str p) (y := .str " ") (μ1 := μ) (μ2 := μ) (bind_ok (b := D.cell c) (μ' := μ) rfl (bind_ok (b := D.int 0) (μ' := μ) rfl (ix_cell hc rfl))) rfl (add_str (fit (by omega)))
theorem lx_two {n : Nat} {μ : Sto} {a b : T} {op : Str} (hop : op = "and" ∨ op = "or") (ga : Good a) (gb : Good b) (ha : ∀ μ, ∃ l, d__law_tree_text n [a.d] μ = .ok (.str a.tx) (μ ++ l)) (hb : ∀ μ, ∃ l, d__law_tree_text n [b.d] μ = .ok (.str b.tx) (μ ++ l)) :
    ∃ l, d__law_tree_text (n + 1) [.tup [.str op, a.d, b.d]] μ = .ok (.str (a.pt ++ (" " : Str) ++ op ++ (" " : Str) ++ b.pt)) (μ ++ l) := by
  obtain ⟨l1, h1⟩ := ha (μ ++ .lst [] :: [])
  obtain ⟨l2, h2⟩ := hb (μ ++ .lst [.str a.pt] :: l1)
  have s1 := xl_end (v := .tup [.str op, a.d, b.d]) (y := none) ga (by simp) h1
  have s2 := xl_end (v := .tup [.str op, a.d, b.d]) (y := some (.str a.tx)) gb (by simp) h2
  refine ⟨.lst [.str a.pt, .str b.pt] :: (l1 ++ l2), ?_⟩
  refine (end_next (ρ' := [some (.tup [.str op, a.d, b.d]), some (.cell μ.length), none, none]) (μ1 := μ ++ [.lst []]) rfl).trans ?_
  refine (end_next (ρ' := [some (.tup [.str op, a.d, b.d]), some (.cell μ.length), some b.d, some (.str b.tx)]) (μ1 := μ ++ .lst [.str a.pt, .str b.pt] :: (l1 ++ l2)) (st_for (ds := [a.d, b.d]) (μ1 := μ ++ [.lst []]) ⟨rfl, rfl⟩ rfl (loop_cons rfl s1 (loop_cons rfl s2 loop_nil)))).trans ?_
  exact x_fin2 hop at_end ga.pln gb.pln
theorem ltext_ok : ∀ (t : T) (n : Nat), t.dep ≤ n → Good t → ∀ μ : Sto, ∃ l, d__law_tree_text n [t.d] μ = .ok (.str t.tx) (μ ++ l)
  | t, 0, h, _, _ => by cases t <;> simp [T.dep] at h
  | .nm w, n + 1, _, _, μ => by
    refine ⟨[.lst []], ?_⟩
    show endD (sD (den 39) (gX n) (defBody s__law_tree_text) [some (T.nm w).d, none, none, none]) μ = _
    refine (end_next (ρ' := [some (T.nm w).d, some (.cell μ.length), none, none]) (μ1 := μ ++ [.lst []]) rfl).trans ?_
    refine (end_next (ρ' := [some (T.nm w).d, some (.cell μ.length), some (.str w), none]) (μ1 := μ ++ [.lst []]) rfl).trans ?_
    exact end_ifR (μ1 := μ ++ [.lst []]) rfl (s_ret rfl)
  | .al, n + 1, _, _, μ => ⟨[.lst []], by
    refine (end_next (ρ' := [some T.al.d, some (.cell μ.length), none, none]) (μ1 := μ ++ [.lst []]) rfl).trans ?_
    refine (end_next (ρ' := [some T.al.d, some (.cell μ.length), none, none]) (μ1 := μ ++ [.lst []]) rfl).trans ((end_if0 (μ1 := μ ++ [.lst []]) rfl rfl).trans ((end_if0 (μ1 := μ ++ [.lst []]) rfl rfl).trans (end_ret.trans (ife_ok (q := false) (μ1 := μ ++ [.lst []]) ?_ rfl))))
    exact bind_ok (b := D.bl false) (μ' := μ ++ [.lst []]) (bind_ok (b := D.int 0) (μ' := μ ++ [.lst []]) (bind_ok (b := [.cell μ.length]) (μ' := μ ++ [.lst []]) rfl (len_cell at_end)) rfl) rfl⟩
  | .no, n + 1, _, _, μ => ⟨[.lst []], by
    refine (end_next (ρ' := [some T.no.d, some (.cell μ.length), none, none]) (μ1 := μ ++ [.lst []]) rfl).trans ?_
    refine (end_next (ρ' := [some T.no.d, some (.cell μ.length), none, none]) (μ1 := μ ++ [.lst []]) rfl).trans ((end_if0 (μ1 := μ ++ [.lst []]) rfl rfl).trans ((end_if0 (μ1 := μ ++ [.lst []]) rfl rfl).trans (end_ret.trans (ife_ok (q := false) (μ1 := μ ++ [.lst []]) ?_ rfl))))
    exact bind_ok (b := D.bl false) (μ' := μ ++ [.lst []]) (bind_ok (b := D.int 0) (μ' := μ ++ [.lst []]) (bind_ok (b := [.cell μ.length]) (μ' := μ ++ [.lst []]) rfl (len_cell at_end)) rfl) rfl⟩
  | .neg t, n + 1, h, g, μ => by
    simp only [T.dep] at h
    obtain ⟨l1, h1⟩ := ltext_ok t n (by omega) g.neg (μ ++ .lst [] :: [])
    have s1 := xl_end (v := (T.neg t).d) (y := none) g.neg (by simp) h1
    have l := g.neg.pln
    have e : (("not " : Str)).length = 4 := rfl
    refine ⟨.lst [.str t.pt] :: l1, ?_⟩
    refine (end_next (ρ' := [some (T.neg t).d, some (.cell μ.length), none, none]) (μ1 := μ ++ [.lst []]) rfl).trans ?_
    refine (end_next (ρ' := [some (T.neg t).d, some (.cell μ.length), some t.d, some (.str t.tx)]) (μ1 := μ ++ .lst [.str t.pt] :: l1) (st_for (ds := [t.d]) (μ1 := μ ++ [.lst []]) ⟨rfl, rfl⟩ rfl (loop_cons rfl s1 loop_nil))).trans ?_
    refine (end_if0 (μ1 := μ ++ .lst [.str t.pt] :: l1) rfl rfl).trans (end_ifR (μ1 := μ ++ .lst [.str t.pt] :: l1) rfl (s_ret ?_))
    exact bin_ok (x := .str "not ") (y := .str t.pt) (μ1 := μ ++ .lst [.str t.pt] :: l1) (μ2 := μ ++ .lst [.str t.pt] :: l1) rfl (bind_ok (b := D.cell μ.length) (μ' := μ ++ .lst [.str t.pt] :: l1) rfl (bind_ok (b := D.int 0) (μ' := μ ++ .lst [.str t.pt] :: l1) rfl (ix_cell at_end rfl))) (add_str (x := "not ") (y := t.pt) (fit (by omega)))
  | .an a b, n + 1, h, g, μ => by
    simp only [T.dep] at h
    exact lx_two (.inl rfl) g.an.1 g.an.2 (ltext_ok a n (by omega) g.an.1) (ltext_ok b n (by omega) g.an.2)
  | .orr a b, n + 1, h, g, μ => by
    simp only [T.dep] at h
    exact lx_two (.inr rfl) g.orr.1 g.orr.2 (ltext_ok a n (by omega) g.orr.1) (ltext_ok b n (by omega) g.orr.2)
end K41

set_option Elab.async false
set_option linter.all false
set_option maxRecDepth 100000
set_option maxHeartbeats 1000000
/-! k41: the names of a tree. -/
namespace K41
open PySem L2 Pu
def addW (l : List Str) (w : Str) : List Str := if w ∈ l then l else l ++ [w]
abbrev dct (l : List Str) : List (Key × D) := l.map fun w => (.inr w, .bl true)
theorem mem_addW {k w : Str} {l : List Str} : k ∈ addW l w ↔ k ∈ l ∨ k = w := by
  unfold addW
  split
  · rename_i h
    exact ⟨.inl, fun z => z.elim id fun e => e ▸ h⟩
  · simp
theorem nod_addW {w : Str} {l : List Str} (h : l.Nodup) : (addW l w).Nodup := by
  unfold addW
  split
  · exact h
  · rename_i hn
    rw [List.nodup_append]
    exact ⟨h, by simp, fun a ha b hb e => hn (by rw [List.mem_singleton] at hb; rw [← hb, ← e]; exact ha)⟩
theorem mem_adds {k : Str} : ∀ (ws l : List Str), k ∈ ws.foldl addW l ↔ k ∈ l ∨ k ∈ ws
  | [], l => by simp
  | w :: ws, l => by
    rw [List.foldl_cons, mem_adds ws, mem_addW, List.mem_cons, or_assoc]
theorem nod_adds : ∀ (ws l : List Str), l.Nodup → (ws.foldl addW l).Nodup
  | [], l, h => h
  | w :: ws, l, h => nod_adds ws _ (nod_addW h)
theorem len_adds : ∀ (ws l : List Str), (ws.foldl addW l).length ≤ l.length + ws.length
  | [], l => Nat.le_refl _
  | w :: ws, l => by
    have h := len_adds ws (addW l w)
    have h2 : (addW l w).length ≤ l.length + 1 := by
      unfold addW
      split
      · omega
      · simp
    rw [List.foldl_cons, List.length_cons]
    omega
theorem put_dct (l : List Str) (w : Str) : putD (dct l) (.inr w) (.bl true) = dct (addW l w) := by
  unfold putD addW
  have e : ((dct l).any fun kv => decide (kv.1 = Sum.inr w)) = decide (w ∈ l) := by
    induction l with
    | nil => rfl
    | cons x r ih =>
      rw [show dct (x :: r) = (.inr x, .bl true) :: dct r from rfl, List.any_cons, ih]
      by_cases h : x = w
      · subst h; simp
      · have h' : ¬ w = x := fun z => h z.symm
        simp [h, h']
  rw [e]
  by_cases h : w ∈ l
  · rw [if_pos (by simpa using h), if_pos h]
    unfold dct
    rw [List.map_map]
    apply List.map_congr_left
    intro x _
    simp only [Function.comp]
    split <;> rfl
  · rw [if_neg (by simpa using h), if_neg h]
    unfold dct
    rw [List.map_append]
    rfl
/-- the names as names_in finds them -/
def T.ks : T → List Str
  | .nm w => [w]
  | .al => []
  | .no => []
  | .neg t => t.ks.foldl addW []
  | .an a b => (a.ks ++ b.ks).foldl addW []
  | .orr a b => (a.ks ++ b.ks).foldl addW []
theorem mem_ks {k : Str} : ∀ t : T, k ∈ t.ks ↔ k ∈ t.nl
  | .nm w => Iff.rfl
  | .al => Iff.rfl
  | .no => Iff.rfl
  | .neg t => by simp only [T.ks, T.nl, mem_adds, mem_ks t, List.not_mem_nil, false_or]
  | .an a b => by simp only [T.ks, T.nl, mem_adds, mem_ks a, mem_ks b, List.mem_append, List.not_mem_nil, false_or]
  | .orr a b => by simp only [T.ks, T.nl, mem_adds, mem_ks a, mem_ks b, List.mem_append, List.not_mem_nil, false_or]
theorem nod_ks : ∀ t : T, t.ks.Nodup
  | .nm w => by simp [T.ks]
  | .al => by simp [T.ks]
  | .no => by simp [T.ks]
  | .neg t => nod_adds _ _ (by simp)
  | .an a b => nod_adds _ _ (by simp)
  | .orr a b => nod_adds _ _ (by simp)
/-! ### sorting -/
theorem ltK_str (x y : Str) : ltK (.str x) (.str y) = ltS x y := lt1_str x y
theorem ins_same {c : Str} : ∀ l : List Str, c ∉ l → insL ltS c l = insS c l ∧ (insS c l).length = l.length + 1
  | [], _ => ⟨rfl, rfl⟩
  | y :: r, h => by
    have hne : ¬ c = y := fun e => h (e ▸ List.mem_cons_self)
    obtain ⟨ih, il⟩ := ins_same r fun e => h (List.mem_cons_of_mem _ e)
    unfold insL insS
    cases q : ltS c y with
    | true =>
      have q2 : ltS y c = false := by
        cases q3 : ltS y c with
        | false => rfl
        | true =>
          have z := ltS_trans q q3
          rw [ltS_irr] at z
          cases z
      rw [q2]
      exact ⟨rfl, rfl⟩
    | false =>
      have q2 : ltS y c = true := by
        cases q3 : ltS y c with
        | true => rfl
        | false => exact absurd (ltS_tot q q3) hne
      rw [q2, if_pos rfl, if_neg (by decide), if_neg hne, ih]
      exact ⟨rfl, by rw [List.length_cons, List.length_cons, il]⟩
theorem srt_same : ∀ l : List Str, l.Nodup → srtL ltS l = sortS l ∧ (sortS l).length = l.length
  | [], _ => ⟨rfl, rfl⟩
  | c :: r, h => by
    obtain ⟨h1, h2⟩ := List.nodup_cons.mp h
    obtain ⟨e1, e2⟩ := srt_same r h2
    obtain ⟨z1, z2⟩ := ins_same (c := c) (sortS r) fun z => h1 ((mem_sortS r).mp z)
    refine ⟨?_, ?_⟩
    · show insL ltS c (srtL ltS r) = _
      rw [e1]
      exact z1
    · show (insS c (sortS r)).length = _
      rw [z2, e2]
      rfl
theorem sortL_strs {l : List Str} (h : l.Nodup) : sortL (l.map D.str) = (sortS l).map D.str := by
  rw [← (srt_same l h).1]
  exact (srt_map fun y _ x _ => (ltK_str y x).symm).symm
theorem sortable_strs (l : List Str) : sortable (l.map D.str) = true := by
  unfold sortable
  have e : (l.map D.str).all isStrD = true := by simp [isStrD]
  rw [e]
  simp
theorem strsOf_strs (l : List Str) : strsOf (l.map D.str) = some l := by
  induction l with
  | nil => rfl
  | cons x r ih => rw [List.map_cons]; unfold strsOf; rw [ih]; rfl
def fiveS : List Str := ["a", "ends", "nota", "odd", "zzzzzzzz"]
theorem ris_fiveS : RisS fiveS := by decide +kernel
theorem five_mem (w : Str) : w ∈ fiveS ↔ w ∈ five := by
  simp only [fiveS, five, List.mem_cons, List.not_mem_nil, or_false]
  constructor
  · rintro (h | h | h | h | h) <;> simp [h]
  · rintro (h | h | h | h | h) <;> simp [h]
theorem ris_sub {l m : List Str} (hl : RisS l) (hm : RisS m) (h : ∀ w ∈ l, w ∈ m) : l = m.filter fun w => decide (w ∈ l) :=
  ris_uniqS _ _ hl (hm.sublist List.filter_sublist) fun k => by
    rw [List.mem_filter, decide_eq_true_eq]
    exact ⟨fun z => ⟨h k z, z⟩, fun z => z.2⟩
theorem ris_five {l : List Str} (hl : RisS l) (h : ∀ w ∈ l, w ∈ five) : l = fiveS.filter fun w => decide (w ∈ l) :=
  ris_sub hl ris_fiveS fun w hw => (five_mem w).mpr (h w hw)
theorem five_le {l : List Str} (hl : RisS l) (h : ∀ w ∈ l, w ∈ five) : l.length ≤ 5 := by
  rw [ris_five hl h]
  exact List.length_filter_le _ _
abbrev T.ws (t : T) : List Str := sortS t.nl
theorem ws_ks (t : T) : sortS t.ks = t.ws := ris_uniqS _ _ (ris_sortS _) (ris_sortS _) fun k => by rw [mem_sortS, mem_sortS, mem_ks]
theorem ks_len (t : T) : t.ks.length = t.ws.length := by rw [← ws_ks, (srt_same _ (nod_ks t)).2]
theorem ws_two (a b : List Str) : sortS (sortS a ++ sortS b) = sortS (a ++ b) := ris_uniqS _ _ (ris_sortS _) (ris_sortS _) fun k => by simp only [mem_sortS, List.mem_append]
theorem ws_one (a : List Str) : sortS (sortS a) = sortS a := ris_uniqS _ _ (ris_sortS _) (ris_sortS _) fun k => by simp only [mem_sortS]
theorem nl_cnt : ∀ t : T, t.nl.length ≤ t.cnt
  | .nm w => Nat.le_refl _
  | .al => Nat.le_succ _
  | .no => Nat.le_succ _
  | .neg t => Nat.le_succ_of_le (nl_cnt t)
  | .an a b => by have := nl_cnt a; have := nl_cnt b; simp only [T.nl, T.cnt, List.length_append]; omega
  | .orr a b => by have := nl_cnt a; have := nl_cnt b; simp only [T.nl, T.cnt, List.length_append]; omega
theorem ks_cnt : ∀ t : T, t.ks.length ≤ t.cnt
  | .nm w => Nat.le_refl _
  | .al => Nat.le_succ _
  | .no => Nat.le_succ _
  | .neg t => by have := ks_cnt t; have := len_adds t.ks []; simp only [T.ks, T.cnt, List.length_nil] at *; omega
  | .an a b => by have := ks_cnt a; have := ks_cnt b; have := len_adds (a.ks ++ b.ks) []; simp only [T.ks, T.cnt, List.length_append, List.length_nil] at *; omega
  | .orr a b => by have := ks_cnt a; have := ks_cnt b; have := len_adds (a.ks ++ b.ks) []; simp only [T.ks, T.cnt, List.length_append, List.length_nil] at *; omega
/-! ### names_in -/
section
variable {n : Nat} {μ : Sto}
theorem inner_put {r : Dn} {G : Pu.Ctx} {tg kx vx : Expr} {ρ : Sl} {ρ' : D → Sl} : ∀ (ws acc : List Str), (∀ w : Str, gD G tg (.str w) ρ = some (ρ' (.str w)) ∧ r.e G kx (ρ' (.str w)) μ = .ok (.str w) μ ∧ r.e G vx (ρ' (.str w)) μ = .ok (.bl true) μ) → acc.length + ws.length ≤ 20000 → clauseD r G tg [] (leafD r G kx vx) ρ (ws.map D.str) (dct acc) μ = .ok (dct (ws.foldl addW acc)) μ
  | [], acc, _, _ => rfl
  | w :: ws, acc, h, hl => by
    rw [List.length_cons] at hl
    refine clause_cons (h w).1 (a1 := dct (addW acc w)) (μ1 := μ) ?_ ?_
    · refine bind_ok (h w).2.1 (bind_ok (h w).2.2 ?_)
      show (if (dct acc).length < sizeLine then R.ok (putD (dct acc) (.inr w) (.bl true)) μ else .stuck) = _
      rw [if_pos (Nat.lt_of_le_of_lt (show (dct acc).length ≤ 20000 by rw [List.length_map]; omega) (by decide)), put_dct]
    · have e : (addW acc w).length ≤ acc.length + 1 := len_adds [w] acc
      exact inner_put ws (addW acc w) h (by omega)
abbrev gN (n : Nat) : Pu.Ctx := g_names_in n (d_names_in n)
abbrev nE : Expr := match defBody s_names_in with | [_, .Return (some e) _] => e | _ => .Constant .none 0 ⟨0, 0, 0, 0⟩
abbrev nS : Scope := match nE with | .DictComp _ _ _ sc _ => sc | _ => defScope s_names_in
abbrev nK : Expr := match nE with | .DictComp k _ _ _ _ => k | _ => nE
abbrev nV : Expr := match nE with | .DictComp _ k _ _ _ => k | _ => nE
abbrev nT : Expr := match nE with | .DictComp _ _ (⟨t, _, _, _⟩ :: _) _ _ => t | _ => nE
abbrev nT1 : Expr := match nE with | .DictComp _ _ [_, ⟨t, _, _, _⟩] _ _ => t | _ => nE
abbrev nI1 : Expr := match nE with | .DictComp _ _ [_, ⟨_, t, _, _⟩] _ _ => t | _ => nE
theorem keys_dct (l : List Str) : keysD (dct l) = l.map D.str := by
  unfold keysD dct
  rw [List.map_map]
  rfl
theorem n_part {x v : D} {ws acc : List Str} (h : d_names_in n [x] μ = .ok (.dic (dct ws)) μ) (hl : acc.length + ws.length ≤ 20000) :
    innerD (den 38) (blkG (gN n) nS) nT1 nI1 [] [2] (leafD (den 38) (blkG (gN n) nS) nK nV) [some v, some x, none] (dct acc) μ = .ok (dct (ws.foldl addW acc)) μ := by
  refine bind_ok (b := ws.map D.str) (μ' := μ) (bind_ok (b := .dic (dct ws)) (μ' := μ) (call_ok (d_names_in n) (ds := [x]) (by decide +kernel) rfl rfl ⟨rfl, rfl, rfl, rfl⟩ rfl rfl h) ?_) ?_
  · show R.ok (keysD (dct ws)) μ = _
    rw [keys_dct]
  · exact inner_put (ρ' := fun y => [some v, some x, some y]) ws acc (fun y => ⟨rfl, rfl, rfl⟩) hl
theorem n_all {v : D} {xs : List D} {zs : List Str} (h0 : slD v (some 1) none μ = .ok (.tup xs) μ)
    (h : clauseD (den 38) (blkG (gN n) nS) nT [] (innerD (den 38) (blkG (gN n) nS) nT1 nI1 [] [2] (leafD (den 38) (blkG (gN n) nS) nK nV)) [some v, none, none] xs (dct []) μ = .ok (dct zs) μ) :
    (den 39).e (gN n) nE [some v, none, none] μ = .ok (.dic (dct zs)) μ := by
  exact bind_ok (b := xs) (μ' := μ) (bind_ok (b := .tup xs) (μ' := μ) (bind_ok (b := v) (μ' := μ) rfl (bind_ok (b := some 1) (μ' := μ) rfl (bind_ok (b := none) (μ' := μ) rfl h0))) rfl) (bind_ok (b := dct zs) (μ' := μ) (noX_ok h) rfl)
end
theorem names_ok (μ : Sto) : ∀ (t : T) (n : Nat), t.dep ≤ n → t.cnt ≤ 255 → d_names_in n [t.d] μ = .ok (.dic (dct t.ks)) μ
  | t, 0, h, _ => by cases t <;> simp [T.dep] at h
  | .nm w, n + 1, _, _ => rfl
  | .al, n + 1, _, _ => rfl
  | .no, n + 1, _, _ => rfl
  | .neg t, n + 1, h, hc => by
    simp only [T.dep, T.cnt] at h hc
    have l := ks_cnt t
    refine (end_if0 rfl rfl).trans (end_ret.trans (n_all (xs := [t.d]) rfl ?_))
    exact clause_cons rfl (n_part (acc := []) (names_ok μ t n (by omega) (by omega)) (by simp only [List.length_nil]; omega)) clause_nil
  | .an a b, n + 1, h, hc => by
    simp only [T.dep, T.cnt] at h hc
    have la := ks_cnt a
    have lb := ks_cnt b
    have l2 := len_adds a.ks []
    rw [List.length_nil] at l2
    refine (end_if0 rfl rfl).trans (end_ret.trans (n_all (xs := [a.d, b.d]) (zs := (a.ks ++ b.ks).foldl addW []) rfl ?_))
    rw [List.foldl_append]
    exact clause_cons rfl (n_part (acc := []) (names_ok μ a n (by omega) (by omega)) (by simp only [List.length_nil]; omega)) (clause_cons rfl (n_part (names_ok μ b n (by omega) (by omega)) (by omega)) clause_nil)
  | .orr a b, n + 1, h, hc => by
    simp only [T.dep, T.cnt] at h hc
    have la := ks_cnt a
    have lb := ks_cnt b
    have l2 := len_adds a.ks []
    rw [List.length_nil] at l2
    refine (end_if0 rfl rfl).trans (end_ret.trans (n_all (xs := [a.d, b.d]) (zs := (a.ks ++ b.ks).foldl addW []) rfl ?_))
    rw [List.foldl_append]
    exact clause_cons rfl (n_part (acc := []) (names_ok μ a n (by omega) (by omega)) (by simp only [List.length_nil]; omega)) (clause_cons rfl (n_part (names_ok μ b n (by omega) (by omega)) (by omega)) clause_nil)
end K41

set_option Elab.async false
set_option linter.all false
set_option maxRecDepth 100000
set_option maxHeartbeats 1000000
/-! k41: the law's own names of a tree; making a formula. -/
namespace K41
open PySem L2 Pu
section
variable {n : Nat} {μ : Sto}
abbrev gL (n : Nat) : Pu.Ctx := g__law_words_in n (d__law_words_in n)
abbrev lBody : List Stmt := match defBody s__law_words_in with | _ :: _ :: .For _ _ b _ _ :: _ => b | _ => []
theorem add_strs {a b : List Str} (h : a.length + b.length ≤ 20000) : addD (.lst (a.map D.str)) (.lst (b.map D.str)) μ = .ok (.lst ((a ++ b).map D.str)) μ := by
  show (if (a.map D.str).length + (b.map D.str).length ≤ sizeLine then R.ok (D.lst (a.map D.str ++ b.map D.str)) μ else .stuck) = _
  rw [List.length_map, List.length_map, if_pos (fit h), List.map_append]
theorem l_part {v x : D} {acc ws : List Str} (h : d__law_words_in n [x] μ = .ok (names ws) μ) (hl : acc.length + ws.length ≤ 20000) :
    (den 39).s (gL n) lBody [some v, some (.lst (acc.map D.str)), some x] μ = .ok (.next [some v, some (.lst ((acc ++ ws).map D.str)), some x]) μ := by
  refine (s_next (st_asg (d := .lst ((acc ++ ws).map D.str)) (μ1 := μ) rfl ?_ rfl)).trans s_nil
  refine bin_ok (x := .lst (acc.map D.str)) (y := .lst (ws.map D.str)) (μ1 := μ) (μ2 := μ) rfl ?_ (add_strs hl)
  exact bind_ok (b := [names ws]) (μ' := μ) (a_cons (call_ok (d__law_words_in n) (ds := [x]) (by decide +kernel) rfl rfl ⟨rfl, rfl, rfl, rfl⟩ rfl rfl h) a_nil) rfl
theorem l_end {v : D} {y : Option D} {acc : List Str} (hl : acc.length < 64) :
    endD (sD (den 39) (gL n) ((defBody s__law_words_in).drop 3) [some v, some (.lst (acc.map D.str)), y]) μ = .ok (names (sortS acc)) μ := by
  refine end_ret.trans ?_
  refine bind_ok (b := [.lst ((sortS acc).map D.str)]) (μ' := μ) (a_cons (bind_ok (b := .lst (acc.map D.str)) (μ' := μ) rfl ?_) a_nil) rfl
  show (match textsOf μ (.lst (acc.map D.str)) with | some ks => if ks.length < 64 then R.ok (D.lst ((sortS ks).map .str)) μ else .stuck | none => .stuck) = _
  have e : textsOf μ (.lst (acc.map D.str)) = some acc := strsOf_strs acc
  rw [e]
  simp only [hl, ↓reduceIte]
theorem l_two {a b : D} {op : Str} {wa wb : List Str} (hop : op = "and" ∨ op = "or") (ha : d__law_words_in n [a] μ = .ok (names wa) μ) (hb : d__law_words_in n [b] μ = .ok (names wb) μ) (la : wa.length ≤ 5) (lb : wb.length ≤ 5) : d__law_words_in (n + 1) [.tup [.str op, a, b]] μ = .ok (names (sortS (wa ++ wb))) μ := by
  have e : d__law_words_in (n + 1) [.tup [.str op, a, b]] μ = endD (sD (den 39) (gL n) ((defBody s__law_words_in).drop 2) [some (.tup [.str op, a, b]), some (.lst (([] : List Str).map D.str)), none]) μ := by
    rcases hop with rfl | rfl
    · exact (end_if0 (μ1 := μ) rfl rfl).trans (end_next (μ1 := μ) rfl)
    · exact (end_if0 (μ1 := μ) rfl rfl).trans (end_next (μ1 := μ) rfl)
  rw [e]
  refine (end_next (μ1 := μ) (st_for (ds := [a, b]) (μ1 := μ) ⟨rfl, rfl⟩ rfl (loop_cons rfl (l_part (acc := []) ha (by simp only [List.length_nil]; omega)) (loop_cons rfl (l_part (acc := wa) hb (by omega)) loop_nil)))).trans (l_end (acc := wa ++ wb) (by rw [List.length_append]; omega))
end
theorem Good.ws {t : T} (g : Good t) : t.ws.length ≤ 5 := five_le (ris_sortS _) fun w hw => g.nl w ((mem_sortS _).mp hw)
theorem words_ok (μ : Sto) : ∀ (t : T) (n : Nat), t.dep ≤ n → Good t → d__law_words_in n [t.d] μ = .ok (names t.ws) μ
  | t, 0, h, _ => by cases t <;> simp [T.dep] at h
  | .nm w, n + 1, _, _ => rfl
  | .al, n + 1, _, _ => rfl
  | .no, n + 1, _, _ => rfl
  | .neg t, n + 1, h, g => by
    simp only [T.dep] at h
    have l := g.neg.ws
    refine (end_if0 (μ1 := μ) rfl rfl).trans ((end_next (ρ' := [some (T.neg t).d, some (.lst (([] : List Str).map D.str)), none]) (μ1 := μ) rfl).trans ?_)
    refine (end_next (μ1 := μ) (st_for (ds := [t.d]) (μ1 := μ) ⟨rfl, rfl⟩ rfl (loop_cons rfl (l_part (acc := []) (words_ok μ t n (by omega) g.neg) (by simp only [List.length_nil]; omega)) loop_nil))).trans ((l_end (acc := t.ws) (by omega)).trans ?_)
    rw [ws_one]
    rfl
  | .an a b, n + 1, h, g => by
    simp only [T.dep] at h
    refine (l_two (.inl rfl) (words_ok μ a n (by omega) g.an.1) (words_ok μ b n (by omega) g.an.2) g.an.1.ws g.an.2.ws).trans ?_
    rw [ws_two]
    rfl
  | .orr a b, n + 1, h, g => by
    simp only [T.dep] at h
    refine (l_two (.inr rfl) (words_ok μ a n (by omega) g.orr.1) (words_ok μ b n (by omega) g.orr.2) g.orr.1.ws g.orr.2.ws).trans ?_
    rw [ws_two]
    rfl
end K41

set_option Elab.async false
set_option linter.all false
set_option maxRecDepth 100000
set_option maxHeartbeats 1000000
/-! k41: making a formula and asking it. -/
namespace K41
open PySem L2 Pu
abbrev fs (t : T) : List (Str × D) := [("own_tree", t.d), ("own_names", names t.ws)]
abbrev fob (t : T) : D := .obj "Formula" (fs t)
theorem within8 {t : T} (μ : Sto) (g : Good t) : d_is_tree_within 10 [t.d, .int 8] μ = .ok (.bl true) μ := within_ok μ t 10 8 (by have := g.dep; omega) (by have := g.dep; omega) g
theorem dep10 {t : T} (g : Good t) : t.dep ≤ 10 := Nat.le_trans g.dep (by decide)
theorem init_ok {t : T} (μ : Sto) (g : Good t) (h4 : t.ws.length ≤ 4) : d_Formula___init__ [.cell μ.length, t.d] (μ ++ [.obj "Formula" []]) = .ok .non (μ ++ [.obj "Formula" (fs t)]) := by
  have hn := fun ν => names_ok ν t 10 (dep10 g) g.cnt
  refine (end_if0 (μ1 := μ ++ [.obj "Formula" []]) (ρ' := [some (.cell μ.length), some t.d]) (μ2 := μ ++ [.obj "Formula" []]) ?_ rfl).trans ?_
  · refine t_or0 (μ1 := μ ++ [.obj "Formula" []]) (t_not (q := true) (t_call ?_)) (t_one (t_cmp (x := .int t.ks.length) (y := .int 4) (μ1 := μ ++ [.obj "Formula" []]) (μ2 := μ ++ [.obj "Formula" []]) rfl ?_ rfl ?_))
    · exact call_ok (d_is_tree_within 10) (ds := [t.d, .int 8]) (by decide +kernel) rfl rfl ⟨rfl, rfl, rfl, rfl⟩ rfl rfl (within8 _ g)
    · refine bind_ok (b := [.dic (dct t.ks)]) (μ' := μ ++ [.obj "Formula" []]) (a_cons (call_ok (d_names_in 10) (ds := [t.d]) (by decide +kernel) rfl rfl ⟨rfl, rfl, rfl, rfl⟩ rfl rfl (hn _)) a_nil) ?_
      show R.ok (D.int (dct t.ks).length) _ = _
      rw [List.length_map]
    · show R.ok (D.bl (decide ((t.ks.length : Int) > 4))) _ = _
      rw [ks_len, decide_eq_false (by omega)]
  · refine (end_next (st_fld rfl (v := t.d) (x := .cell μ.length) (μ1 := μ ++ [.obj "Formula" []]) (μ2 := μ ++ [.obj "Formula" []]) rfl rfl (fld_end ⟨by decide +kernel, by simp⟩))).trans ?_
    refine (end_next (st_fld rfl (v := names t.ws) (x := .cell μ.length) (μ1 := μ ++ [.obj "Formula" [("own_tree", t.d)]]) (μ2 := μ ++ [.obj "Formula" [("own_tree", t.d)]]) ?_ rfl (fld_end ⟨by decide +kernel, by simp⟩))).trans rfl
    refine bind_ok (b := [.lst (t.ws.map D.str)]) (μ' := μ ++ [.obj "Formula" [("own_tree", t.d)]]) (a_cons ?_ a_nil) rfl
    refine bind_ok (b := [.lst (t.ks.map D.str)]) (μ' := μ ++ [.obj "Formula" [("own_tree", t.d)]]) (a_cons ?_ a_nil) ?_
    · refine bind_ok (b := [.dic (dct t.ks)]) (μ' := μ ++ [.obj "Formula" [("own_tree", t.d)]]) (a_cons (call_ok (d_names_in 10) (ds := [t.d]) (by decide +kernel) rfl rfl ⟨rfl, rfl, rfl, rfl⟩ rfl rfl (hn _)) a_nil) ?_
      show R.ok (D.lst (keysD (dct t.ks))) _ = _
      rw [keys_dct]
    · show (if sortable (t.ks.map D.str) = true then R.ok (D.lst (sortL (t.ks.map D.str))) _ else .stuck) = _
      rw [if_pos (sortable_strs _), sortL_strs (nod_ks t), ws_ks]
end K41

set_option Elab.async false
set_option linter.all false
set_option maxRecDepth 100000
set_option maxHeartbeats 1000000
/-! k41: sets of names; what a formula tells. -/
namespace K41
open PySem L2 Pu
def pw : List Str → List (List Str)
  | [] => [[]]
  | x :: r => pw r ++ (pw r).map (x :: ·)
theorem filter_pw (p : Str → Bool) : ∀ l : List Str, l.filter p ∈ pw l
  | [] => List.mem_cons_self
  | x :: r => by
    rw [List.filter_cons]
    unfold pw
    split
    · exact List.mem_append_right _ (List.mem_map.mpr ⟨_, filter_pw p r, rfl⟩)
    · exact List.mem_append_left _ (filter_pw p r)
abbrev subs : List (List Str) := pw fiveS
theorem ris_subs {l : List Str} (hl : RisS l) (h : ∀ w ∈ l, w ∈ five) : l ∈ subs := by
  rw [ris_five hl h]
  exact filter_pw _ _
theorem all_cons {α : Type} {P : α → Prop} {a : α} {l : List α} (h : P a) (t : ∀ s ∈ l, P s) : ∀ s ∈ a :: l, P s := fun s hs => (List.mem_cons.mp hs).elim (fun e => e ▸ h) (t s)
theorem all_nil {α : Type} {P : α → Prop} : ∀ s ∈ ([] : List α), P s := fun s hs => nomatch hs
abbrev hT : Expr := match defBody s_Formula_holds with | .If c _ _ _ :: _ => c | _ => .Constant .none 0 ⟨0, 0, 0, 0⟩
theorem holds_test (t : T) (μ : Sto) : ∀ s ∈ subs, (den 39).t g_Formula_holds hT [some (fob t), some (names s), none] μ = .ok false μ := by
  repeat (refine all_cons (l := _) ?_ ?_; kernel_rfl)
  exact all_nil
theorem holds_ok {t : T} (μ : Sto) (g : Good t) {s : List Str} (hs : s ∈ subs) : d_Formula_holds [fob t, names s] μ = .ok (.bl (so t s)) μ :=
  (end_if0 (μ1 := μ) (ρ' := [some (fob t), some (names s), none]) (μ2 := μ) (holds_test t μ s hs) rfl).trans (end_ret.trans (call_ok (d_is_so 10) (ds := [t.d, names s]) (by decide +kernel) rfl rfl ⟨rfl, rfl, rfl, rfl⟩ rfl rfl (is_so_ok s μ t 10 (dep10 g))))
theorem call_f {t : T} (μ : Sto) (g : Good t) {s : List Str} (hs : s ∈ subs) : d_Formula___call__ [fob t, names s] μ = .ok (.bl (so t s)) μ :=
  end_ret.trans (meth_ok (C := "Formula") (fs := fs t) (d := fob t) (ds := [names s]) (μ1 := μ) (μ2 := μ) (F := d_Formula_holds) ⟨by decide +kernel, rfl, rfl, rfl, rfl, by decide⟩ rfl rfl rfl rfl rfl rfl (holds_ok μ g hs))
theorem len_f {t : T} (μ : Sto) (g : Good t) : d_Formula___len__ [fob t] μ = .ok (.int t.cnt) μ := by
  refine end_ret.trans (bind_ok (b := [.lst t.tr]) (μ' := μ) (a_cons (call_ok (d_trees_in 10) (ds := [t.d]) (by decide +kernel) rfl rfl ⟨rfl, rfl, rfl, rfl⟩ rfl rfl (trees_ok μ t 10 (dep10 g) g.cnt)) a_nil) ?_)
  show R.ok (D.int t.tr.length) μ = _
  rw [tr_len]
theorem js_one {k : Nat} {G : Pu.Ctx} {a : Expr} {pos : Pos} {ρ : Sl} {μ : Sto} : (den (k + 1)).e G (.JoinedStr [a] pos) ρ μ = (den k).e G a ρ μ := rfl
theorem str_f {t : T} (μ : Sto) (g : Good t) : d_Formula___str__ [fob t] μ = .ok (.str t.tx) μ := by
  refine end_ret.trans (js_one.trans (fmt_ok ?_ (fit (by have := g.len; omega))))
  exact call_ok (d_text_of 10) (ds := [t.d]) (by decide +kernel) rfl rfl ⟨rfl, rfl, rfl, rfl⟩ rfl rfl (text_ok μ t 10 (dep10 g) g)
/-! ### the sets -/
def setsR (ws : List Str) : List D := match d__law_sets_of [names ws] [] with
  | .ok (.lst l) _ => l
  | _ => []
def isSub : D → Bool
  | .tup xs => match strsOf xs with
    | some s => subs.contains s
    | none => false
  | _ => false
theorem sets_ok (μ : Sto) : ∀ ws ∈ subs, d__law_sets_of [names ws] μ = .ok (.lst (setsR ws)) μ := by
  repeat (refine all_cons (l := _) ?_ ?_; kernel_rfl)
  exact all_nil
theorem sets_sub : ∀ ws ∈ subs, (setsR ws).all isSub = true := by decide +kernel
theorem isSub_of {d : D} (h : isSub d = true) : ∃ s ∈ subs, d = names s := by
  cases d with
  | tup xs =>
    unfold isSub at h
    cases q : strsOf xs with
    | none => simp only [q] at h; cases h
    | some s =>
      simp only [q] at h
      exact ⟨s, by simpa using h, by rw [strsOf_map q]⟩
  | _ => cases h
end K41

set_option Elab.async false
set_option linter.all false
set_option maxRecDepth 100000
set_option maxHeartbeats 1000000
/-! k41: what a formula tells is right. -/
namespace K41
open PySem L2 Pu
def fineS (x : Str) : Bool := x.cps.toList.all fun c => decide (c < 16 ^ 8)
theorem fine_str (x : Str) : fine (.str x) = fineS x := by simp only [fine, fineS]
theorem fine_app (x y : Str) : fineS (x ++ y) = (fineS x && fineS y) := by
  show ((x.cps ++ y.cps).toList.all _) = _
  rw [Array.toList_append, List.all_append]
  rfl
theorem five_fine : ∀ w ∈ five, fineS w = true := by decide +kernel
theorem fine_t : ∀ t : T, (∀ w ∈ t.nl, w ∈ five) → fine t.py = true
  | .nm w, h => by
    simp only [T.py, fine, fineL, Bool.and_true]
    rw [show (w.cps.toList.all fun c => decide (c < 16 ^ 8)) = true from five_fine w (h w List.mem_cons_self)]
    decide +kernel
  | .al, _ => by decide +kernel
  | .no, _ => by decide +kernel
  | .neg t, h => by
    simp only [T.py, fine, fineL, fine_t t h, Bool.and_true]
    decide +kernel
  | .an a b, h => by
    simp only [T.py, fine, fineL, fine_t a fun w hw => h w (List.mem_append_left _ hw), fine_t b fun w hw => h w (List.mem_append_right _ hw), Bool.and_true]
    decide +kernel
  | .orr a b, h => by
    simp only [T.py, fine, fineL, fine_t a fun w hw => h w (List.mem_append_left _ hw), fine_t b fun w hw => h w (List.mem_append_right _ hw), Bool.and_true]
    decide +kernel
theorem wt_t : ∀ t : T, (∀ w ∈ t.nl, w ∈ five) → wt t.py ≤ 140 * t.cnt
  | .nm w, h => by
    have := five_len w (h w List.mem_cons_self)
    have e : (("name" : Str)).length = 4 := rfl
    simp only [T.py, T.cnt, wt, wtL]
    omega
  | .al, _ => by decide +kernel
  | .no, _ => by decide +kernel
  | .neg t, h => by
    have := wt_t t h
    have e : (("not" : Str)).length = 3 := rfl
    simp only [T.py, T.cnt, wt, wtL]
    omega
  | .an a b, h => by
    have := wt_t a fun w hw => h w (List.mem_append_left _ hw)
    have := wt_t b fun w hw => h w (List.mem_append_right _ hw)
    have e : (("and" : Str)).length = 3 := rfl
    simp only [T.py, T.cnt, wt, wtL]
    omega
  | .orr a b, h => by
    have := wt_t a fun w hw => h w (List.mem_append_left _ hw)
    have := wt_t b fun w hw => h w (List.mem_append_right _ hw)
    have e : (("or" : Str)).length = 2 := rfl
    simp only [T.py, T.cnt, wt, wtL]
    omega
theorem fine_wrap (b : Bool) (x : Str) (h : fineS x = true) : fineS (wrap b x) = true := by
  cases b with
  | false => exact h
  | true =>
    show fineS (("(" : Str) ++ x ++ (")" : Str)) = true
    rw [fine_app, fine_app, h]
    decide +kernel
theorem fine_tx : ∀ t : T, (∀ w ∈ t.nl, w ∈ five) → fineS t.tx = true
  | .nm w, h => five_fine w (h w List.mem_cons_self)
  | .al, _ => by decide +kernel
  | .no, _ => by decide +kernel
  | .neg t, h => by
    simp only [T.tx, fine_app, fine_wrap _ _ (fine_tx t h)]
    decide +kernel
  | .an a b, h => by
    simp only [T.tx, fine_app, fine_wrap _ _ (fine_tx a fun w hw => h w (List.mem_append_left _ hw)), fine_wrap _ _ (fine_tx b fun w hw => h w (List.mem_append_right _ hw))]
    decide +kernel
  | .orr a b, h => by
    simp only [T.tx, fine_app, fine_wrap _ _ (fine_tx a fun w hw => h w (List.mem_append_left _ hw)), fine_wrap _ _ (fine_tx b fun w hw => h w (List.mem_append_right _ hw))]
    decide +kernel
theorem repr_t {t : T} (μ : Sto) (g : Good t) : reprD [t.d] μ = .ok (.str t.py.shown) μ :=
  repr_ok (toPyT_t μ t) (fine_t t g.nl) (by have := depth_t t; have := g.dep; omega) (by have := wt_t t g.nl; have := g.cnt; omega)
abbrev tell (t : T) : D := .lst [t.d, names t.ws, .int t.cnt, .str t.tx]
def wsP (ws : List Str) : List PyData := ws.map .str
theorem toPy_ws : ∀ ws : List Str, toPyL (ws.map D.str) = some (wsP ws)
  | [] => rfl
  | w :: r => by
    simp only [List.map_cons, toPyL, toPy, toPy_ws r]
    rfl
theorem fine_ws : ∀ ws : List Str, (∀ w ∈ ws, w ∈ five) → fineL (wsP ws) = true ∧ wtL (wsP ws) ≤ 84 * ws.length ∧ PyData.depthAll (wsP ws) ≤ 0
  | [], _ => ⟨rfl, by decide, by simp [wsP, PyData.depthAll]⟩
  | w :: r, h => by
    obtain ⟨h1, h2, h3⟩ := fine_ws r fun x hx => h x (List.mem_cons_of_mem _ hx)
    have h4 := five_len w (h w List.mem_cons_self)
    have h5 := five_fine w (h w List.mem_cons_self)
    rw [show wsP (w :: r) = .str w :: wsP r from rfl]
    refine ⟨?_, ?_, ?_⟩
    · simp only [fineL, fine_str, h5, h1, Bool.and_true]
    · simp only [wtL, wt, List.length_cons]; omega
    · simp only [PyData.depthAll, PyData.depth]; omega
def tellP (t : T) : PyData := .list [t.py, .tuple (wsP t.ws), .int t.cnt, .str t.tx]
theorem repr_tell {t : T} (μ : Sto) (g : Good t) : reprD [tell t] μ = .ok (.str (tellP t).shown) μ := by
  have hw : ∀ w ∈ t.ws, w ∈ five := fun w hw => g.nl w ((mem_sortS _).mp hw)
  obtain ⟨h1, h2, h3⟩ := fine_ws t.ws hw
  have h4 := g.ws
  have h5 := g.len
  have h6 := wt_t t g.nl
  have h7 := g.cnt
  have h8 := depth_t t
  have h9 := g.dep
  have l1 : t.cnt.log2 < 8 := (Nat.log2_lt (by have := t.cnt; cases t <;> simp [T.cnt])).mpr (by omega)
  refine repr_ok (p := tellP t) ?_ ?_ ?_ ?_
  · show (toPyL [t.d, names t.ws, .int t.cnt, .str t.tx]).map PyData.list = _
    simp only [toPyL, toPy, toPy_t, toPy_ws, Option.map_some]
    rfl
  · simp only [tellP, fine, fineL, fine_t t g.nl, h1, Int.natAbs_natCast, Bool.true_and, Bool.and_true]
    rw [show (t.tx.cps.toList.all fun c => decide (c < 16 ^ 8)) = true from fine_tx t g.nl, decide_eq_true (by omega)]
    rfl
  · simp only [tellP, PyData.depth, PyData.depthAll]
    omega
  · simp only [tellP, wt, wtL, Int.natAbs_natCast]
    omega
end K41

set_option Elab.async false
set_option linter.all false
set_option maxRecDepth 100000
set_option maxHeartbeats 1000000
/-! k41: told_right. -/
namespace K41
open PySem L2 Pu
abbrev gR : Pu.Ctx := g__law_told_right
abbrev rBody : List Stmt := match defBody s__law_told_right with | [_, _, .For _ _ b _ _, _] => b | _ => []
theorem isLen_ok {n : Nat} (μ : Sto) (h : n ≤ 1000) : isLen (.int n) μ = .ok (.int n) μ := by
  unfold isLen
  have h2 : 0 ≤ (n : Int) ∧ (n : Int) < 2 ^ 63 := ⟨by omega, by omega⟩
  simp only [h2, and_self, ↓reduceIte]
section
variable {μ : Sto} {t : T}
/-- one set of names -/
theorem r_one {s : List Str} {a c d : D} {x y : Option D} (g : Good t) (hs : s ∈ subs) : (den 39).s gR rBody [some (fob t), some t.d, some c, some d, some (names s), y] μ = .ok (.next [some (fob t), some t.d, some c, some d, some (names s), some (.bl (so t s))]) μ := by
  refine (s_next (st_asg (d := .bl (so t s)) (μ1 := μ) rfl (call_ok (d__law_so 10) (ds := [t.d, names s]) (by decide +kernel) rfl rfl ⟨rfl, rfl, rfl, rfl⟩ rfl rfl (law_so_ok s μ t 10 (dep10 g))) rfl)).trans ?_
  refine (s_next (st_if (q := false) (μ1 := μ) ?_ rfl)).trans s_nil
  have two : ∀ b : Bool, reprD [.lst [.bl b, .bl b]] μ = .ok (.str (PyData.list [.bool b, .bool b]).shown) μ := fun b => repr_ok rfl (by cases b <;> decide) (by cases b <;> decide) (by cases b <;> decide)
  refine t_cmp (x := .str (PyData.list [.bool (so t s), .bool (so t s)]).shown) (y := .str (PyData.list [.bool (so t s), .bool (so t s)]).shown) (μ1 := μ) (μ2 := μ) rfl ?_ ?_ ?_
  · refine bind_ok (b := [.lst [.bl (so t s), .bl (so t s)]]) (μ' := μ) (a_cons (lst_ok (ds := [.bl (so t s), .bl (so t s)]) rfl (by decide) (a_cons (μ1 := μ) ?_ (a_cons (μ1 := μ) ?_ a_nil)) (show 2 ≤ sizeLine by decide)) a_nil) (two _)
    · exact meth_ok (C := "Formula") (fs := fs t) (d := fob t) (ds := [names s]) (μ1 := μ) (μ2 := μ) (F := d_Formula_holds) ⟨by decide +kernel, rfl, rfl, rfl, rfl, by decide⟩ rfl rfl rfl rfl rfl rfl (holds_ok μ g hs)
    · exact callV_ok (C := "Formula") (fs := fs t) (ds := [names s]) (μ1 := μ) (μ2 := μ) (F := d_Formula___call__) ⟨⟨rfl, by decide +kernel⟩, rfl, by simp, rfl⟩ rfl rfl rfl rfl (call_f μ g hs)
  · exact bind_ok (b := [.lst [.bl (so t s), .bl (so t s)]]) (μ' := μ) (a_cons (lst_ok (ds := [.bl (so t s), .bl (so t s)]) rfl (by decide) rfl (show 2 ≤ sizeLine by decide)) a_nil) (two _)
  · show R.ok (D.bl (!decide (_ = _))) μ = _
    rw [decide_eq_true rfl]
    rfl
theorem r_loop {c d : D} (g : Good t) (tg : Expr) (htg : ∀ z x y, gD gR tg z [some (fob t), some t.d, some c, some d, x, y] = some [some (fob t), some t.d, some c, some d, some z, y]) : ∀ (ds : List D) (x y : Option D), (∀ z ∈ ds, isSub z = true) → ∃ x' y', loopD gR tg ((den 39).s gR rBody) ds [some (fob t), some t.d, some c, some d, x, y] μ = .ok (.next [some (fob t), some t.d, some c, some d, x', y']) μ
  | [], x, y, _ => ⟨x, y, rfl⟩
  | z :: r, x, y, h => by
    obtain ⟨s, hs, rfl⟩ := isSub_of (h z List.mem_cons_self)
    obtain ⟨x', y', e⟩ := r_loop g tg htg r (some (names s)) (some (.bl (so t s))) fun z hz => h z (List.mem_cons_of_mem _ hz)
    exact ⟨x', y', loop_cons (htg _ x y) (r_one (a := c) (x := x) g hs) e⟩
end
theorem told_ok {t : T} (μ : Sto) (g : Good t) {ws : List Str} (hw : ws ∈ subs) : ∃ l, d__law_told_right [fob t, t.d, names ws] μ = .ok (.bl true) (μ ++ l) := by
  obtain ⟨l, hl⟩ := ltext_ok t 10 (dep10 g) g μ
  refine ⟨l, ?_⟩
  have g' := dep10 g
  refine (end_next (ρ' := [some (fob t), some t.d, some (names ws), some (tell t), none, none]) (μ1 := μ) (st_asg (d := tell t) rfl (lst_ok (ds := [t.d, names t.ws, .int t.cnt, .str t.tx]) rfl (by decide) (a_cons (μ1 := μ) rfl (a_cons (μ1 := μ) rfl (a_cons (μ1 := μ) ?_ (a_cons (μ1 := μ) ?_ a_nil)))) (show 4 ≤ sizeLine by decide)) rfl)).trans ?_
  · refine bind_ok (b := [fob t]) (μ' := μ) rfl ?_
    show (do let n ← noX (d_Formula___len__ [fob t]); isLen n) μ = _
    exact bind_ok (noX_ok (len_f μ g)) (isLen_ok μ (by have := g.cnt; omega))
  · refine bind_ok (b := [fob t]) (μ' := μ) rfl ?_
    show (do let n ← noX (d_Formula___str__ [fob t]); isTxt n) μ = _
    exact bind_ok (noX_ok (str_f μ g)) rfl
  refine (end_if0 (μ1 := μ ++ l) (ρ' := [some (fob t), some t.d, some (names ws), some (tell t), none, none]) (μ2 := μ ++ l) ?_ rfl).trans ?_
  · refine t_cmp (x := .str (tellP t).shown) (y := .str (tellP t).shown) (μ1 := μ) (μ2 := μ ++ l) rfl ?_ ?_ ?_
    · exact bind_ok (b := [tell t]) (μ' := μ) rfl (repr_tell μ g)
    · refine bind_ok (b := [tell t]) (μ' := μ ++ l) (a_cons (lst_ok (ds := [t.d, names t.ws, .int t.cnt, .str t.tx]) rfl (by decide) (a_cons (μ1 := μ) rfl (a_cons (μ1 := μ) ?_ (a_cons (μ1 := μ) ?_ (a_cons (μ1 := μ ++ l) ?_ a_nil)))) (show 4 ≤ sizeLine by decide)) a_nil) (repr_tell _ g)
      · exact call_ok (d__law_words_in 10) (ds := [t.d]) (by decide +kernel) rfl rfl ⟨rfl, rfl, rfl, rfl⟩ rfl rfl (words_ok μ t 10 g' g)
      · exact call_ok (d__law_count 10) (ds := [t.d]) (by decide +kernel) rfl rfl ⟨rfl, rfl, rfl, rfl⟩ rfl rfl (count_ok μ t 10 g')
      · exact call_ok (d__law_tree_text 10) (ds := [t.d]) (by decide +kernel) rfl rfl ⟨rfl, rfl, rfl, rfl⟩ rfl rfl hl
    · show R.ok (D.bl (!decide (_ = _))) (μ ++ l) = _
      rw [decide_eq_true rfl]
      rfl
  obtain ⟨x, y, e⟩ := r_loop (μ := μ ++ l) (c := names ws) (d := tell t) g (match defBody s__law_told_right with | [_, _, .For tg _ _ _ _, _] => tg | _ => .Constant .none 0 ⟨0, 0, 0, 0⟩) (fun _ _ _ => rfl) (setsR ws) none none (List.all_eq_true.mp (sets_sub ws hw))
  refine (end_next (st_for (ds := setsR ws) (μ1 := μ ++ l) ⟨rfl, rfl⟩ ?_ e)).trans rfl
  exact bind_ok (b := .lst (setsR ws)) (μ' := μ ++ l) (call_ok d__law_sets_of (ds := [names ws]) (by decide +kernel) rfl rfl ⟨rfl, rfl, rfl, rfl⟩ rfl rfl (sets_ok _ ws hw)) rfl
end K41

set_option Elab.async false
set_option linter.all false
set_option maxRecDepth 100000
set_option maxHeartbeats 1000000
/-! the pot, and what is drawn from it (printed by potgen.py). -/
namespace K41
open PySem L2 Pu
theorem bit {μ : Sto} {c : Nat} {n m : Int} (hp : PotAt μ c n) (hn : n ≤ 1000000) (h0 : 0 < m) (h1 : m < 2 ^ 70) : Run (d__law_bit [.cell c, .int m] μ) fun d μ' => ∃ r o, d = .int r ∧ 0 ≤ r ∧ r < m ∧ μ' = μ.set c o ∧ PotAt μ' c (n + 1) := by
  obtain ⟨a, b, k, hc, k0, k1⟩ := hp
  refine run_def ?_
  show Run (sD (den 39) g__law_bit (defBody s__law_bit) [some (.cell c), some (.int m), none, none, none] μ) _
  refine rs_if (run_ok (a := decide (a > 0)) (μ := μ) ?_ ⟨fun z => ?_, fun z => ?_⟩)
  · exact bind_ok (b := D.bl (decide (a > 0))) (μ' := μ) (bind_ok (b := D.int a) (μ' := μ) (bind_ok (b := D.cell c) (μ' := μ) rfl (bind_ok (b := D.int 0) (μ' := μ) rfl (ix_cell hc rfl))) (bind_ok (b := D.int 0) (μ' := μ) rfl rfl)) rfl
  · refine rs_set (X := (den 38).e g__law_bit _ _) rfl (run_ok (a := .int (a % m)) (μ := μ) (bind_ok (b := D.int a) (μ' := μ) (bind_ok (b := [D.int a]) (μ' := μ) (bind_ok (b := D.int a) (μ' := μ) (bind_ok (b := D.cell c) (μ' := μ) rfl (bind_ok (b := D.int 0) (μ' := μ) rfl (ix_cell hc rfl))) rfl) rfl) (bind_ok (b := D.int m) (μ' := μ) rfl (mod_ok h0))) ⟨_, rfl, ?_⟩)
    refine rs_sub ⟨rfl, rfl⟩ (run_ok (bind_ok (b := D.int (a / m)) (μ' := μ) (bind_ok (b := D.int a) (μ' := μ) (bind_ok (b := D.cell c) (μ' := μ) rfl (bind_ok (b := D.int 0) (μ' := μ) rfl (ix_cell hc rfl))) (bind_ok (b := D.int m) (μ' := μ) rfl (div_ok h0 h1))) (bind_ok (b := D.cell c) (μ' := μ) rfl (bind_ok (b := D.int 0) (μ' := μ) rfl (set_cell hc (i := 0) rfl)))) ?_)
    exact rs_ret (run_ok (a := .int (a % m)) rfl ⟨_, _, rfl, Int.emod_nonneg _ (by omega), Int.emod_lt_of_pos _ h0, rfl, ⟨_, _, _, at_set hc, k0, by omega⟩⟩)
  · show Run (sD (den 39) g__law_bit ((defBody s__law_bit).drop 1) [some (.cell c), some (.int m), none, none, none] μ) _
    refine rs_sub ⟨rfl, rfl⟩ (run_ok (a := ()) (μ := μ.set c (.lst [.int a, .int b, .int (k + 1)])) (bind_ok (b := D.int (k + 1)) (μ' := μ) (bind_ok (b := D.int k) (μ' := μ) (bind_ok (b := D.cell c) (μ' := μ) rfl (bind_ok (b := D.int 2) (μ' := μ) rfl (ix_cell hc rfl))) (bind_ok (b := D.int 1) (μ' := μ) rfl rfl)) (bind_ok (b := D.cell c) (μ' := μ) rfl (bind_ok (b := D.int 2) (μ' := μ) rfl (set_cell hc (i := 2) rfl)))) ?_)
    have hc2 : (μ.set c (.lst [.int a, .int b, .int (k + 1)]))[c]? = some (.lst [.int a, .int b, .int (k + 1)]) := at_set hc
    obtain ⟨o, hl⟩ : ∃ o, (μ.set c (.lst [.int a, .int b, .int (k + 1)])) = μ.set c o := ⟨_, rfl⟩
    generalize (μ.set c (.lst [.int a, .int b, .int (k + 1)])) = μ1 at hc2 hl
    show Run (sD (den 39) g__law_bit ((defBody s__law_bit).drop 2) [some (.cell c), some (.int m), none, none, none] μ1) _
    refine rs_set (X := (den 39).e g__law_bit _ _) rfl (run_ok (a := .int ((b + 1000453 * (k + 1)) % 2305843009213693951)) (μ := μ1) (bind_ok (b := D.int (b + 1000453 * (k + 1))) (μ' := μ1) (bind_ok (b := [D.int (b + 1000453 * (k + 1))]) (μ' := μ1) (bind_ok (b := D.int (b + 1000453 * (k + 1))) (μ' := μ1)
      (bind_ok (b := D.int b) (μ' := μ1) (bind_ok (b := D.cell c) (μ' := μ1) rfl (bind_ok (b := D.int 1) (μ' := μ1) rfl (ix_cell hc2 rfl))) (bind_ok (b := D.int (1000453 * (k + 1))) (μ' := μ1) (bind_ok (b := D.int 1000453) (μ' := μ1) rfl (bind_ok (b := D.int (k + 1)) (μ' := μ1) (bind_ok (b := D.cell c) (μ' := μ1) rfl (bind_ok (b := D.int 2) (μ' := μ1) rfl (ix_cell hc2 rfl))) (mul_ok (by decide) (by decide) (by omega) (by omega)))) rfl)) rfl) rfl) (bind_ok (b := D.int 2305843009213693951) (μ' := μ1) rfl (mod_ok (by decide)))) ⟨_, rfl, ?_⟩)
    have f0 : 0 ≤ (b + 1000453 * (k + 1)) % 2305843009213693951 := Int.emod_nonneg _ (by decide)
    have f1 : (b + 1000453 * (k + 1)) % 2305843009213693951 < 2305843009213693951 := Int.emod_lt_of_pos _ (by decide)
    generalize (b + 1000453 * (k + 1)) % 2305843009213693951 = f at f0 f1
    have g0 : 0 ≤ f * f % 2305843009213693921 := Int.emod_nonneg _ (by decide)
    have g1 : f * f % 2305843009213693921 < 2305843009213693921 := Int.emod_lt_of_pos _ (by decide)
    refine rs_set (X := (den 39).e g__law_bit _ _) rfl (run_ok (a := .int (f * f % 2305843009213693921 * f + 9103 * (k + 1))) (μ := μ1) (bind_ok (b := D.int (f * f % 2305843009213693921 * f)) (μ' := μ1)
      (bind_ok (b := D.int (f * f % 2305843009213693921)) (μ' := μ1) (bind_ok (b := D.int (f * f)) (μ' := μ1) (bind_ok (b := [D.int (f * f)]) (μ' := μ1) (bind_ok (b := D.int (f * f)) (μ' := μ1) (bind_ok (b := D.int f) (μ' := μ1) rfl (bind_ok (b := D.int f) (μ' := μ1) rfl (mul_ok f0 (by omega) f0 (by omega)))) rfl) rfl) (bind_ok (b := D.int 2305843009213693921) (μ' := μ1) rfl (mod_ok (by decide)))) (bind_ok (b := D.int f) (μ' := μ1) rfl (mul_ok g0 (by omega) f0 (by omega))))
      (bind_ok (b := D.int (9103 * (k + 1))) (μ' := μ1) (bind_ok (b := D.int 9103) (μ' := μ1) rfl (bind_ok (b := D.int (k + 1)) (μ' := μ1) (bind_ok (b := D.cell c) (μ' := μ1) rfl (bind_ok (b := D.int 2) (μ' := μ1) rfl (ix_cell hc2 rfl))) (mul_ok (by decide) (by decide) (by omega) (by omega)))) rfl)) ⟨_, rfl, ?_⟩)
    generalize f * f % 2305843009213693921 * f + 9103 * (k + 1) = l
    refine rs_ret (run_ok (a := .int (l % 2305843009213693907 / 16384 % m)) (μ := μ1) ?_ ⟨_, o, rfl, Int.emod_nonneg _ (by omega), Int.emod_lt_of_pos _ h0, hl, ⟨_, _, _, hc2, by omega, by omega⟩⟩)
    exact bind_ok (b := D.int (l % 2305843009213693907 / 16384)) (μ' := μ1) (bind_ok (b := [D.int (l % 2305843009213693907 / 16384)]) (μ' := μ1) (bind_ok (b := D.int (l % 2305843009213693907 / 16384)) (μ' := μ1) (bind_ok (b := D.int (l % 2305843009213693907)) (μ' := μ1) (bind_ok (b := D.int l) (μ' := μ1) (bind_ok (b := [D.int l]) (μ' := μ1) rfl rfl) (bind_ok (b := D.int 2305843009213693907) (μ' := μ1) rfl (mod_ok (by decide)))) (bind_ok (b := D.int 16384) (μ' := μ1) rfl (div_ok (by decide) (by decide)))) rfl) rfl) (bind_ok (b := D.int m) (μ' := μ1) rfl (mod_ok h0))
theorem pot_made {ns : List Int} {i : Nat} {μ : Sto} (hi : i < 64) : Run (d__law_pot [.frz (ns.map D.int), .int i] μ) fun d μ' => d = .cell μ.length ∧ ∃ a b : Int, μ' = μ ++ [.lst [.int a, .int b, .int 0]] := by
  refine run_def ?_
  show Run (sD (den 39) g__law_pot (defBody s__law_pot) [some (.frz (ns.map D.int)), some (.int i), none, none, none] μ) _
  refine rs_asg ⟨rfl, rfl⟩ (Run.mono (Q := fun d μ1 => ∃ v : Int, d = .int v ∧ μ = μ1) ?_ ?_)
  · refine if_val (k := decide ((i : Int) < (ns.map D.int).length)) (bind_ok (b := D.bl (decide ((i : Int) < (ns.map D.int).length))) (μ' := μ) (bind_ok (b := D.int i) (μ' := μ) rfl (bind_ok (b := D.int (ns.map D.int).length) (μ' := μ) rfl rfl)) rfl) (fun z => ?_) (fun z => ?_)
    · have z' : i < ns.length := by
        have := of_decide_eq_true z
        rw [List.length_map] at this
        omega
      exact run_ok (bind_ok (b := D.frz (ns.map D.int)) (μ' := μ) rfl (bind_ok (b := D.int i) (μ' := μ) rfl (ix_ints z'))) ⟨_, rfl, rfl⟩
    · exact run_ok (bind_ok (b := D.int (67 * i)) (μ' := μ) (bind_ok (b := D.int 67) (μ' := μ) rfl (bind_ok (b := D.int i) (μ' := μ) rfl (mul_ok (by decide) (by decide) (by omega) (by omega)))) (bind_ok (b := D.int 37) (μ' := μ) rfl rfl)) ⟨_, rfl, rfl⟩
  · rintro d _ ⟨v, rfl, rfl⟩
    refine ⟨_, rfl, ?_⟩
    show Run (sD (den 39) g__law_pot ((defBody s__law_pot).drop 1) [some (.frz (ns.map D.int)), some (.int i), some (.int v), none, none] μ) _
    refine rs_asg ⟨rfl, rfl⟩ ?_
    refine run_ok (a := .int ((if v < 0 then -v else v) % gr)) (μ := μ) (bind_ok (b := D.int (if v < 0 then -v else v)) (μ' := μ) (bind_ok (b := [D.int (if v < 0 then -v else v)]) (μ' := μ) rfl rfl) (bind_ok (b := D.int gr) (μ' := μ) rfl (mod_ok gr_pos))) ⟨_, rfl, ?_⟩
    generalize (if v < 0 then -v else v) % gr = g
    have m0 : 0 ≤ g % 2147483249 := Int.emod_nonneg _ (by decide)
    have m1 : g % 2147483249 < 2147483249 := Int.emod_lt_of_pos _ (by decide)
    have hn : (0 : Int) ≤ (if (decide (v < 0)) = true then 1 else 0) ∧ (if (decide (v < 0)) = true then (1 : Int) else 0) < 2 := by split <;> decide
    refine rs_asg ⟨rfl, rfl⟩ (run_ok (a := .int (g % 2147483249 * 96293 + 9413 * i + 47 * (if (decide (v < 0)) = true then 1 else 0) + 73)) (μ := μ) ?_ ⟨_, rfl, ?_⟩)
    · refine bind_ok (b := D.int (g % 2147483249 * 96293 + 9413 * i + 47 * (if (decide (v < 0)) = true then 1 else 0))) (μ' := μ) (bind_ok (b := D.int (g % 2147483249 * 96293 + 9413 * i)) (μ' := μ) (bind_ok (b := D.int (g % 2147483249 * 96293)) (μ' := μ) (bind_ok (b := D.int (g % 2147483249)) (μ' := μ) (bind_ok (b := D.int g) (μ' := μ) (bind_ok (b := [D.int g]) (μ' := μ) rfl rfl) (bind_ok (b := D.int 2147483249) (μ' := μ) rfl (mod_ok (by decide)))) (bind_ok (b := D.int 96293) (μ' := μ) rfl (mul_ok m0 (by omega) (by decide) (by decide))))
        (bind_ok (b := D.int (9413 * i)) (μ' := μ) (bind_ok (b := D.int 9413) (μ' := μ) rfl (bind_ok (b := D.int i) (μ' := μ) rfl (mul_ok (by decide) (by decide) (by omega) (by omega)))) rfl))
        (bind_ok (b := D.int (47 * (if (decide (v < 0)) = true then 1 else 0))) (μ' := μ) (bind_ok (b := D.int 47) (μ' := μ) rfl (bind_ok (b := D.int (if (decide (v < 0)) = true then 1 else 0)) (μ' := μ) (bind_ok (b := [D.bl (decide (v < 0))]) (μ' := μ) rfl rfl) (mul_ok (by decide) (by decide) hn.1 (by omega)))) rfl)) (bind_ok (b := D.int 73) (μ' := μ) rfl rfl)
    · generalize g % 2147483249 * 96293 + 9413 * i + 47 * (if (decide (v < 0)) = true then 1 else 0) + 73 = bl
      refine rs_ret (run_ok (a := .cell μ.length) (μ := μ ++ [.lst [.int (if g - 10 ^ 18 > 0 then g - 10 ^ 18 else 0), .int (bl % 2305843009213693907), .int 0]]) ?_ ⟨rfl, _, _, rfl⟩)
      refine bind_ok (b := [D.int (if g - 10 ^ 18 > 0 then g - 10 ^ 18 else 0), .int (bl % 2305843009213693907), .int 0]) (μ' := μ) (bind_ok (b := D.int (if g - 10 ^ 18 > 0 then g - 10 ^ 18 else 0)) (μ' := μ) (bind_ok (b := [D.int 0, .int (g - 10 ^ 18)]) (μ' := μ) rfl rfl) (bind_ok (b := [D.int (bl % 2305843009213693907), .int 0]) (μ' := μ) (bind_ok (b := D.int (bl % 2305843009213693907)) (μ' := μ) (bind_ok (b := D.int bl) (μ' := μ) (bind_ok (b := [D.int bl]) (μ' := μ) rfl rfl) (bind_ok (b := D.int 2305843009213693907) (μ' := μ) rfl (mod_ok (by decide)))) rfl) rfl)) rfl
theorem pick {μ : Sto} {c : Nat} {n : Int} {s : D} {xs : List D} (hs : s = .lst xs ∨ s = .tup xs) (hp : PotAt μ c n) (hn : n ≤ 1000000) (h0 : xs ≠ []) (h1 : xs.length < 1000) : Run (d__law_pick [.cell c, s] μ) fun d μ' => d ∈ xs ∧ PotAt μ' c (n + 1) ∧ ∃ o, μ' = μ.set c o := by
  have hl : 0 < xs.length := List.length_pos_iff.mpr h0
  refine run_def ?_
  show Run (sD (den 39) g__law_pick (defBody s__law_pick) [some (.cell c), some s] μ) _
  refine rs_ret ?_
  refine run_bind (run_ok (a := s) (μ := μ) rfl (run_bind ?_))
  refine run_call d__law_bit (ds := [.cell c, .int xs.length]) (by decide +kernel) rfl rfl ⟨rfl, rfl, rfl, rfl⟩ (by rcases hs with rfl | rfl <;> rfl) rfl ((bit hp hn (by omega) (by omega)).mono ?_)
  rintro d μ1 ⟨r, o, rfl, r0, r1, hl1, hp1⟩
  obtain ⟨d, hd, e⟩ := at_int r0 r1
  refine run_ok (a := d) (μ := μ1) ?_ ⟨hd, hp1, o, hl1⟩
  rcases hs with rfl | rfl
  · show (match (some xs).bind (fun xs => L2.atI xs r) with | some d => R.ok d μ1 | none => R.stuck) = _
    rw [Option.bind_some, e]
  · show (match (some xs).bind (fun xs => L2.atI xs r) with | some d => R.ok d μ1 | none => R.stuck) = _
    rw [Option.bind_some, e]
theorem perm_erase {l : List D} {j : Nat} {z : D} (h : l[j]? = some z) : (z :: l.eraseIdx j).Perm l := by
  induction l generalizing j with
  | nil => cases h
  | cons x r ih =>
    cases j with
    | zero => cases h; exact List.Perm.refl _
    | succ j => exact (List.Perm.swap ..).trans (List.Perm.cons _ (ih h))
theorem dealt {μ : Sto} {c : Nat} {n : Int} {s : D} {xs : List D} (hs : s = .lst xs ∨ s = .tup xs) (hp : PotAt μ c n) (hn : n ≤ 900000) (h1 : xs.length < 1000) : Run (d__law_dealt [.cell c, s] μ) fun d μ' => ∃ L, d = .lst L ∧ L.Perm xs ∧ PotAt μ' c (n + xs.length) ∧ ∃ o l, μ' = μ.set c o ++ l := by
  have hc := hp.lt
  refine run_def ?_
  show Run (sD (den 39) g__law_dealt (defBody s__law_dealt) [some (.cell c), some s, none, none] μ) _
  refine rs_asg ⟨rfl, rfl⟩ (run_ok (a := .cell μ.length) (μ := μ ++ [.lst xs]) (by rcases hs with rfl | rfl <;> rfl) ⟨_, rfl, ?_⟩)
  show Run (sD (den 39) g__law_dealt ((defBody s__law_dealt).drop 1) [some (.cell c), some s, some (.cell μ.length), none] (μ ++ [.lst xs])) _
  refine rs_ret ?_
  have hi : ∀ ν, iD (den 38) g__law_dealt (match defBody s__law_dealt with | [_, .Return (some (.ListComp _ [⟨t, _, _, _⟩] _ _)) _] => t | _ => .Constant .none 0 ⟨0, 0, 0, 0⟩) (match defBody s__law_dealt with | [_, .Return (some (.ListComp _ [⟨_, i, _, _⟩] _ _)) _] => i | _ => .Constant .none 0 ⟨0, 0, 0, 0⟩) [some (.cell c), some s, some (.cell μ.length), none] ν = .ok (rangeL 0 xs.length) ν := by
    intro ν
    exact i_rng ⟨rfl, rfl, rfl⟩ (by rcases hs with rfl | rfl <;> rfl) (by omega)
  refine run_bind (run_ok (hi _) (run_bind (run_noX (run_comp (I := fun j acc μ' => ∃ rest o, acc.length = j ∧ (acc ++ rest).Perm xs ∧ μ' = μ.set c o ++ [.lst rest] ∧ PotAt μ' c (n + j)) _ 0 [] _ ⟨xs, μ[c], rfl, List.Perm.refl _, by rw [List.set_getElem_self], by rw [Int.ofNat_zero, Int.add_zero]; exact hp.app⟩ ?_ ?_ ?_))))
  · rw [List.length_nil, Nat.zero_add, range_len]
    exact Nat.le_trans (Nat.le_of_lt h1) (by decide)
  · rintro j d acc ν hj ⟨rest, o, e1, e2, e3, e4⟩
    rw [Nat.zero_add] at e1 e4 ⊢
    have hj' : j < xs.length := by
      have := (List.getElem?_eq_some_iff.mp hj).1
      rwa [range_len] at this
    have hr : rest.length = xs.length - j := by
      have := e2.length_eq
      rw [List.length_append] at this
      omega
    have hw : ν[μ.length]? = some (.lst rest) := by
      rw [e3, List.getElem?_append_right (by rw [List.length_set]; exact Nat.le_refl _), List.length_set, Nat.sub_self]
      rfl
    have hne : μ.length ≠ c := by omega
    refine run_bind (run_ok (a := true) (μ := ν) rfl (run_bind ?_))
    refine run_pop (c := μ.length) (xs0 := rest) ⟨rfl, rfl, rfl, rfl⟩ rfl hw ?_
    refine run_call d__law_bit (ds := [.cell c, .int rest.length]) (μ1 := ν) (by decide +kernel) rfl rfl ⟨rfl, rfl, rfl, rfl⟩ ?_ rfl ((bit e4 (by omega) (by omega) (by omega)).mono fun d ν1 h => ?_)
    · exact a_cons (μ1 := ν) rfl (a_cons (bind_ok (b := [D.cell μ.length]) (μ' := ν) rfl (len_cell hw)) a_nil)
    · obtain ⟨r, o2, rfl, r0, r1, hl1, hp1⟩ := h
      obtain ⟨k, rfl⟩ := Int.eq_ofNat_of_zero_le r0
      have hk : k < rest.length := by omega
      refine ⟨rest, k, rest[k], rfl, ?_, List.getElem?_eq_getElem hk, by omega, rest.eraseIdx k, o2, ?_, ?_, ?_, ?_⟩
      · rw [hl1, List.getElem?_set_ne (fun z => hne z.symm), hw]
      · rw [List.length_append, e1]
        rfl
      · refine List.Perm.trans ?_ e2
        rw [List.append_assoc]
        exact List.Perm.append_left _ (perm_erase (List.getElem?_eq_getElem hk))
      · rw [hl1, e3, List.set_append_left _ _ (by rw [List.length_set]; exact hc), List.set_set, List.set_append_right _ _ (by rw [List.length_set]; exact Nat.le_refl _), List.length_set, Nat.sub_self]
        rfl
      · have := hp1.other (i := μ.length) (o := .lst (rest.eraseIdx k)) hne
        refine this.le ?_
        omega
  · rintro acc ν ⟨rest, o, e1, e2, e3, e4⟩
    rw [Nat.zero_add, range_len] at e1 e4
    have hr : rest = [] := by
      have := e2.length_eq
      rw [List.length_append] at this
      exact List.length_eq_zero_iff.mp (by omega)
    subst hr
    rw [List.append_nil] at e2
    exact ⟨acc, rfl, e2, e4, o, _, e3⟩
end K41

set_option Elab.async false
set_option linter.all false
set_option maxRecDepth 100000
set_option maxHeartbeats 1000000
/-! k41: drawn trees. -/
namespace K41
open PySem L2 Pu
theorem set_two {μ : Sto} {c : Nat} {a b : MO} : (μ.set c a).set c b = μ.set c b := List.set_set ..
def TreeQ (ws : List Str) (c m : Nat) (N : Int) (μ : Sto) (d : D) (μ' : Sto) : Prop := ∃ t : T, d = t.d ∧ (∀ w ∈ t.nl, w ∈ ws) ∧ t.dep ≤ m ∧ PotAt μ' c (N + 2 ^ (m + 1) - 2) ∧ ∃ o, μ' = μ.set c o
theorem pow_ge (m : Nat) : (4 : Int) ≤ 2 ^ (m + 1 + 1) := by
  have h1 := Nat.one_le_two_pow (n := m)
  have : (4 : Nat) ≤ 2 ^ (m + 1 + 1) := by rw [Nat.pow_succ, Nat.pow_succ]; omega
  exact_mod_cast this
theorem tree_run {ws : List Str} {c : Nat} (h0 : ws ≠ []) (h1 : ws.length < 1000) : ∀ (m n : Nat) (μ : Sto) (N : Int), m + 1 ≤ n → m ≤ 5 → PotAt μ c N → N + 2 ^ (m + 1 + 1) ≤ 100000 → Run (d__law_tree n [.cell c, names ws, .int (m + 1 : Nat)] μ) (TreeQ ws c (m + 1) N μ)
  | m, 0, μ, N, hn, _, _, _ => by omega
  | m, n + 1, μ, N, hn, hm, hp, hN => by
    have hpw : (2 : Int) ^ (m + 1 + 1) ≤ 2 ^ 8 := by
      have : (2 : Nat) ^ (m + 1 + 1) ≤ 2 ^ 8 := Nat.pow_le_pow_right (by decide) (by omega)
      exact_mod_cast this
    have hp4 := pow_ge m
    refine run_def ?_
    show Run (sD (den 39) (g__law_tree n (d__law_tree n)) (defBody s__law_tree) [some (.cell c), some (names ws), some (.int (m + 1 : Nat)), none] μ) _
    refine rs_asg ⟨rfl, rfl⟩ (run_call d__law_bit (ds := [.cell c, .int 8]) (μ1 := μ) (by decide +kernel) rfl rfl ⟨rfl, rfl, rfl, rfl⟩ rfl rfl ((bit hp (by omega) (by decide) (by decide)).mono ?_))
    rintro d μ1 ⟨r, o, rfl, r0, r1, e1, hp1⟩
    refine ⟨_, rfl, ?_⟩
    show Run (sD (den 39) (g__law_tree n (d__law_tree n)) ((defBody s__law_tree).drop 1) [some (.cell c), some (names ws), some (.int (m + 1 : Nat)), some (.int r)] μ1) _
    have ht : (den 39).t (g__law_tree n (d__law_tree n)) (match defBody s__law_tree with | [_, .If c _ _ _, _, _] => c | _ => .Constant .none 0 ⟨0, 0, 0, 0⟩) [some (.cell c), some (names ws), some (.int (m + 1 : Nat)), some (.int r)] μ1 = .ok (decide (m = 0) || decide (r < 2)) μ1 := by
      by_cases hz : m = 0
      · subst hz
        exact t_or1 (t_cmp (x := .int 1) (y := .int 2) (μ1 := μ1) (μ2 := μ1) rfl rfl rfl rfl)
      · rw [decide_eq_false hz, Bool.false_or]
        refine t_or0 (t_cmp (x := .int (m + 1 : Nat)) (y := .int 2) (μ1 := μ1) (μ2 := μ1) rfl rfl rfl ?_) (t_one (t_cmp (x := .int r) (y := .int 2) (μ1 := μ1) (μ2 := μ1) rfl rfl rfl rfl))
        show R.ok (D.bl (decide (((m + 1 : Nat) : Int) < 2))) μ1 = _
        rw [decide_eq_false (by omega)]
    obtain ⟨w0, wr, rfl⟩ : ∃ w0 wr, ws = w0 :: wr := by
      cases ws with
      | nil => exact absurd rfl h0
      | cons a b => exact ⟨a, b, rfl⟩
    refine rs_if (run_ok ht ⟨fun z => ?_, fun z => ?_⟩)
    · refine rs_ret (run_ife (q := decide (r > 0)) (μ1 := μ1) (t_cmp (x := .int r) (y := .int 0) (μ1 := μ1) (μ2 := μ1) rfl rfl rfl rfl) (fun _ => ?_) (fun _ => ?_))
      · refine run_tup rfl (run_a_cons (run_ok (a := .str "name") (μ := μ1) rfl (run_a_cons ?_)))
        refine run_call d__law_pick (ds := [.cell c, names (w0 :: wr)]) (μ1 := μ1) (by decide +kernel) rfl rfl ⟨rfl, rfl, rfl, rfl⟩ rfl rfl ((pick (.inr rfl) hp1 (by omega) (by simp) (by rw [List.length_map]; exact h1)).mono ?_)
        rintro d μ2 ⟨hd, hp2, o2, e2⟩
        obtain ⟨w, hw, rfl⟩ := List.mem_map.mp hd
        refine run_a_nil ⟨by simp, .nm w, rfl, fun x hx => ?_, by simp [T.dep], hp2.le (by omega), o2, ?_⟩
        · rw [List.mem_singleton.mp hx]
          exact hw
        · rw [e2, e1, set_two]
      · refine run_call d__law_pick (ds := [.cell c, .lst [T.al.d, T.no.d, (T.nm w0).d]]) (μ1 := μ1) (by decide +kernel) rfl rfl ⟨rfl, rfl, rfl, rfl⟩ ?_ rfl ((pick (.inl rfl) hp1 (by omega) (by simp) (by simp)).mono ?_)
        · refine a_cons (μ1 := μ1) rfl (a_cons (μ1 := μ1) (lst_ok (ds := [T.al.d, T.no.d, (T.nm w0).d]) rfl (show (0 : Nat) ≠ 1 by decide) (a_cons (μ1 := μ1) rfl (a_cons (μ1 := μ1) rfl (a_cons (μ1 := μ1) (tup_ok (ds := [.str "name", .str w0]) rfl (a_cons (μ1 := μ1) rfl (a_cons (μ1 := μ1) ?_ a_nil)) (show 2 ≤ sizeLine by decide)) a_nil))) (show 3 ≤ sizeLine by decide)) a_nil)
          refine bind_ok (b := names (w0 :: wr)) (μ' := μ1) rfl (bind_ok (b := D.int 0) (μ' := μ1) rfl ?_)
          show (match (some ((w0 :: wr).map D.str)).bind (fun xs => L2.atI xs ((0 : Nat) : Int)) with | some d => R.ok d μ1 | none => R.stuck) = _
          rw [Option.bind_some, L2.atI_nat (v := D.str w0) rfl]
        · rintro d μ2 ⟨hd, hp2, o2, e2⟩
          simp only [List.mem_cons, List.not_mem_nil, or_false] at hd
          rcases hd with rfl | rfl | rfl
          · exact ⟨.al, rfl, (fun x hx => nomatch hx), by simp [T.dep], hp2.le (by omega), o2, by rw [e2, e1, set_two]⟩
          · exact ⟨.no, rfl, (fun x hx => nomatch hx), by simp [T.dep], hp2.le (by omega), o2, by rw [e2, e1, set_two]⟩
          · exact ⟨.nm w0, rfl, (fun x hx => by rw [List.mem_singleton.mp hx]; exact List.mem_cons_self), by simp [T.dep], hp2.le (by omega), o2, by rw [e2, e1, set_two]⟩
    · rw [Bool.or_eq_false_iff, decide_eq_false_iff_not] at z
      obtain ⟨m', rfl⟩ : ∃ m', m = m' + 1 := ⟨m - 1, by omega⟩
      have hq4 := pow_ge m'
      have hpp : (2 : Int) ^ (m' + 1 + 1 + 1) = 2 * 2 ^ (m' + 1 + 1) := by rw [Int.pow_succ, Int.mul_comm]
      have sub1 : ∀ ν : Sto, binD .Sub (.int (m' + 1 + 1 : Nat)) (.int 1) ν = .ok (.int (m' + 1 : Nat)) ν := by
        intro ν
        show R.ok (D.int (((m' + 1 + 1 : Nat) : Int) - 1)) ν = _
        congr 2
        omega
      show Run (sD (den 39) (g__law_tree n (d__law_tree n)) ((defBody s__law_tree).drop 2) [some (.cell c), some (names (w0 :: wr)), some (.int (m' + 1 + 1 : Nat)), some (.int r)] μ1) _
      refine rs_if (run_ok (a := decide (r < 4)) (μ := μ1) (t_cmp (x := .int r) (y := .int 4) (μ1 := μ1) (μ2 := μ1) rfl rfl rfl rfl) ⟨fun z => ?_, fun z => ?_⟩)
      · refine rs_ret (run_tup rfl (run_a_cons (run_ok (a := .str "not") (μ := μ1) rfl (run_a_cons ?_))))
        refine run_call (d__law_tree n) (ds := [.cell c, names (w0 :: wr), .int (m' + 1 : Nat)]) (μ1 := μ1) (by decide +kernel) rfl rfl ⟨rfl, rfl, rfl, rfl⟩ (a_cons (μ1 := μ1) rfl (a_cons (μ1 := μ1) rfl (a_cons (μ1 := μ1) (bin_ok (x := .int (m' + 1 + 1 : Nat)) (y := .int 1) (μ1 := μ1) (μ2 := μ1) rfl rfl (sub1 _)) a_nil))) rfl ((tree_run h0 h1 m' n μ1 (N + 1) (by omega) (by omega) hp1 (by omega)).mono ?_)
        rintro d μ2 ⟨t, rfl, q1, q2, q3, o2, e2⟩
        exact run_a_nil ⟨by simp, .neg t, rfl, q1, by simp only [T.dep]; omega, q3.le (by omega), o2, by rw [e2, e1, set_two]⟩
      · show Run (sD (den 39) (g__law_tree n (d__law_tree n)) ((defBody s__law_tree).drop 3) [some (.cell c), some (names (w0 :: wr)), some (.int (m' + 1 + 1 : Nat)), some (.int r)] μ1) _
        refine rs_ret (run_tup rfl (run_a_cons (run_ok (a := .str (if r < 6 then "and" else "or")) (μ := μ1) ?_ (run_a_cons ?_))))
        · refine ife_ok (q := decide (r < 6)) (μ1 := μ1) (t_cmp (x := .int r) (y := .int 6) (μ1 := μ1) (μ2 := μ1) rfl rfl rfl rfl) ?_
          by_cases hr : r < 6
          · rw [decide_eq_true hr, if_pos hr]; rfl
          · rw [decide_eq_false hr, if_neg hr]; rfl
        · refine run_call (d__law_tree n) (ds := [.cell c, names (w0 :: wr), .int (m' + 1 : Nat)]) (μ1 := μ1) (by decide +kernel) rfl rfl ⟨rfl, rfl, rfl, rfl⟩ (a_cons (μ1 := μ1) rfl (a_cons (μ1 := μ1) rfl (a_cons (μ1 := μ1) (bin_ok (x := .int (m' + 1 + 1 : Nat)) (y := .int 1) (μ1 := μ1) (μ2 := μ1) rfl rfl (sub1 _)) a_nil))) rfl ((tree_run h0 h1 m' n μ1 (N + 1) (by omega) (by omega) hp1 (by omega)).mono ?_)
          rintro d μ2 ⟨a, rfl, q1, q2, q3, o2, e2⟩
          refine run_a_cons (run_call (d__law_tree n) (ds := [.cell c, names (w0 :: wr), .int (m' + 1 : Nat)]) (μ1 := μ2) (by decide +kernel) rfl rfl ⟨rfl, rfl, rfl, rfl⟩ (a_cons (μ1 := μ2) rfl (a_cons (μ1 := μ2) rfl (a_cons (μ1 := μ2) (bin_ok (x := .int (m' + 1 + 1 : Nat)) (y := .int 1) (μ1 := μ2) (μ2 := μ2) rfl rfl (sub1 _)) a_nil))) rfl ((tree_run h0 h1 m' n μ2 (N + 1 + 2 ^ (m' + 1 + 1) - 2) (by omega) (by omega) q3 (by omega)).mono ?_))
          rintro d μ3 ⟨b, rfl, p1, p2, p3, o3, e3⟩
          refine run_a_nil ⟨by simp, ?_⟩
          by_cases hr : r < 6
          · rw [if_pos hr]
            exact ⟨.an a b, rfl, fun w hw => (List.mem_append.mp hw).elim (q1 w) (p1 w), by simp only [T.dep]; omega, p3.le (by omega), o3, by rw [e3, e2, e1, set_two, set_two]⟩
          · rw [if_neg hr]
            exact ⟨.orr a b, rfl, fun w hw => (List.mem_append.mp hw).elim (q1 w) (p1 w), by simp only [T.dep]; omega, p3.le (by omega), o3, by rw [e3, e2, e1, set_two, set_two]⟩
end K41

set_option Elab.async false
set_option linter.all false
set_option maxRecDepth 100000
set_option maxHeartbeats 1000000
/-! k41: formulas compared. -/
namespace K41
open PySem L2 Pu
abbrev same (a b : T) : Bool := PyData.eqv a.py b.py
theorem same_comm (a b : T) : same a b = same b a := W.eqv_comm _ _
theorem same_refl {a : T} (g : Good a) : same a a = true := SeqAt.eqv_refl _ (lay_t a g.nl)
theorem eq_dd {a b : T} (μ : Sto) (ga : Good a) (gb : Good b) (neg : Bool) : eqD neg a.d b.d μ = .ok (.bl (if neg then !same a b else same a b)) μ := by
  unfold eqD
  rw [eq_t μ ga gb]
theorem asO_t (μ : Sto) (t : T) : asO μ t.d = none := by cases t <;> rfl
theorem eq_f {a b : T} (μ : Sto) (ga : Good a) (gb : Good b) : d_Formula___eq__ [fob a, fob b] μ = .ok (.bl (same a b)) μ := by
  refine end_ret.trans (bind_ok (b := D.bl true) (μ' := μ) rfl (bind_ok (b := true) (μ' := μ) rfl (bool_one.trans (e_cmp (x := a.d) (y := b.d) (μ1 := μ) (μ2 := μ) rfl rfl rfl ?_))))
  show eqO g_Formula___eq__ false a.d b.d μ = _
  unfold eqO
  rw [asO_t]
  exact eq_dd μ ga gb false
theorem eq_no {a : T} {v : D} (μ : Sto) (h1 : asO μ v = none) (h2 : (tyD μ v).isSome = true) : d_Formula___eq__ [fob a, v] μ = .ok (.bl false) μ := by
  refine end_ret.trans (bind_ok (b := D.bl false) (μ' := μ) (bind_ok (b := [v, .adr "Formula"]) (μ' := μ) rfl ?_) rfl)
  show isiO g_Formula___eq__ [v, .adr "Formula"] μ = _
  unfold isiO
  simp only [h1]
  rw [if_pos ⟨by decide +kernel, h2⟩]
/-- == and != of formulas -/
theorem cmp_f {a b : T} {G : Pu.Ctx} (μ : Sto) (ga : Good a) (gb : Good b) (neg : Bool) (hh : G.hot = false) (hd : G.dun "Formula" "__eq__" = some (1, d_Formula___eq__)) (hn : G.ne "Formula" = true) : eqG G neg (fob a) (fob b) μ = .ok (.bl (if neg then !same a b else same a b)) μ := by
  unfold eqG
  rw [if_pos hh]
  show (match G.dun "Formula" "__eq__" with
    | some (1, F) => if (neg = false ∨ G.ne "Formula" = true) ∧ eqAsk μ "Formula" (fob b) = true then (do let z ← noX (F [fob a, fob b]); notB neg z) μ else .stuck
    | _ => .stuck) = _
  rw [hd]
  simp only [hn]
  rw [if_pos ⟨.inr trivial, rfl⟩]
  exact bind_ok (noX_ok (eq_f μ ga gb)) rfl
theorem cmp_no {a : T} {v : D} {G : Pu.Ctx} (μ : Sto) (h1 : asO μ v = none) (h2 : (tyD μ v).isSome = true) (neg : Bool) (hh : G.hot = false) (hd : G.dun "Formula" "__eq__" = some (1, d_Formula___eq__)) (hn : G.ne "Formula" = true) : eqG G neg (fob a) v μ = .ok (.bl neg) μ := by
  unfold eqG
  rw [if_pos hh]
  show (match G.dun "Formula" "__eq__" with
    | some (1, F) => if (neg = false ∨ G.ne "Formula" = true) ∧ eqAsk μ "Formula" v = true then (do let z ← noX (F [fob a, v]); notB neg z) μ else .stuck
    | _ => .stuck) = _
  rw [hd]
  simp only [hn]
  rw [if_pos ⟨.inr trivial, by unfold eqAsk; simp only [h1]; exact h2⟩]
  refine bind_ok (noX_ok (eq_no μ h1 h2)) ?_
  cases neg <;> rfl
/-- Formula(tree) -/
theorem mk_f {k : Nat} {G : Pu.Ctx} {e : Expr} {p pos : Pos} {ρ : Sl} {μ μ1 : Sto} {t : T} (hc : (okName "Formula" = true ∧ noStar [e] = true ∧ glB G.sc "Formula" = true ∧ G.hot = false) ∧ ("Formula" : Str) ≠ "list") (hk : (G.hint pos == 3) = false) (hm : G.make "Formula" = some (1, d_Formula___init__)) (g : Good t) (h4 : t.ws.length ≤ 4) (h : (den k).e G e ρ μ = .ok t.d μ1) : (den (k + 1)).e G (.Call (.Name "Formula" p) [e] [] pos) ρ μ = .ok (fob t) (μ1 ++ [.dead]) :=
  make_ok hc hk hm (a_cons h a_nil) rfl (init_ok μ1 g h4)
/-- Formula.of(word) -/
theorem good_nm {w : Str} (hw : w ∈ five) : Good (.nm w) := ⟨fun x hx => by rw [List.mem_singleton.mp hx]; exact hw, by simp [T.dep]⟩
theorem of_f {w : Str} (μ : Sto) (hw : w ∈ five) : d_Formula_of [.adr "Formula", .str w] μ = .ok (fob (.nm w)) (μ ++ [.dead]) := by
  refine (end_if0 (μ1 := μ) (ρ' := [some (.adr "Formula"), some (.str w)]) (μ2 := μ) (t_not (q := true) (t_call (call_ok d_is_free_name (ds := [.str w]) (by decide +kernel) rfl rfl ⟨rfl, rfl, rfl, rfl⟩ rfl rfl (free_ok w hw μ)))) rfl).trans (end_ret.trans ?_)
  exact callC_ok (C := "Formula") (fs := fs (.nm w)) (μ1 := μ) (μ2 := μ) (F := d_Formula___init__) ⟨⟨rfl, by decide +kernel⟩, rfl, by simp, rfl⟩ rfl rfl rfl (a_cons (μ1 := μ) (tup_ok (ds := [.str "name", .str w]) rfl rfl (show 2 ≤ sizeLine by decide)) a_nil) rfl (init_ok (t := .nm w) μ (good_nm hw) (show 1 ≤ 4 by decide))
end K41

set_option Elab.async false
set_option linter.all false
set_option maxRecDepth 100000
set_option maxHeartbeats 1000000
/-! k41: drawn names; one turn. -/
namespace K41
open PySem L2 Pu
/-- names that a law may draw -/
structure Wds (ws : List Str) : Prop where
  sub : ws ∈ subs
  five : ∀ w ∈ ws, w ∈ five
  ne : ws ≠ []
  le : ws.length ≤ 4
  ris : RisS ws
theorem strs_perm {L : List D} {xs : List Str} (h : L.Perm (xs.map D.str)) : ∃ ks : List Str, L = ks.map D.str ∧ ks.Perm xs := by
  let f : D → Str := fun d => match d with | .str x => x | _ => Str.empty
  refine ⟨L.map f, ?_, ?_⟩
  · rw [List.map_map]
    have e : ∀ d ∈ L, (D.str ∘ f) d = d := fun d hd => by
      obtain ⟨x, _, rfl⟩ := List.mem_map.mp (h.mem_iff.mp hd)
      rfl
    rw [List.map_congr_left e, List.map_id']
  · have := h.map f
    rw [List.map_map] at this
    simpa [f, Function.comp_def] using this
theorem cut_take {L : List D} {j : Nat} (h : j ≤ L.length) : cutL L none (some (j : Int)) = L.take j := by
  unfold cutL
  rw [HT.sIx_none, HT.sIx_nat, List.drop_zero, Nat.sub_zero, Nat.min_eq_left h]
theorem wds_of {ks : List Str} {j : Nat} (h : ks.Perm K41.five) (h1 : 1 ≤ j) (h4 : j ≤ 4) : Wds (sortS (ks.take j)) ∧ (ks.take j).Nodup := by
  have nd : ks.Nodup := h.nodup_iff.mpr (by decide +kernel)
  have nt : (ks.take j).Nodup := nd.sublist (List.take_sublist _ _)
  have hl : ks.length = 5 := h.length_eq
  have ht : (ks.take j).length = j := by rw [List.length_take]; omega
  have e := (srt_same _ nt).2
  have hm : ∀ w ∈ sortS (ks.take j), w ∈ K41.five := fun w hw => h.mem_iff.mp (List.mem_of_mem_take ((mem_sortS _).mp hw))
  refine ⟨⟨ris_subs (ris_sortS _) hm, hm, fun z => ?_, by omega, ris_sortS _⟩, nt⟩
  rw [z, List.length_nil] at e
  omega
abbrev gQ : Pu.Ctx := g__law_right
abbrev at0 (c : Nat) : Sl := [some (.cell c), none, none, none, none, none, none, none, none, none, none, none, none, none]
theorem words_run {c : Nat} {μ : Sto} (hp : PotAt μ c 0) : Run ((den 39).e gQ (match defBody s__law_right with | .Assign _ e _ :: _ => e | _ => .Constant .none 0 ⟨0, 0, 0, 0⟩) (at0 c) μ) fun d μ' => ∃ ws, d = names ws ∧ Wds ws ∧ PotAt μ' c 6 := by
  refine run_bind (run_a_cons (run_bind (run_a_cons (run_bind ?_))))
  refine run_call d__law_dealt (ds := [.cell c, .lst (five.map D.str)]) (μ1 := μ) (by decide +kernel) rfl rfl ⟨rfl, rfl, rfl, rfl⟩ (a_cons (μ1 := μ) rfl (a_cons (μ1 := μ) (lst_ok (ds := five.map D.str) rfl (show (0 : Nat) ≠ 1 by decide) rfl (show 5 ≤ sizeLine by decide)) a_nil)) rfl ((dealt (xs := five.map D.str) (.inl rfl) hp (by omega) (show 5 < 1000 by decide)).mono ?_)
  rintro d μ1 ⟨L, rfl, hL, hp1, -⟩
  obtain ⟨ks, rfl, hk⟩ := strs_perm hL
  refine run_bind (run_ok (a := none) (μ := μ1) rfl (run_bind ?_))
  refine run_bind (run_bind (run_ok (a := D.int 1) (μ := μ1) rfl (run_bind ?_)))
  refine run_call d__law_bit (ds := [.cell c, .int 4]) (μ1 := μ1) (by decide +kernel) rfl rfl ⟨rfl, rfl, rfl, rfl⟩ rfl rfl ((bit hp1 (by decide) (by decide) (by decide)).mono ?_)
  rintro d μ2 ⟨r, o, rfl, r0, r1, -, hp2⟩
  obtain ⟨j, rfl⟩ := Int.eq_ofNat_of_zero_le r0
  obtain ⟨hw, nt⟩ := wds_of (j := 1 + j) hk (by omega) (by omega)
  have hl : ks.length = 5 := hk.length_eq
  refine run_ok (a := .int ((1 + j : Nat) : Int)) (μ := μ2) ?_ ?_
  · show R.ok (D.int (1 + (j : Int))) μ2 = _
    rfl
  refine run_ok (a := some ((1 + j : Nat) : Int)) (μ := μ2) rfl ?_
  refine run_ok (a := .lst ((ks.take (1 + j)).map D.str)) (μ := μ2) ?_ ?_
  · show R.ok (D.lst (cutL (ks.map D.str) none (some ((1 + j : Nat) : Int)))) μ2 = _
    rw [cut_take (by rw [List.length_map]; omega), List.map_take]
  refine run_a_nil (run_ok (a := .lst ((sortS (ks.take (1 + j))).map D.str)) (μ := μ2) ?_ ?_)
  · show (if sortable ((ks.take (1 + j)).map D.str) = true then R.ok (D.lst (sortL ((ks.take (1 + j)).map D.str))) μ2 else .stuck) = _
    rw [if_pos (sortable_strs _), sortL_strs nt]
  exact run_a_nil (run_ok (a := names (sortS (ks.take (1 + j)))) (μ := μ2) rfl ⟨_, rfl, hw, hp2.le (by decide)⟩)
end K41

set_option Elab.async false
set_option linter.all false
set_option maxRecDepth 100000
set_option maxHeartbeats 1000000
/-! k41: one turn of the law. -/
namespace K41
open PySem L2 Pu
theorem e_not {k : Nat} {G : Pu.Ctx} {ρ : Sl} {μ μ1 : Sto} {a : Expr} {pos : Pos} {x : D} {q : Bool} (h : (den k).e G a ρ μ = .ok x μ1) (h2 : truthD x μ1 = .ok q μ1) : (den (k + 1)).e G (.UnaryOp .Not a pos) ρ μ = .ok (.bl (!q)) μ1 := bind_ok h (bind_ok h2 rfl)
theorem good_of {ws : List Str} {t : T} (w : Wds ws) (h : ∀ x ∈ t.nl, x ∈ ws) (hd : t.dep ≤ 8) : Good t := ⟨fun x hx => w.five x (h x hx), hd⟩
theorem ws_le {ws : List Str} {t : T} (w : Wds ws) (h : ∀ x ∈ t.nl, x ∈ ws) : t.ws.length ≤ 4 := by
  have e := ris_sub (l := t.ws) (ris_sortS _) w.ris fun x hx => h x ((mem_sortS _).mp hx)
  rw [e]
  exact Nat.le_trans (List.length_filter_le _ _) w.le
/-- the slots of a turn -/
abbrev rS (c : Nat) (ws : List Str) (a2 a3 a4 a5 a6 a7 a8 a9 a10 a11 : Option D) : Sl := [some (.cell c), some (names ws), a2, a3, a4, a5, a6, a7, a8, a9, a10, a11, none, none]
abbrev qFor : Stmt := (defBody s__law_right).getD 1 (.Pass ⟨0, 0, 0, 0⟩)
abbrev qBody : List Stmt := match qFor with | .For _ _ b _ _ => b | _ => []
abbrev iBody : List Stmt := match qBody.getD 3 (.Pass ⟨0, 0, 0, 0⟩) with | .For _ _ b _ _ => b | _ => []
/-- asked once -/
theorem once {c : Nat} {ws : List Str} {t o : T} {μ : Sto} {a2 a3 a4 a5 a11 : Option D} (w : Wds ws) (gt : Good t) (go : Good o) :
    ∃ l a11', (den 38).s gQ iBody (rS c ws a2 a3 a4 a5 (some t.d) (some o.d) (some (fob t)) (some (fob o)) (some (fob t)) a11) μ = .ok (.next (rS c ws a2 a3 a4 a5 (some t.d) (some o.d) (some (fob t)) (some (fob o)) (some (fob t)) a11')) (μ ++ l) := by
  obtain ⟨l1, h1⟩ := told_ok μ gt w.sub
  obtain ⟨l2, h2⟩ := told_ok (μ ++ l1) go w.sub
  refine ⟨l1 ++ l2, some (.lst [.bl (same t o), .bl (same t o), .bl (same t o)]), ?_⟩
  rw [← List.append_assoc]
  generalize hν : μ ++ l1 ++ l2 = ν at h2
  refine (s_next (st_if (q := false) (μ1 := ν) ?_ rfl)).trans ?_
  · refine t_or0 (μ1 := μ ++ l1) (t_not (q := true) (t_call (call_ok d__law_told_right (ds := [fob t, t.d, names ws]) (by decide +kernel) rfl rfl ⟨rfl, rfl, rfl, rfl⟩ rfl rfl h1))) ?_
    refine t_or0 (μ1 := ν) (t_not (q := true) (t_call (call_ok d__law_told_right (ds := [fob o, o.d, names ws]) (by decide +kernel) rfl rfl ⟨rfl, rfl, rfl, rfl⟩ rfl rfl h2))) ?_
    refine t_one (t_cmp (x := fob t) (y := fob t) (μ1 := ν) (μ2 := ν) rfl rfl rfl ((cmp_f ν gt gt true rfl rfl rfl).trans ?_))
    rw [same_refl gt]
    rfl
  have three : ∀ b : Bool, reprD [.lst [.bl b, .bl b, .bl b]] ν = .ok (.str (PyData.list [.bool b, .bool b, .bool b]).shown) ν := fun b => repr_ok rfl (by cases b <;> decide) (by cases b <;> decide) (by cases b <;> decide)
  refine (s_next (st_asg (d := .lst [.bl (same t o), .bl (same t o), .bl (same t o)]) (μ1 := ν) rfl (lst_ok (ds := [.bl (same t o), .bl (same t o), .bl (same t o)]) rfl (show (0 : Nat) ≠ 1 by decide) (a_cons (μ1 := ν) ?_ (a_cons (μ1 := ν) ?_ (a_cons (μ1 := ν) ?_ a_nil))) (show 3 ≤ sizeLine by decide)) rfl)).trans ?_
  · exact e_cmp (x := fob t) (y := fob o) (μ1 := ν) (μ2 := ν) rfl rfl rfl (cmp_f ν gt go false rfl rfl rfl)
  · refine e_cmp (x := fob o) (y := fob t) (μ1 := ν) (μ2 := ν) rfl rfl rfl ((cmp_f ν go gt false rfl rfl rfl).trans ?_)
    rw [same_comm]
    rfl
  · refine e_not (x := .bl (!same t o)) (q := !same t o) (μ1 := ν) ?_ rfl |>.trans ?_
    · exact e_cmp (x := fob t) (y := fob o) (μ1 := ν) (μ2 := ν) rfl rfl rfl (cmp_f ν gt go true rfl rfl rfl)
    · rw [Bool.not_not]
  refine (s_next (st_if (q := false) (μ1 := ν) ?_ rfl)).trans s_nil
  refine t_cmp (x := .str (PyData.list [.bool (same t o), .bool (same t o), .bool (same t o)]).shown) (y := .str (PyData.list [.bool (same t o), .bool (same t o), .bool (same t o)]).shown) (μ1 := ν) (μ2 := ν) rfl ?_ ?_ ?_
  · exact bind_ok (b := [.lst [.bl (same t o), .bl (same t o), .bl (same t o)]]) (μ' := ν) rfl (three _)
  · refine bind_ok (b := [.lst [.bl (same t o), .bl (same t o), .bl (same t o)]]) (μ' := ν) (a_cons (bin_ok (x := .lst [.bl (same t o)]) (y := .int 3) (μ1 := ν) (μ2 := ν) (lst_ok (ds := [.bl (same t o)]) rfl (show (0 : Nat) ≠ 1 by decide) (a_cons (μ1 := ν) (e_cmp (x := t.d) (y := o.d) (μ1 := ν) (μ2 := ν) rfl rfl rfl ?_) a_nil) (show 1 ≤ sizeLine by decide)) rfl rfl) a_nil) (three _)
    show eqO gQ false t.d o.d ν = _
    unfold eqO
    rw [asO_t]
    exact eq_dd ν gt go false
  · show R.ok (D.bl (!decide (_ = _))) ν = _
    rw [decide_eq_true rfl]
    rfl
end K41

set_option Elab.async false
set_option linter.all false
set_option maxRecDepth 100000
set_option maxHeartbeats 1000000
/-! k41: one turn of the law, whole. -/
namespace K41
open PySem L2 Pu
abbrev qS (i : Nat) : Stmt := qBody.getD i (.Pass ⟨0, 0, 0, 0⟩)
abbrev odds (t : T) : List D := [.non, .int 0, t.d, .str t.tx, .lst [fob t], .tup []]
theorem odd_ok {t : T} (μ : Sto) : ∀ d ∈ odds t, asO μ d = none ∧ (tyD μ d).isSome = true := by
  intro d hd
  simp only [odds, List.mem_cons, List.not_mem_nil, or_false] at hd
  rcases hd with rfl | rfl | rfl | rfl | rfl | rfl
  · exact ⟨rfl, rfl⟩
  · exact ⟨rfl, rfl⟩
  · exact ⟨asO_t μ t, by rw [ty_t]; rfl⟩
  · exact ⟨rfl, rfl⟩
  · exact ⟨rfl, rfl⟩
  · exact ⟨rfl, rfl⟩
abbrev rT (c : Nat) (ws : List Str) (t o : T) (a2 a3 a4 a5 a11 : Option D) : Sl := rS c ws a2 a3 a4 a5 (some t.d) (some o.d) (some (fob t)) (some (fob o)) (some (fob t)) a11
/-- no odd value is equal -/
theorem odd_test {c : Nat} {ws : List Str} {t o : T} {μ : Sto} {a2 a4 a11 : Option D} (gt : Good t) : (den 38).t gQ (match qS 5 with | .If c _ _ _ => c | _ => .Constant .none 0 ⟨0, 0, 0, 0⟩) (rT c ws t o a2 (some (.str t.py.shown)) a4 (some (.lst (odds t))) a11) μ = .ok false μ := by
  refine t_or0 (μ1 := μ) (t_cmp (x := .lst []) (y := .lst []) (μ1 := μ) (μ2 := μ) rfl ?_ rfl rfl) (t_one (t_cmp (x := .str t.py.shown) (y := .str t.py.shown) (μ1 := μ) (μ2 := μ) rfl ?_ rfl ?_))
  · refine bind_ok (b := odds t) (μ' := μ) rfl (bind_ok (b := []) (μ' := μ) (noX_ok ?_) rfl)
    refine (comp_pure (g := fun _ => none) (odds t) [] (fun d hd => ?_) (show 6 ≤ sizeLine by decide)).trans (by simp)
    obtain ⟨h1, h2⟩ := odd_ok μ d hd
    refine bind_ok (b := false) (μ' := μ) ?_ rfl
    refine t_or0 (μ1 := μ) (t_cmp (x := fob t) (y := d) (μ1 := μ) (μ2 := μ) rfl rfl rfl (cmp_no μ h1 h2 false rfl rfl rfl)) (t_one (t_not (q := true) (t_cmp (x := fob t) (y := d) (μ1 := μ) (μ2 := μ) rfl rfl rfl (cmp_no μ h1 h2 true rfl rfl rfl))))
  · exact bind_ok (b := [t.d]) (μ' := μ) rfl (repr_t μ gt)
  · show R.ok (D.bl (!decide (_ = _))) μ = _
    rw [decide_eq_true rfl]
    rfl
theorem turn {c : Nat} {ws : List Str} {μ : Sto} {N : Int} {a2 a3 a4 a5 a6 a7 a8 a9 a10 a11 : Option D} (w : Wds ws) (hp : PotAt μ c N) (hN : N ≤ 1000) :
    Run ((den 39).s gQ qBody (rS c ws a2 a3 a4 a5 a6 a7 a8 a9 a10 a11) μ) fun fl μ' => ∃ b3 b4 b5 b6 b7 b8 b9 b10 b11, fl = .next (rS c ws a2 b3 b4 b5 b6 b7 b8 b9 b10 b11) ∧ PotAt μ' c (N + 200) := by
  have hw := w.le
  show Run (sD (den 38) gQ qBody (rS c ws a2 a3 a4 a5 a6 a7 a8 a9 a10 a11) μ) _
  refine rs_sw (vs := match qS 0 with | .Assign _ (.Tuple vs _ _) _ => vs | _ => []) (S := fun ds => store2 gQ "_law_tree_here" "_law_other" ds (rS c ws a2 a3 a4 a5 a6 a7 a8 a9 a10 a11)) (by kernel_rfl) (run_a_cons ?_)
  refine run_call (d__law_tree 10) (ds := [.cell c, names ws, .int (5 + 1 : Nat)]) (μ1 := μ) (by decide +kernel) rfl rfl ⟨rfl, rfl, rfl, rfl⟩ rfl rfl ((tree_run w.ne (by omega) 5 10 μ N (by decide) (by decide) hp (by omega)).mono ?_)
  rintro d μ1 ⟨t, rfl, t1, t2, hp1, -⟩
  refine run_a_cons ?_
  refine run_call (d__law_tree 10) (ds := [.cell c, names ws, .int (1 + 1 : Nat)]) (μ1 := μ1) (by decide +kernel) rfl rfl ⟨rfl, rfl, rfl, rfl⟩ rfl rfl ((tree_run w.ne (by omega) 1 10 μ1 _ (by decide) (by decide) hp1 (by omega)).mono ?_)
  rintro d μ2 ⟨o, rfl, o1, o2, hp2, -⟩
  have gt := good_of w t1 (by omega)
  have go := good_of w o1 (by omega)
  have t4 := ws_le w t1
  have o4 := ws_le w o1
  refine run_a_nil ⟨_, rfl, ?_⟩
  show Run (sD (den 38) gQ (qBody.drop 1) (rS c ws a2 a3 a4 a5 (some t.d) (some o.d) a8 a9 a10 a11) μ2) _
  refine rs_asg ⟨rfl, rfl⟩ (run_ok (bind_ok (b := [t.d]) (μ' := μ2) rfl (repr_t μ2 gt)) ⟨_, rfl, ?_⟩)
  show Run (sD (den 38) gQ (qBody.drop 2) (rS c ws a2 (some (.str t.py.shown)) a4 a5 (some t.d) (some o.d) a8 a9 a10 a11) μ2) _
  refine rs_tup rfl (by decide +kernel) (run_ok (a := .tup [fob t, fob o, fob t]) (μ := μ2 ++ [.dead] ++ [.dead] ++ [.dead]) (tup_ok rfl (a_cons (mk_f (μ1 := μ2) ⟨⟨rfl, rfl, rfl, rfl⟩, by decide +kernel⟩ rfl rfl gt t4 rfl) (a_cons (mk_f (μ1 := μ2 ++ [.dead]) ⟨⟨rfl, rfl, rfl, rfl⟩, by decide +kernel⟩ rfl rfl go o4 rfl) (a_cons (mk_f (μ1 := μ2 ++ [.dead] ++ [.dead]) ⟨⟨rfl, rfl, rfl, rfl⟩, by decide +kernel⟩ rfl rfl gt t4 rfl) a_nil))) (show 3 ≤ sizeLine by decide)) ⟨_, rfl, ?_⟩)
  have hp3 : PotAt (μ2 ++ [.dead] ++ [.dead] ++ [.dead]) c (N + 140) := (hp2.le (by omega)).app.app.app
  generalize μ2 ++ [.dead] ++ [.dead] ++ [.dead] = μ3 at hp3
  show Run (sD (den 38) gQ (qBody.drop 3) (rT c ws t o a2 (some (.str t.py.shown)) a4 a5 a11) μ3) _
  obtain ⟨l1, x1, e1⟩ := once (c := c) (μ := μ3) (a2 := a2) (a3 := some (.str t.py.shown)) (a4 := some (.int 0)) (a5 := a5) (a11 := a11) w gt go
  obtain ⟨l2, x2, e2⟩ := once (c := c) (μ := μ3 ++ l1) (a2 := a2) (a3 := some (.str t.py.shown)) (a4 := some (.int 1)) (a5 := a5) (a11 := x1) w gt go
  refine rs_cons (run_ok (a := .next (rT c ws t o a2 (some (.str t.py.shown)) (some (.int 1)) a5 x2)) (μ := μ3 ++ l1 ++ l2) (st_for (ds := [.int 0, .int 1]) (μ1 := μ3) ⟨rfl, rfl⟩ rfl (loop_cons rfl e1 (loop_cons rfl e2 loop_nil))) ?_)
  have hp4 : PotAt (μ3 ++ l1 ++ l2) c (N + 140) := hp3.app.app
  generalize μ3 ++ l1 ++ l2 = μ4 at hp4
  show Run (sD (den 38) gQ (qBody.drop 4) (rT c ws t o a2 (some (.str t.py.shown)) (some (.int 1)) a5 x2) μ4) _
  refine rs_asg ⟨rfl, rfl⟩ (run_ok (a := .lst (odds t)) (μ := μ4) ?_ ⟨_, rfl, ?_⟩)
  · refine lst_ok (ds := odds t) rfl (show (0 : Nat) ≠ 1 by decide) (a_cons (μ1 := μ4) rfl (a_cons (μ1 := μ4) rfl (a_cons (μ1 := μ4) rfl (a_cons (μ1 := μ4) ?_ (a_cons (μ1 := μ4) (lst_ok (ds := [fob t]) rfl (show (0 : Nat) ≠ 1 by decide) rfl (show 1 ≤ sizeLine by decide)) (a_cons (μ1 := μ4) rfl a_nil)))))) (show 6 ≤ sizeLine by decide)
    refine bind_ok (b := [fob t]) (μ' := μ4) rfl ?_
    show (do let n ← noX (d_Formula___str__ [fob t]); isTxt n) μ4 = _
    exact bind_ok (noX_ok (str_f μ4 gt)) rfl
  show Run (sD (den 38) gQ (qBody.drop 5) (rT c ws t o a2 (some (.str t.py.shown)) (some (.int 1)) (some (.lst (odds t))) x2) μ4) _
  refine rs_if (run_ok (odd_test gt) ⟨fun z => (nomatch z), fun _ => ?_⟩)
  exact ⟨_, _, _, _, _, _, _, _, _, rfl, hp4.le (by omega)⟩
end K41

set_option Elab.async false
set_option linter.all false
set_option maxRecDepth 100000
set_option maxHeartbeats 1000000
/-! k41: the law. -/
namespace K41
open PySem L2 Pu
theorem range_at {j n : Nat} {d : D} (h : (rangeL 0 n)[j]? = some d) : d = .int j ∧ j < n := by
  unfold rangeL at h
  rw [List.getElem?_map] at h
  by_cases hj : j < n
  · rw [List.getElem?_range hj] at h
    simp only [Option.map_some, Option.some.injEq] at h
    exact ⟨by rw [← h, Int.zero_add], hj⟩
  · rw [List.getElem?_eq_none (by rw [List.length_range]; omega)] at h
    cases h
theorem last_ok {c : Nat} {ws : List Str} {μ : Sto} {a2 a3 a4 a5 a6 a7 a8 a9 a10 a11 : Option D} (w : Wds ws) : Run ((den 39).e gQ (match defBody s__law_right with | [_, _, .Return (some e) _] => e | _ => .Constant .none 0 ⟨0, 0, 0, 0⟩) (rS c ws a2 a3 a4 a5 a6 a7 a8 a9 a10 a11) μ) fun d _ => d = .bl true := by
  have hcomp : Run ((den 38).e gQ (match defBody s__law_right with | [_, _, .Return (some (.Compare e _ _ _)) _] => e | _ => .Constant .none 0 ⟨0, 0, 0, 0⟩) (rS c ws a2 a3 a4 a5 a6 a7 a8 a9 a10 a11) μ) fun d _ => d = .lst [] := by
    refine run_bind (run_ok (a := ws.map D.str) (μ := μ) rfl (run_bind (run_noX (run_comp (I := fun j acc _ => acc = []) _ 0 [] μ rfl ?_ ?_ ?_))))
    · rw [List.length_nil, Nat.zero_add, List.length_map]
      exact Nat.le_trans w.le (by decide)
    · rintro j d acc ν hd rfl
      obtain ⟨x, hx, rfl⟩ := List.mem_map.mp (List.mem_of_getElem? hd)
      have hf := w.five x hx
      have gx := good_nm hf
      refine run_bind (run_ok (a := false) (μ := ν ++ [.dead] ++ [.dead]) ?_ rfl)
      refine t_cmp (x := fob (.nm x)) (y := fob (.nm x)) (μ1 := ν ++ [.dead]) (μ2 := ν ++ [.dead] ++ [.dead]) rfl ?_ ?_ ((cmp_f _ gx gx true rfl rfl rfl).trans ?_)
      · exact clsm_ok (C := "Formula") (m := "of") (ds := [.str x]) (μ1 := ν) (μ2 := ν) (F := d_Formula_of) ⟨by decide +kernel, ⟨rfl, rfl, rfl, rfl, by decide⟩, by simp⟩ rfl rfl rfl rfl (of_f ν hf)
      · have hm : (blkG gQ (match defBody s__law_right with | [_, _, .Return (some (.Compare (.ListComp _ _ sc _) _ _ _)) _] => sc | _ => defScope s__law_right)).make "Formula" = some (1, d_Formula___init__) := rfl
        refine mk_f (t := .nm x) (μ1 := ν ++ [.dead]) ?_ ?_ hm gx (show 1 ≤ 4 by decide) ?_
        · exact ⟨⟨rfl, rfl, rfl, rfl⟩, by decide +kernel⟩
        · rfl
        · exact tup_ok (ds := [.str "name", .str x]) rfl rfl (show 2 ≤ sizeLine by decide)
      · rw [same_refl gx]
        rfl
    · rintro acc ν rfl
      exact rfl
  obtain ⟨d, ν, e, rfl⟩ := hcomp.out
  exact run_ok (e_cmp (x := .lst []) (y := .lst []) (μ1 := ν) (μ2 := ν) rfl e rfl rfl) rfl
theorem right_ok {c : Nat} {μ : Sto} (hp : PotAt μ c 0) : Run (d__law_right [.cell c] μ) fun d _ => d = .bl true := by
  refine run_def ?_
  show Run (sD (den 39) gQ (defBody s__law_right) (at0 c) μ) _
  refine rs_asg ⟨rfl, rfl⟩ ((words_run hp).mono ?_)
  rintro d μ1 ⟨ws, rfl, w, hp1⟩
  refine ⟨rS c ws none none none none none none none none none none, rfl, ?_⟩
  refine rs_for (I := fun j ρ μ' => (∃ a2 a3 a4 a5 a6 a7 a8 a9 a10 a11, ρ = rS c ws a2 a3 a4 a5 a6 a7 a8 a9 a10 a11) ∧ PotAt μ' c (6 + 200 * j)) (ds := rangeL 0 3) (μ1 := μ1) ⟨rfl, rfl⟩ rfl ⟨⟨_, _, _, _, _, _, _, _, _, _, rfl⟩, hp1.le (by omega)⟩ ?_ ?_
  · rintro j d _ ν hd ⟨⟨a2, a3, a4, a5, a6, a7, a8, a9, a10, a11, rfl⟩, hpj⟩
    obtain ⟨rfl, hj⟩ := range_at hd
    refine ⟨_, rfl, (turn (a2 := some (.int j)) w hpj (by omega)).mono ?_⟩
    rintro fl ν1 ⟨b3, b4, b5, b6, b7, b8, b9, b10, b11, rfl, hp2⟩
    exact ⟨⟨_, _, _, _, _, _, _, _, _, _, rfl⟩, hp2.le (by omega)⟩
  · rintro _ ν ⟨⟨a2, a3, a4, a5, a6, a7, a8, a9, a10, a11, rfl⟩, hpj⟩
    exact rs_ret (last_ok w)
/-! ### the written formula -/
theorem init_gen {v : D} {ks : List Str} (μ : Sto) (hw : ∀ ν, d_is_tree_within 10 [v, .int 8] ν = .ok (.bl true) ν) (hn : ∀ ν, d_names_in 10 [v] ν = .ok (.dic (dct ks)) ν) (nd : ks.Nodup) (h4 : ks.length ≤ 4) : d_Formula___init__ [.cell μ.length, v] (μ ++ [.obj "Formula" []]) = .ok .non (μ ++ [.obj "Formula" [("own_tree", v), ("own_names", names (sortS ks))]]) := by
  refine (end_if0 (μ1 := μ ++ [.obj "Formula" []]) (ρ' := [some (.cell μ.length), some v]) (μ2 := μ ++ [.obj "Formula" []]) ?_ rfl).trans ?_
  · refine t_or0 (μ1 := μ ++ [.obj "Formula" []]) (t_not (q := true) (t_call ?_)) (t_one (t_cmp (x := .int ks.length) (y := .int 4) (μ1 := μ ++ [.obj "Formula" []]) (μ2 := μ ++ [.obj "Formula" []]) rfl ?_ rfl ?_))
    · exact call_ok (d_is_tree_within 10) (ds := [v, .int 8]) (by decide +kernel) rfl rfl ⟨rfl, rfl, rfl, rfl⟩ rfl rfl (hw _)
    · refine bind_ok (b := [.dic (dct ks)]) (μ' := μ ++ [.obj "Formula" []]) (a_cons (call_ok (d_names_in 10) (ds := [v]) (by decide +kernel) rfl rfl ⟨rfl, rfl, rfl, rfl⟩ rfl rfl (hn _)) a_nil) ?_
      show R.ok (D.int (dct ks).length) _ = _
      rw [List.length_map]
    · show R.ok (D.bl (decide ((ks.length : Int) > 4))) _ = _
      rw [decide_eq_false (by omega)]
  · refine (end_next (st_fld rfl (v := v) (x := .cell μ.length) (μ1 := μ ++ [.obj "Formula" []]) (μ2 := μ ++ [.obj "Formula" []]) rfl rfl (fld_end ⟨by decide +kernel, by simp⟩))).trans ?_
    refine (end_next (st_fld rfl (v := names (sortS ks)) (x := .cell μ.length) (μ1 := μ ++ [.obj "Formula" [("own_tree", v)]]) (μ2 := μ ++ [.obj "Formula" [("own_tree", v)]]) ?_ rfl (fld_end ⟨by decide +kernel, by simp⟩))).trans rfl
    refine bind_ok (b := [.lst ((sortS ks).map D.str)]) (μ' := μ ++ [.obj "Formula" [("own_tree", v)]]) (a_cons ?_ a_nil) rfl
    refine bind_ok (b := [.lst (ks.map D.str)]) (μ' := μ ++ [.obj "Formula" [("own_tree", v)]]) (a_cons ?_ a_nil) ?_
    · refine bind_ok (b := [.dic (dct ks)]) (μ' := μ ++ [.obj "Formula" [("own_tree", v)]]) (a_cons (call_ok (d_names_in 10) (ds := [v]) (by decide +kernel) rfl rfl ⟨rfl, rfl, rfl, rfl⟩ rfl rfl (hn _)) a_nil) ?_
      show R.ok (D.lst (keysD (dct ks))) _ = _
      rw [keys_dct]
    · show (if sortable (ks.map D.str) = true then R.ok (D.lst (sortL (ks.map D.str))) _ else .stuck) = _
      rw [if_pos (sortable_strs _), sortL_strs nd]
def tX : T := .orr (.neg (.an (.nm "x") .al)) (.neg (.neg .no))
theorem init_x (μ : Sto) : d_Formula___init__ [.cell μ.length, tX.d] (μ ++ [.obj "Formula" []]) = .ok .non (μ ++ [.obj "Formula" [("own_tree", tX.d), ("own_names", names ["x"])]]) :=
  init_gen (v := tX.d) (ks := ["x"]) μ (fun ν => by kernel_rfl) (fun ν => by kernel_rfl) (by simp) (by decide)
abbrev fX : D := .obj "Formula" [("own_tree", tX.d), ("own_names", names ["x"])]
theorem end_ok {ns : List Int} {a1 : Option D} (μ : Sto) : Run (sD (den 39) g_law ((defBody s_law).drop 1) [some (.frz (ns.map D.int)), a1, none] μ) (FinQ fun d _ => d = .bl true) := by
  refine rs_asg ⟨rfl, rfl⟩ (run_ok (a := fX) (μ := μ ++ [.dead]) (make_ok (ds := [tX.d]) (μ1 := μ) ⟨⟨rfl, rfl, rfl, rfl⟩, by decide +kernel⟩ rfl rfl rfl rfl (init_x μ)) ⟨_, rfl, ?_⟩)
  generalize μ ++ [.dead] = ν
  show Run (sD (den 39) g_law ((defBody s_law).drop 2) [some (.frz (ns.map D.int)), a1, some fX] ν) _
  have test : (den 39).t g_law (match defBody s_law with | [_, _, .If c _ _ _, _] => c | _ => .Constant .none 0 ⟨0, 0, 0, 0⟩) [some (.frz (ns.map D.int)), a1, some fX] ν = .ok false ν := by kernel_rfl
  refine rs_if (run_ok test ⟨fun z => (nomatch z), fun _ => ?_⟩)
  show Run (sD (den 39) g_law ((defBody s_law).drop 3) [some (.frz (ns.map D.int)), a1, some fX] ν) _
  refine rs_ret (run_ok (a := .bl true) (μ := ν) (by kernel_rfl) rfl)
theorem law_holds (ns : List Int) (_ : ns.length ≤ 63) : ∃ μ, d_law [.frz (ns.map D.int)] [] = .ok (.bl true) μ := by
  suffices h : Run (d_law [.frz (ns.map D.int)] []) fun d _ => d = .bl true by
    obtain ⟨d, μ, e, rfl⟩ := h.out
    exact ⟨μ, e⟩
  refine run_def ?_
  show Run (sD (den 39) g_law (defBody s_law) [some (.frz (ns.map D.int)), none, none] []) _
  let m : Int := if ((ns.map D.int).length : Int) < 6 then ((ns.map D.int).length : Int) else 6
  let t : Int := if m > 1 then m else 1
  have hm : m ≤ 6 := by show (if ((ns.map D.int).length : Int) < 6 then ((ns.map D.int).length : Int) else 6) ≤ 6; split <;> omega
  have ht : 1 ≤ t ∧ t ≤ 6 := by show 1 ≤ (if m > 1 then m else 1) ∧ (if m > 1 then m else 1) ≤ 6; split <;> omega
  refine rs_for (I := fun j ρ _ => ∃ a1 : Option D, ρ = [some (.frz (ns.map D.int)), a1, none]) (ds := rangeL 0 t.toNat) (μ1 := []) ⟨rfl, rfl⟩ ?_ ⟨none, rfl⟩ ?_ ?_
  · refine bind_ok (b := D.int t) (μ' := []) (bind_ok (b := [D.int 1, D.int m]) (μ' := []) (bind_ok (b := D.int 1) (μ' := []) rfl (bind_ok (b := [D.int m]) (μ' := []) (bind_ok (b := D.int m) (μ' := []) (bind_ok (b := [D.int 6, D.int (ns.map D.int).length]) (μ' := []) rfl rfl) rfl) rfl)) rfl) ?_
    show (if -(2 ^ 62) ≤ t ∧ t < 2 ^ 62 then R.ok (rangeL 0 t.toNat) [] else R.stuck) = _
    rw [if_pos (by omega)]
  · rintro j d _ μ hd ⟨a1, rfl⟩
    obtain ⟨rfl, hj⟩ := range_at hd
    have hj64 : j < 64 := by omega
    refine ⟨[some (.frz (ns.map D.int)), some (.int j), none], rfl, ?_⟩
    have ht : Run ((den 38).t g_law (match defBody s_law with | .For _ _ [.If c _ _ _] _ _ :: _ => c | _ => .Constant .none 0 ⟨0, 0, 0, 0⟩) [some (.frz (ns.map D.int)), some (.int j), none] μ) fun b _ => b = false := by
      obtain ⟨d1, μ1, e1, rfl, pa, pb, rfl⟩ := (pot_made (ns := ns) (μ := μ) hj64).out
      have hp : PotAt (μ ++ [.lst [.int pa, .int pb, .int 0]]) μ.length 0 := ⟨pa, pb, 0, by simp, Int.le_refl _, Int.le_refl _⟩
      obtain ⟨d2, μ2, e2, rfl⟩ := (right_ok hp).out
      refine run_ok (a := false) (μ := μ2) (t_not (q := true) (t_call ?_)) rfl
      refine call_ok d__law_right (ds := [.cell μ.length]) (by decide +kernel) rfl rfl ⟨rfl, rfl, rfl, rfl⟩ (a_cons ?_ a_nil) rfl e2
      exact call_ok d__law_pot (ds := [.frz (ns.map D.int), .int j]) (by decide +kernel) rfl rfl ⟨rfl, rfl, rfl, rfl⟩ rfl rfl e1
    obtain ⟨b, μ1, e, rfl⟩ := ht.out
    show Run (sD (den 38) g_law (match defBody s_law with | .For _ _ b _ _ :: _ => b | _ => []) [some (.frz (ns.map D.int)), some (.int j), none] μ) _
    refine rs_if (run_ok e ⟨fun z => (nomatch z), fun _ => ?_⟩)
    exact ⟨some (.int j), rfl⟩
  · rintro _ μ ⟨a1, rfl⟩
    exact end_ok μ
end K41

set_option Elab.async false
set_option linter.all false
set_option maxRecDepth 100000
/-! k41: every def by its den; the law's own head (printed by lawgen2.py). -/
namespace K41
open PySem L2 Pu
abbrev AllB (mg : Str → Option Value) (W : Wd) : Prop := ∀ st N k fs ms ds pr mk cm, GB mg W (cx st N k fs ms ds pr mk cm) ∧ OB W (cx st N k fs ms ds pr mk cm)
section
variable {P : Program} {w : World} {W : Wd} {mg : Str → Option Value} {base : Heap}
theorem sc__law_bit : FnScope ["_law_pot_here", "_law_much", "_law_first", "_law_later", "_law_found"] ["_law_pot_here", "_law_much"] (defScope s__law_bit) := ⟨rfl, rfl, rfl, by decide +kernel, rfl, by decide +kernel, by decide +kernel⟩
theorem sc__law_pick : FnScope ["_law_pot_here", "_law_items"] ["_law_pot_here", "_law_items"] (defScope s__law_pick) := ⟨rfl, rfl, rfl, by decide +kernel, rfl, by decide +kernel, by decide +kernel⟩
theorem sc__law_tree : FnScope ["_law_pot_here", "_law_words", "_law_deep", "_law_lot"] ["_law_pot_here", "_law_words", "_law_deep"] (defScope s__law_tree) := ⟨rfl, rfl, rfl, by decide +kernel, rfl, by decide +kernel, by decide +kernel⟩
theorem sc__law_dealt : FnScope ["_law_pot_here", "_law_items", "_law_waits", "_law_turn"] ["_law_pot_here", "_law_items"] (defScope s__law_dealt) := ⟨rfl, rfl, rfl, by decide +kernel, rfl, by decide +kernel, by decide +kernel⟩
theorem sc__law_sets_of : FnScope ["_law_words", "_law_found", "_law_word", "_law_order", "_law_size", "_law_some"] ["_law_words"] (defScope s__law_sets_of) := ⟨rfl, rfl, rfl, by decide +kernel, rfl, by decide +kernel, by decide +kernel⟩
theorem sc__law_so : FnScope ["_law_tree_here", "_law_words", "_law_some"] ["_law_tree_here", "_law_words"] (defScope s__law_so) := ⟨rfl, rfl, rfl, by decide +kernel, rfl, by decide +kernel, by decide +kernel⟩
theorem sc__law_words_in : FnScope ["_law_tree_here", "_law_found", "_law_part"] ["_law_tree_here"] (defScope s__law_words_in) := ⟨rfl, rfl, rfl, by decide +kernel, rfl, by decide +kernel, by decide +kernel⟩
theorem sc__law_count : FnScope ["_law_tree_here", "_law_part"] ["_law_tree_here"] (defScope s__law_count) := ⟨rfl, rfl, rfl, by decide +kernel, rfl, by decide +kernel, by decide +kernel⟩
theorem sc__law_tree_text : FnScope ["_law_tree_here", "_law_parts", "_law_part", "_law_told"] ["_law_tree_here"] (defScope s__law_tree_text) := ⟨rfl, rfl, rfl, by decide +kernel, rfl, by decide +kernel, by decide +kernel⟩
theorem sc_is_so : FnScope ["tree", "names"] ["tree", "names"] (defScope s_is_so) := ⟨rfl, rfl, rfl, by decide +kernel, rfl, by decide +kernel, by decide +kernel⟩
theorem sc_is_ascending : FnScope ["values", "one", "other"] ["values"] (defScope s_is_ascending) := ⟨rfl, rfl, rfl, by decide +kernel, rfl, by decide +kernel, by decide +kernel⟩
theorem sc_are_small : FnScope ["text", "sign"] ["text"] (defScope s_are_small) := ⟨rfl, rfl, rfl, by decide +kernel, rfl, by decide +kernel, by decide +kernel⟩
theorem sc_is_name : FnScope ["value"] ["value"] (defScope s_is_name) := ⟨rfl, rfl, rfl, by decide +kernel, rfl, by decide +kernel, by decide +kernel⟩
theorem sc_Formula_holds : FnScope ["self", "names", "name"] ["self", "names"] (defScope s_Formula_holds) := ⟨rfl, rfl, rfl, by decide +kernel, rfl, by decide +kernel, by decide +kernel⟩
theorem sc_Formula_tree : FnScope ["self"] ["self"] (defScope s_Formula_tree) := ⟨rfl, rfl, rfl, by decide +kernel, rfl, by decide +kernel, by decide +kernel⟩
theorem sc_Formula_names : FnScope ["self"] ["self"] (defScope s_Formula_names) := ⟨rfl, rfl, rfl, by decide +kernel, rfl, by decide +kernel, by decide +kernel⟩
theorem sc_trees_in : FnScope ["tree", "part", "inner"] ["tree"] (defScope s_trees_in) := ⟨rfl, rfl, rfl, by decide +kernel, rfl, by decide +kernel, by decide +kernel⟩
theorem sc_Formula___len__ : FnScope ["self"] ["self"] (defScope s_Formula___len__) := ⟨rfl, rfl, rfl, by decide +kernel, rfl, by decide +kernel, by decide +kernel⟩
theorem sc_part_text : FnScope ["tree"] ["tree"] (defScope s_part_text) := ⟨rfl, rfl, rfl, by decide +kernel, rfl, by decide +kernel, by decide +kernel⟩
theorem sc_text_of : FnScope ["tree"] ["tree"] (defScope s_text_of) := ⟨rfl, rfl, rfl, by decide +kernel, rfl, by decide +kernel, by decide +kernel⟩
theorem sc_Formula___str__ : FnScope ["self"] ["self"] (defScope s_Formula___str__) := ⟨rfl, rfl, rfl, by decide +kernel, rfl, by decide +kernel, by decide +kernel⟩
theorem sc_Formula___call__ : FnScope ["self", "names"] ["self", "names"] (defScope s_Formula___call__) := ⟨rfl, rfl, rfl, by decide +kernel, rfl, by decide +kernel, by decide +kernel⟩
theorem sc__law_told_right : FnScope ["_law_made", "_law_tree_here", "_law_words", "_law_told", "_law_some", "_law_due"] ["_law_made", "_law_tree_here", "_law_words"] (defScope s__law_told_right) := ⟨rfl, rfl, rfl, by decide +kernel, rfl, by decide +kernel, by decide +kernel⟩
theorem sc_is_free_name : FnScope ["value"] ["value"] (defScope s_is_free_name) := ⟨rfl, rfl, rfl, by decide +kernel, rfl, by decide +kernel, by decide +kernel⟩
theorem sc_is_tree_within : FnScope ["value", "deep", "sizes", "part"] ["value", "deep"] (defScope s_is_tree_within) := ⟨rfl, rfl, rfl, by decide +kernel, rfl, by decide +kernel, by decide +kernel⟩
theorem sc_names_in : FnScope ["tree", "part", "name"] ["tree"] (defScope s_names_in) := ⟨rfl, rfl, rfl, by decide +kernel, rfl, by decide +kernel, by decide +kernel⟩
theorem sc_Formula___init__ : FnScope ["self", "tree"] ["self", "tree"] (defScope s_Formula___init__) := ⟨rfl, rfl, rfl, by decide +kernel, rfl, by decide +kernel, by decide +kernel⟩
theorem sc_Formula_of : FnScope ["cls", "name"] ["cls", "name"] (defScope s_Formula_of) := ⟨rfl, rfl, rfl, by decide +kernel, rfl, by decide +kernel, by decide +kernel⟩
theorem sc_Formula___eq__ : FnScope ["self", "value"] ["self", "value"] (defScope s_Formula___eq__) := ⟨rfl, rfl, rfl, by decide +kernel, rfl, by decide +kernel, by decide +kernel⟩
theorem sc__law_right : FnScope ["_law_pot_here", "_law_words", "_law_turn", "_law_shown", "_law_again", "_law_odd", "_law_tree_here", "_law_other", "_law_made", "_law_near", "_law_twin", "_law_told", "_law_word", "_law_value"] ["_law_pot_here"] (defScope s__law_right) := ⟨rfl, rfl, rfl, by decide +kernel, rfl, by decide +kernel, by decide +kernel⟩
theorem sc__law_pot : FnScope ["_law_script", "_law_at", "_law_cell", "_law_great", "_law_blend"] ["_law_script", "_law_at"] (defScope s__law_pot) := ⟨rfl, rfl, rfl, by decide +kernel, rfl, by decide +kernel, by decide +kernel⟩
theorem sc_law : FnScope ["_law_script", "_law_at", "_law_told"] ["_law_script"] (defScope s_law) := ⟨rfl, rfl, rfl, by decide +kernel, rfl, by decide +kernel, by decide +kernel⟩
theorem ok__law_bit (B : AllB mg W) {f : Addr} {fd : FuncData} (F : Fun W.K "_law_bit" "_law_bit" s__law_bit f fd) (b : Binds W.K fd ["_law_pot_here", "_law_much"] []) (m : mg "_law_bit" = some (.ref f)) : FnAt P w W mg base 1 ("_law_bit", 2, d__law_bit) :=
  ⟨f, fd, ["_law_pot_here", "_law_much"], fn_den (G := g__law_bit) 40 F sc__law_bit rfl rfl rfl (gok_of (B _ _ _ _ _ _ _ _ _).1 (ob_of (B _ _ _ _ _ _ _ _ _).2 rfl rfl rfl rfl rfl trivial trivial trivial trivial trivial) rfl trivial), m, F.kp, b⟩
theorem ok__law_pick (B : AllB mg W) {f : Addr} {fd : FuncData} (F : Fun W.K "_law_pick" "_law_pick" s__law_pick f fd) (b : Binds W.K fd ["_law_pot_here", "_law_items"] []) (m : mg "_law_pick" = some (.ref f)) (h0 : FnAt P w W mg base 1 ("_law_bit", 2, d__law_bit)) : FnAt P w W mg base 2 ("_law_pick", 2, d__law_pick) :=
  ⟨f, fd, ["_law_pot_here", "_law_items"], fn_den (G := g__law_pick) 40 F sc__law_pick rfl rfl rfl (gok_of (B _ _ _ _ _ _ _ _ _).1 (ob_of (B _ _ _ _ _ _ _ _ _).2 rfl rfl rfl rfl rfl trivial trivial trivial trivial trivial) rfl ⟨h0.mono (show 1 ≤ 1 by omega), trivial⟩), m, F.kp, b⟩
theorem ok__law_tree (B : AllB mg W) {f : Addr} {fd : FuncData} (F : Fun W.K "_law_tree" "_law_tree" s__law_tree f fd) (b : Binds W.K fd ["_law_pot_here", "_law_words", "_law_deep"] []) (m : mg "_law_tree" = some (.ref f)) (h0 : FnAt P w W mg base 1 ("_law_bit", 2, d__law_bit)) (h1 : FnAt P w W mg base 2 ("_law_pick", 2, d__law_pick)) : ∀ n, FnAt P w W mg base (2 + 1 * n) ("_law_tree", 3, d__law_tree n)
  | 0 => ⟨f, fd, ["_law_pot_here", "_law_words", "_law_deep"], fnG_none (ps := ["_law_pot_here", "_law_words", "_law_deep"]), m, F.kp, b⟩
  | n + 1 => by
    have ih := ok__law_tree B F b m  h0 h1 n
    have q : FnAt P w W mg base (2 + 1 * n + 0 + 1) ("_law_tree", 3, d__law_tree (n + 1)) := ⟨f, fd, ["_law_pot_here", "_law_words", "_law_deep"], fn_den (G := g__law_tree n (d__law_tree n)) 40 F sc__law_tree rfl rfl rfl (gok_of (B _ _ _ _ _ _ _ _ _).1 (ob_of (B _ _ _ _ _ _ _ _ _).2 rfl rfl rfl rfl rfl trivial trivial trivial trivial trivial) rfl ⟨h0.mono (show 1 ≤ 2 + 1 * n + 0 by omega), ih.mono (show 2 + 1 * n ≤ 2 + 1 * n + 0 by omega), h1.mono (show 2 ≤ 2 + 1 * n + 0 by omega), trivial⟩), m, F.kp, b⟩
    exact q.mono (by omega)
theorem ok__law_dealt (B : AllB mg W) {f : Addr} {fd : FuncData} (F : Fun W.K "_law_dealt" "_law_dealt" s__law_dealt f fd) (b : Binds W.K fd ["_law_pot_here", "_law_items"] []) (m : mg "_law_dealt" = some (.ref f)) (h0 : FnAt P w W mg base 1 ("_law_bit", 2, d__law_bit)) : FnAt P w W mg base 2 ("_law_dealt", 2, d__law_dealt) :=
  ⟨f, fd, ["_law_pot_here", "_law_items"], fn_den (G := g__law_dealt) 40 F sc__law_dealt rfl rfl rfl (gok_of (B _ _ _ _ _ _ _ _ _).1 (ob_of (B _ _ _ _ _ _ _ _ _).2 rfl rfl rfl rfl rfl trivial trivial trivial trivial trivial) rfl ⟨h0.mono (show 1 ≤ 1 by omega), trivial⟩), m, F.kp, b⟩
theorem ok__law_sets_of (B : AllB mg W) {f : Addr} {fd : FuncData} (F : Fun W.K "_law_sets_of" "_law_sets_of" s__law_sets_of f fd) (b : Binds W.K fd ["_law_words"] []) (m : mg "_law_sets_of" = some (.ref f)) : FnAt P w W mg base 1 ("_law_sets_of", 1, d__law_sets_of) :=
  ⟨f, fd, ["_law_words"], fn_den (G := g__law_sets_of) 40 F sc__law_sets_of rfl rfl rfl (gok_of (B _ _ _ _ _ _ _ _ _).1 (ob_of (B _ _ _ _ _ _ _ _ _).2 rfl rfl rfl rfl rfl trivial trivial trivial trivial trivial) rfl trivial), m, F.kp, b⟩
theorem ok__law_so (B : AllB mg W) {f : Addr} {fd : FuncData} (F : Fun W.K "_law_so" "_law_so" s__law_so f fd) (b : Binds W.K fd ["_law_tree_here", "_law_words"] []) (m : mg "_law_so" = some (.ref f)) : ∀ n, FnAt P w W mg base (0 + 1 * n) ("_law_so", 2, d__law_so n)
  | 0 => ⟨f, fd, ["_law_tree_here", "_law_words"], fnG_none (ps := ["_law_tree_here", "_law_words"]), m, F.kp, b⟩
  | n + 1 => by
    have ih := ok__law_so B F b m   n
    have q : FnAt P w W mg base (0 + 1 * n + 0 + 1) ("_law_so", 2, d__law_so (n + 1)) := ⟨f, fd, ["_law_tree_here", "_law_words"], fn_den (G := g__law_so n (d__law_so n)) 40 F sc__law_so rfl rfl rfl (gok_of (B _ _ _ _ _ _ _ _ _).1 (ob_of (B _ _ _ _ _ _ _ _ _).2 rfl rfl rfl rfl rfl trivial trivial trivial trivial trivial) rfl ⟨ih.mono (show 0 + 1 * n ≤ 0 + 1 * n + 0 by omega), trivial⟩), m, F.kp, b⟩
    exact q.mono (by omega)
theorem ok__law_words_in (B : AllB mg W) {f : Addr} {fd : FuncData} (F : Fun W.K "_law_words_in" "_law_words_in" s__law_words_in f fd) (b : Binds W.K fd ["_law_tree_here"] []) (m : mg "_law_words_in" = some (.ref f)) : ∀ n, FnAt P w W mg base (0 + 1 * n) ("_law_words_in", 1, d__law_words_in n)
  | 0 => ⟨f, fd, ["_law_tree_here"], fnG_none (ps := ["_law_tree_here"]), m, F.kp, b⟩
  | n + 1 => by
    have ih := ok__law_words_in B F b m   n
    have q : FnAt P w W mg base (0 + 1 * n + 0 + 1) ("_law_words_in", 1, d__law_words_in (n + 1)) := ⟨f, fd, ["_law_tree_here"], fn_den (G := g__law_words_in n (d__law_words_in n)) 40 F sc__law_words_in rfl rfl rfl (gok_of (B _ _ _ _ _ _ _ _ _).1 (ob_of (B _ _ _ _ _ _ _ _ _).2 rfl rfl rfl rfl rfl trivial trivial trivial trivial trivial) rfl ⟨ih.mono (show 0 + 1 * n ≤ 0 + 1 * n + 0 by omega), trivial⟩), m, F.kp, b⟩
    exact q.mono (by omega)
theorem ok__law_count (B : AllB mg W) {f : Addr} {fd : FuncData} (F : Fun W.K "_law_count" "_law_count" s__law_count f fd) (b : Binds W.K fd ["_law_tree_here"] []) (m : mg "_law_count" = some (.ref f)) : ∀ n, FnAt P w W mg base (0 + 1 * n) ("_law_count", 1, d__law_count n)
  | 0 => ⟨f, fd, ["_law_tree_here"], fnG_none (ps := ["_law_tree_here"]), m, F.kp, b⟩
  | n + 1 => by
    have ih := ok__law_count B F b m   n
    have q : FnAt P w W mg base (0 + 1 * n + 0 + 1) ("_law_count", 1, d__law_count (n + 1)) := ⟨f, fd, ["_law_tree_here"], fn_den (G := g__law_count n (d__law_count n)) 40 F sc__law_count rfl rfl rfl (gok_of (B _ _ _ _ _ _ _ _ _).1 (ob_of (B _ _ _ _ _ _ _ _ _).2 rfl rfl rfl rfl rfl trivial trivial trivial trivial trivial) rfl ⟨ih.mono (show 0 + 1 * n ≤ 0 + 1 * n + 0 by omega), trivial⟩), m, F.kp, b⟩
    exact q.mono (by omega)
theorem ok__law_tree_text (B : AllB mg W) {f : Addr} {fd : FuncData} (F : Fun W.K "_law_tree_text" "_law_tree_text" s__law_tree_text f fd) (b : Binds W.K fd ["_law_tree_here"] []) (m : mg "_law_tree_text" = some (.ref f)) : ∀ n, FnAt P w W mg base (0 + 1 * n) ("_law_tree_text", 1, d__law_tree_text n)
  | 0 => ⟨f, fd, ["_law_tree_here"], fnG_none (ps := ["_law_tree_here"]), m, F.kp, b⟩
  | n + 1 => by
    have ih := ok__law_tree_text B F b m   n
    have q : FnAt P w W mg base (0 + 1 * n + 0 + 1) ("_law_tree_text", 1, d__law_tree_text (n + 1)) := ⟨f, fd, ["_law_tree_here"], fn_den (G := g__law_tree_text n (d__law_tree_text n)) 40 F sc__law_tree_text rfl rfl rfl (gok_of (B _ _ _ _ _ _ _ _ _).1 (ob_of (B _ _ _ _ _ _ _ _ _).2 rfl rfl rfl rfl rfl trivial trivial trivial trivial trivial) rfl ⟨ih.mono (show 0 + 1 * n ≤ 0 + 1 * n + 0 by omega), trivial⟩), m, F.kp, b⟩
    exact q.mono (by omega)
theorem ok_is_so (B : AllB mg W) {f : Addr} {fd : FuncData} (F : Fun W.K "is_so" "is_so" s_is_so f fd) (b : Binds W.K fd ["tree", "names"] []) (m : mg "is_so" = some (.ref f)) : ∀ n, FnAt P w W mg base (0 + 1 * n) ("is_so", 2, d_is_so n)
  | 0 => ⟨f, fd, ["tree", "names"], fnG_none (ps := ["tree", "names"]), m, F.kp, b⟩
  | n + 1 => by
    have ih := ok_is_so B F b m   n
    have q : FnAt P w W mg base (0 + 1 * n + 0 + 1) ("is_so", 2, d_is_so (n + 1)) := ⟨f, fd, ["tree", "names"], fn_den (G := g_is_so n (d_is_so n)) 40 F sc_is_so rfl rfl rfl (gok_of (B _ _ _ _ _ _ _ _ _).1 (ob_of (B _ _ _ _ _ _ _ _ _).2 rfl rfl rfl rfl rfl trivial trivial trivial trivial trivial) rfl ⟨ih.mono (show 0 + 1 * n ≤ 0 + 1 * n + 0 by omega), trivial⟩), m, F.kp, b⟩
    exact q.mono (by omega)
theorem ok_is_ascending (B : AllB mg W) {f : Addr} {fd : FuncData} (F : Fun W.K "is_ascending" "is_ascending" s_is_ascending f fd) (b : Binds W.K fd ["values"] []) (m : mg "is_ascending" = some (.ref f)) : FnAt P w W mg base 1 ("is_ascending", 1, d_is_ascending) :=
  ⟨f, fd, ["values"], fn_den (G := g_is_ascending) 40 F sc_is_ascending rfl rfl rfl (gok_of (B _ _ _ _ _ _ _ _ _).1 (ob_of (B _ _ _ _ _ _ _ _ _).2 rfl rfl rfl rfl rfl trivial trivial trivial trivial trivial) rfl trivial), m, F.kp, b⟩
theorem ok_are_small (B : AllB mg W) {f : Addr} {fd : FuncData} (F : Fun W.K "are_small" "are_small" s_are_small f fd) (b : Binds W.K fd ["text"] []) (m : mg "are_small" = some (.ref f)) : FnAt P w W mg base 1 ("are_small", 1, d_are_small) :=
  ⟨f, fd, ["text"], fn_den (G := g_are_small) 40 F sc_are_small rfl rfl rfl (gok_of (B _ _ _ _ _ _ _ _ _).1 (ob_of (B _ _ _ _ _ _ _ _ _).2 rfl rfl rfl rfl rfl trivial trivial trivial trivial trivial) rfl trivial), m, F.kp, b⟩
theorem ok_is_name (B : AllB mg W) {f : Addr} {fd : FuncData} (F : Fun W.K "is_name" "is_name" s_is_name f fd) (b : Binds W.K fd ["value"] []) (m : mg "is_name" = some (.ref f)) (h0 : FnAt P w W mg base 1 ("are_small", 1, d_are_small)) : FnAt P w W mg base 2 ("is_name", 1, d_is_name) :=
  ⟨f, fd, ["value"], fn_den (G := g_is_name) 40 F sc_is_name rfl rfl rfl (gok_of (B _ _ _ _ _ _ _ _ _).1 (ob_of (B _ _ _ _ _ _ _ _ _).2 rfl rfl rfl rfl rfl trivial trivial trivial trivial trivial) rfl ⟨h0.mono (show 1 ≤ 1 by omega), trivial⟩), m, F.kp, b⟩
theorem ok_Formula_holds (B : AllB mg W) {f : Addr} {fd : FuncData} (F : Fun W.K "holds" "Formula.holds" s_Formula_holds f fd) (b : Binds W.K fd ["self", "names"] []) (c : Cls W.K (W.ca "Formula")) (q : Meth W.K (W.ca "Formula") "holds" f) (fi : PySem.W.fnIn W.K f = true) (h0 : FnAt P w W mg base 10 ("is_so", 2, (d_is_so 10))) (h1 : FnAt P w W mg base 1 ("is_ascending", 1, d_is_ascending)) (h2 : FnAt P w W mg base 2 ("is_name", 1, d_is_name)) : MAt P w W mg base 11 (("Formula", "holds"), 1, d_Formula_holds) :=
  ⟨f, fd, ["self", "names"], c, q, fn_den (G := g_Formula_holds) 40 F sc_Formula_holds rfl rfl rfl (gok_of (B _ _ _ _ _ _ _ _ _).1 (ob_of (B _ _ _ _ _ _ _ _ _).2 rfl rfl rfl rfl rfl trivial trivial trivial trivial trivial) rfl ⟨h0.mono (show 10 ≤ 10 by omega), h1.mono (show 1 ≤ 10 by omega), h2.mono (show 2 ≤ 10 by omega), trivial⟩), b, fi⟩
theorem ok_Formula_tree (B : AllB mg W) {f : Addr} {fd : FuncData} (F : Fun W.K "tree" "Formula.tree" s_Formula_tree f fd) (b : Binds W.K fd ["self"] []) {p : Addr} (c : Cls W.K (W.ca "Formula")) (q : PropOf W.K (W.ca "Formula") "tree" p f) : PAt P w W mg base 1 (("Formula", "tree"), d_Formula_tree) :=
  ⟨p, f, fd, ["self"], c, q, fn_den (G := g_Formula_tree) 40 F sc_Formula_tree rfl rfl rfl (gok_of (B _ _ _ _ _ _ _ _ _).1 (ob_of (B _ _ _ _ _ _ _ _ _).2 rfl rfl rfl rfl rfl trivial trivial trivial trivial trivial) rfl trivial), b⟩
theorem ok_Formula_names (B : AllB mg W) {f : Addr} {fd : FuncData} (F : Fun W.K "names" "Formula.names" s_Formula_names f fd) (b : Binds W.K fd ["self"] []) {p : Addr} (c : Cls W.K (W.ca "Formula")) (q : PropOf W.K (W.ca "Formula") "names" p f) : PAt P w W mg base 1 (("Formula", "names"), d_Formula_names) :=
  ⟨p, f, fd, ["self"], c, q, fn_den (G := g_Formula_names) 40 F sc_Formula_names rfl rfl rfl (gok_of (B _ _ _ _ _ _ _ _ _).1 (ob_of (B _ _ _ _ _ _ _ _ _).2 rfl rfl rfl rfl rfl trivial trivial trivial trivial trivial) rfl trivial), b⟩
theorem ok_trees_in (B : AllB mg W) {f : Addr} {fd : FuncData} (F : Fun W.K "trees_in" "trees_in" s_trees_in f fd) (b : Binds W.K fd ["tree"] []) (m : mg "trees_in" = some (.ref f)) : ∀ n, FnAt P w W mg base (0 + 1 * n) ("trees_in", 1, d_trees_in n)
  | 0 => ⟨f, fd, ["tree"], fnG_none (ps := ["tree"]), m, F.kp, b⟩
  | n + 1 => by
    have ih := ok_trees_in B F b m   n
    have q : FnAt P w W mg base (0 + 1 * n + 0 + 1) ("trees_in", 1, d_trees_in (n + 1)) := ⟨f, fd, ["tree"], fn_den (G := g_trees_in n (d_trees_in n)) 40 F sc_trees_in rfl rfl rfl (gok_of (B _ _ _ _ _ _ _ _ _).1 (ob_of (B _ _ _ _ _ _ _ _ _).2 rfl rfl rfl rfl rfl trivial trivial trivial trivial trivial) rfl ⟨ih.mono (show 0 + 1 * n ≤ 0 + 1 * n + 0 by omega), trivial⟩), m, F.kp, b⟩
    exact q.mono (by omega)
theorem ok_Formula___len__ (B : AllB mg W) {f : Addr} {fd : FuncData} (F : Fun W.K "__len__" "Formula.__len__" s_Formula___len__ f fd) (b : Binds W.K fd ["self"] []) (c : Cls W.K (W.ca "Formula")) (q : Meth W.K (W.ca "Formula") "__len__" f) (fi : PySem.W.fnIn W.K f = true) (h0 : FnAt P w W mg base 10 ("trees_in", 1, (d_trees_in 10))) : MAt P w W mg base 11 (("Formula", "__len__"), 0, d_Formula___len__) :=
  ⟨f, fd, ["self"], c, q, fn_den (G := g_Formula___len__) 40 F sc_Formula___len__ rfl rfl rfl (gok_of (B _ _ _ _ _ _ _ _ _).1 (ob_of (B _ _ _ _ _ _ _ _ _).2 rfl rfl rfl rfl rfl trivial trivial trivial trivial trivial) rfl ⟨h0.mono (show 10 ≤ 10 by omega), trivial⟩), b, fi⟩
theorem ok_text_of (B : AllB mg W) {f : Addr} {fd : FuncData} (F : Fun W.K "text_of" "text_of" s_text_of f fd) (b : Binds W.K fd ["tree"] []) (m : mg "text_of" = some (.ref f)) {f_part_text : Addr} {fd_part_text : FuncData} (F_part_text : Fun W.K "part_text" "part_text" s_part_text f_part_text fd_part_text) (b_part_text : Binds W.K fd_part_text ["tree"] []) (m_part_text : mg "part_text" = some (.ref f_part_text)) : ∀ n, FnAt P w W mg base (0 + 2 * n) ("text_of", 1, d_text_of n)
  | 0 => ⟨f, fd, ["tree"], fnG_none (ps := ["tree"]), m, F.kp, b⟩
  | n + 1 => by
    have ih := ok_text_of B F b m F_part_text b_part_text m_part_text  n
    have i0 : FnAt P w W mg base (0 + 2 * n + 0 + 1) ("part_text", 1, h_part_text n (d_text_of n)) := ⟨f_part_text, fd_part_text, ["tree"], fn_den (G := g_part_text n (d_text_of n)) 40 F_part_text sc_part_text rfl rfl rfl (gok_of (B _ _ _ _ _ _ _ _ _).1 (ob_of (B _ _ _ _ _ _ _ _ _).2 rfl rfl rfl rfl rfl trivial trivial trivial trivial trivial) rfl ⟨ih.mono (show 0 + 2 * n ≤ 0 + 2 * n + 0 by omega), trivial⟩), m_part_text, F_part_text.kp, b_part_text⟩
    have q : FnAt P w W mg base (0 + 2 * n + 1 + 1) ("text_of", 1, d_text_of (n + 1)) := ⟨f, fd, ["tree"], fn_den (G := g_text_of n (d_text_of n)) 40 F sc_text_of rfl rfl rfl (gok_of (B _ _ _ _ _ _ _ _ _).1 (ob_of (B _ _ _ _ _ _ _ _ _).2 rfl rfl rfl rfl rfl trivial trivial trivial trivial trivial) rfl ⟨i0.mono (show 0 + 2 * n + 0 + 1 ≤ 0 + 2 * n + 1 by omega), trivial⟩), m, F.kp, b⟩
    exact q.mono (by omega)
theorem ok_Formula___str__ (B : AllB mg W) {f : Addr} {fd : FuncData} (F : Fun W.K "__str__" "Formula.__str__" s_Formula___str__ f fd) (b : Binds W.K fd ["self"] []) (c : Cls W.K (W.ca "Formula")) (q : Meth W.K (W.ca "Formula") "__str__" f) (fi : PySem.W.fnIn W.K f = true) (h0 : FnAt P w W mg base 20 ("text_of", 1, (d_text_of 10))) : MAt P w W mg base 21 (("Formula", "__str__"), 0, d_Formula___str__) :=
  ⟨f, fd, ["self"], c, q, fn_den (G := g_Formula___str__) 40 F sc_Formula___str__ rfl rfl rfl (gok_of (B _ _ _ _ _ _ _ _ _).1 (ob_of (B _ _ _ _ _ _ _ _ _).2 rfl rfl rfl rfl rfl trivial trivial trivial trivial trivial) rfl ⟨h0.mono (show 20 ≤ 20 by omega), trivial⟩), b, fi⟩
theorem ok_Formula___call__ (B : AllB mg W) {f : Addr} {fd : FuncData} (F : Fun W.K "__call__" "Formula.__call__" s_Formula___call__ f fd) (b : Binds W.K fd ["self", "names"] []) (c : Cls W.K (W.ca "Formula")) (q : Meth W.K (W.ca "Formula") "__call__" f) (fi : PySem.W.fnIn W.K f = true) (h0 : MAt P w W mg base 11 (("Formula", "holds"), 1, d_Formula_holds)) : MAt P w W mg base 12 (("Formula", "__call__"), 1, d_Formula___call__) :=
  ⟨f, fd, ["self", "names"], c, q, fn_den (G := g_Formula___call__) 40 F sc_Formula___call__ rfl rfl rfl (gok_of (B _ _ _ _ _ _ _ _ _).1 (ob_of (B _ _ _ _ _ _ _ _ _).2 rfl rfl rfl rfl rfl ⟨⟨11, (show 11 + 0 ≤ 11 by omega), h0⟩, trivial⟩ trivial trivial trivial trivial) rfl trivial), b, fi⟩
theorem ok__law_told_right (B : AllB mg W) {f : Addr} {fd : FuncData} (F : Fun W.K "_law_told_right" "_law_told_right" s__law_told_right f fd) (b : Binds W.K fd ["_law_made", "_law_tree_here", "_law_words"] []) (m : mg "_law_told_right" = some (.ref f)) (h0 : FnAt P w W mg base 1 ("_law_sets_of", 1, d__law_sets_of)) (h1 : FnAt P w W mg base 10 ("_law_so", 2, (d__law_so 10))) (h2 : FnAt P w W mg base 10 ("_law_words_in", 1, (d__law_words_in 10))) (h3 : FnAt P w W mg base 10 ("_law_count", 1, (d__law_count 10))) (h4 : FnAt P w W mg base 10 ("_law_tree_text", 1, (d__law_tree_text 10))) (h5 : MAt P w W mg base 11 (("Formula", "holds"), 1, d_Formula_holds)) (h6 : MAt P w W mg base 11 (("Formula", "__len__"), 0, d_Formula___len__)) (h7 : MAt P w W mg base 21 (("Formula", "__str__"), 0, d_Formula___str__)) (h8 : MAt P w W mg base 12 (("Formula", "__call__"), 1, d_Formula___call__)) (h9 : PAt P w W mg base 1 (("Formula", "tree"), d_Formula_tree)) (h10 : PAt P w W mg base 1 (("Formula", "names"), d_Formula_names)) : FnAt P w W mg base 24 ("_law_told_right", 3, d__law_told_right) :=
  ⟨f, fd, ["_law_made", "_law_tree_here", "_law_words"], fn_den (G := g__law_told_right) 40 F sc__law_told_right rfl rfl rfl (gok_of (B _ _ _ _ _ _ _ _ _).1 (ob_of (B _ _ _ _ _ _ _ _ _).2 rfl rfl rfl rfl rfl ⟨⟨11, (show 11 + 0 ≤ 23 by omega), h5⟩, trivial⟩ ⟨⟨11, (show 11 + 2 ≤ 23 by omega), h6⟩, ⟨21, (show 21 + 2 ≤ 23 by omega), h7⟩, ⟨12, (show 12 + 2 ≤ 23 by omega), h8⟩, trivial⟩ ⟨⟨1, (show 1 + 1 ≤ 23 by omega), h9⟩, ⟨1, (show 1 + 1 ≤ 23 by omega), h10⟩, trivial⟩ trivial trivial) rfl ⟨h0.mono (show 1 ≤ 23 by omega), h1.mono (show 10 ≤ 23 by omega), h2.mono (show 10 ≤ 23 by omega), h3.mono (show 10 ≤ 23 by omega), h4.mono (show 10 ≤ 23 by omega), trivial⟩), m, F.kp, b⟩
theorem ok_is_free_name (B : AllB mg W) {f : Addr} {fd : FuncData} (F : Fun W.K "is_free_name" "is_free_name" s_is_free_name f fd) (b : Binds W.K fd ["value"] []) (m : mg "is_free_name" = some (.ref f)) (h0 : FnAt P w W mg base 2 ("is_name", 1, d_is_name)) : FnAt P w W mg base 3 ("is_free_name", 1, d_is_free_name) :=
  ⟨f, fd, ["value"], fn_den (G := g_is_free_name) 40 F sc_is_free_name rfl rfl rfl (gok_of (B _ _ _ _ _ _ _ _ _).1 (ob_of (B _ _ _ _ _ _ _ _ _).2 rfl rfl rfl rfl rfl trivial trivial trivial trivial trivial) rfl ⟨h0.mono (show 2 ≤ 2 by omega), trivial⟩), m, F.kp, b⟩
theorem ok_is_tree_within (B : AllB mg W) {f : Addr} {fd : FuncData} (F : Fun W.K "is_tree_within" "is_tree_within" s_is_tree_within f fd) (b : Binds W.K fd ["value", "deep"] []) (m : mg "is_tree_within" = some (.ref f)) (h0 : FnAt P w W mg base 3 ("is_free_name", 1, d_is_free_name)) : ∀ n, FnAt P w W mg base (3 + 1 * n) ("is_tree_within", 2, d_is_tree_within n)
  | 0 => ⟨f, fd, ["value", "deep"], fnG_none (ps := ["value", "deep"]), m, F.kp, b⟩
  | n + 1 => by
    have ih := ok_is_tree_within B F b m  h0 n
    have q : FnAt P w W mg base (3 + 1 * n + 0 + 1) ("is_tree_within", 2, d_is_tree_within (n + 1)) := ⟨f, fd, ["value", "deep"], fn_den (G := g_is_tree_within n (d_is_tree_within n)) 40 F sc_is_tree_within rfl rfl rfl (gok_of (B _ _ _ _ _ _ _ _ _).1 (ob_of (B _ _ _ _ _ _ _ _ _).2 rfl rfl rfl rfl rfl trivial trivial trivial trivial trivial) rfl ⟨h0.mono (show 3 ≤ 3 + 1 * n + 0 by omega), ih.mono (show 3 + 1 * n ≤ 3 + 1 * n + 0 by omega), trivial⟩), m, F.kp, b⟩
    exact q.mono (by omega)
theorem ok_names_in (B : AllB mg W) {f : Addr} {fd : FuncData} (F : Fun W.K "names_in" "names_in" s_names_in f fd) (b : Binds W.K fd ["tree"] []) (m : mg "names_in" = some (.ref f)) : ∀ n, FnAt P w W mg base (0 + 1 * n) ("names_in", 1, d_names_in n)
  | 0 => ⟨f, fd, ["tree"], fnG_none (ps := ["tree"]), m, F.kp, b⟩
  | n + 1 => by
    have ih := ok_names_in B F b m   n
    have q : FnAt P w W mg base (0 + 1 * n + 0 + 1) ("names_in", 1, d_names_in (n + 1)) := ⟨f, fd, ["tree"], fn_den (G := g_names_in n (d_names_in n)) 40 F sc_names_in rfl rfl rfl (gok_of (B _ _ _ _ _ _ _ _ _).1 (ob_of (B _ _ _ _ _ _ _ _ _).2 rfl rfl rfl rfl rfl trivial trivial trivial trivial trivial) rfl ⟨ih.mono (show 0 + 1 * n ≤ 0 + 1 * n + 0 by omega), trivial⟩), m, F.kp, b⟩
    exact q.mono (by omega)
theorem ok_Formula___init__ (B : AllB mg W) {f : Addr} {fd : FuncData} (F : Fun W.K "__init__" "Formula.__init__" s_Formula___init__ f fd) (b : Binds W.K fd ["self", "tree"] []) (m : mg "Formula" = some (.ref (W.ca "Formula"))) (q : L2.Mk W.K (W.ca "Formula") f) (h0 : FnAt P w W mg base 13 ("is_tree_within", 2, (d_is_tree_within 10))) (h1 : FnAt P w W mg base 10 ("names_in", 1, (d_names_in 10))) : IAt P w W mg base 14 ("Formula", 1, d_Formula___init__) :=
  ⟨m, f, fd, ["self", "tree"], q, fn_den (G := g_Formula___init__) 40 F sc_Formula___init__ rfl rfl rfl (gok_of (B _ _ _ _ _ _ _ _ _).1 (ob_of (B _ _ _ _ _ _ _ _ _).2 rfl rfl rfl rfl rfl trivial trivial trivial trivial trivial) rfl ⟨h0.mono (show 13 ≤ 13 by omega), h1.mono (show 10 ≤ 13 by omega), trivial⟩), b⟩
theorem ok_Formula_of (B : AllB mg W) {f : Addr} {fd : FuncData} (F : Fun W.K "of" "Formula.of" s_Formula_of f fd) (b : Binds W.K fd ["cls", "name"] []) {mc : Value} {p : Addr} (c : ClX.CRead W.K (W.ca "Formula") mc) (q : ClX.CMet W.K (W.ca "Formula") mc "of" p f) (h0 : FnAt P w W mg base 3 ("is_free_name", 1, d_is_free_name)) (h1 : IAt P w W mg base 14 ("Formula", 1, d_Formula___init__)) : CAt P w W mg base 16 (("Formula", "of"), 1, d_Formula_of) :=
  ⟨mc, p, f, fd, ["cls", "name"], c, q, fn_den (G := g_Formula_of) 40 F sc_Formula_of rfl rfl rfl (gok_of (B _ _ _ _ _ _ _ _ _).1 (ob_of (B _ _ _ _ _ _ _ _ _).2 rfl rfl rfl rfl rfl trivial trivial trivial ⟨⟨14, (show 14 + 1 ≤ 15 by omega), h1⟩, trivial⟩ trivial) rfl ⟨h0.mono (show 3 ≤ 15 by omega), trivial⟩), b⟩
theorem ok_Formula___eq__ (B : AllB mg W) {f : Addr} {fd : FuncData} (F : Fun W.K "__eq__" "Formula.__eq__" s_Formula___eq__ f fd) (b : Binds W.K fd ["self", "value"] []) (c : Cls W.K (W.ca "Formula")) (q : Meth W.K (W.ca "Formula") "__eq__" f) (fi : PySem.W.fnIn W.K f = true) : MAt P w W mg base 1 (("Formula", "__eq__"), 1, d_Formula___eq__) :=
  ⟨f, fd, ["self", "value"], c, q, fn_den (G := g_Formula___eq__) 40 F sc_Formula___eq__ rfl rfl rfl (gok_of (B _ _ _ _ _ _ _ _ _).1 (ob_of (B _ _ _ _ _ _ _ _ _).2 rfl rfl rfl rfl rfl trivial trivial trivial trivial trivial) rfl trivial), b, fi⟩
theorem ok__law_right (B : AllB mg W) {f : Addr} {fd : FuncData} (F : Fun W.K "_law_right" "_law_right" s__law_right f fd) (b : Binds W.K fd ["_law_pot_here"] []) (m : mg "_law_right" = some (.ref f)) (h0 : FnAt P w W mg base 12 ("_law_tree", 3, (d__law_tree 10))) (h1 : FnAt P w W mg base 2 ("_law_dealt", 2, d__law_dealt)) (h2 : FnAt P w W mg base 24 ("_law_told_right", 3, d__law_told_right)) (h3 : FnAt P w W mg base 1 ("_law_bit", 2, d__law_bit)) (h4 : MAt P w W mg base 1 (("Formula", "__eq__"), 1, d_Formula___eq__)) (h5 : MAt P w W mg base 21 (("Formula", "__str__"), 0, d_Formula___str__)) (h6 : IAt P w W mg base 14 ("Formula", 1, d_Formula___init__)) (h7 : CAt P w W mg base 16 (("Formula", "of"), 1, d_Formula_of)) : FnAt P w W mg base 25 ("_law_right", 1, d__law_right) :=
  ⟨f, fd, ["_law_pot_here"], fn_den (G := g__law_right) 40 F sc__law_right rfl rfl rfl (gok_of (B _ _ _ _ _ _ _ _ _).1 (ob_of (B _ _ _ _ _ _ _ _ _).2 rfl rfl rfl rfl rfl trivial ⟨⟨1, (show 1 + 2 ≤ 24 by omega), h4⟩, ⟨21, (show 21 + 2 ≤ 24 by omega), h5⟩, trivial⟩ trivial ⟨⟨14, (show 14 + 1 ≤ 24 by omega), h6⟩, trivial⟩ ⟨⟨16, (show 16 + 0 ≤ 24 by omega), h7⟩, trivial⟩) rfl ⟨h0.mono (show 12 ≤ 24 by omega), h1.mono (show 2 ≤ 24 by omega), h2.mono (show 24 ≤ 24 by omega), h3.mono (show 1 ≤ 24 by omega), trivial⟩), m, F.kp, b⟩
theorem ok__law_pot (B : AllB mg W) {f : Addr} {fd : FuncData} (F : Fun W.K "_law_pot" "_law_pot" s__law_pot f fd) (b : Binds W.K fd ["_law_script", "_law_at"] []) (m : mg "_law_pot" = some (.ref f)) : FnAt P w W mg base 1 ("_law_pot", 2, d__law_pot) :=
  ⟨f, fd, ["_law_script", "_law_at"], fn_den (G := g__law_pot) 40 F sc__law_pot rfl rfl rfl (gok_of (B _ _ _ _ _ _ _ _ _).1 (ob_of (B _ _ _ _ _ _ _ _ _).2 rfl rfl rfl rfl rfl trivial trivial trivial trivial trivial) rfl trivial), m, F.kp, b⟩
theorem ok_law (B : AllB mg W) {f : Addr} {fd : FuncData} (F : Fun W.K "law" "law" s_law f fd) (b : Binds W.K fd ["_law_script"] []) (m : mg "law" = some (.ref f)) (h0 : FnAt P w W mg base 25 ("_law_right", 1, d__law_right)) (h1 : FnAt P w W mg base 1 ("_law_pot", 2, d__law_pot)) (h2 : MAt P w W mg base 11 (("Formula", "holds"), 1, d_Formula_holds)) (h3 : MAt P w W mg base 21 (("Formula", "__str__"), 0, d_Formula___str__)) (h4 : MAt P w W mg base 11 (("Formula", "__len__"), 0, d_Formula___len__)) (h5 : IAt P w W mg base 14 ("Formula", 1, d_Formula___init__)) : FnAt P w W mg base 26 ("law", 1, d_law) :=
  ⟨f, fd, ["_law_script"], fn_den (G := g_law) 40 F sc_law rfl rfl rfl (gok_of (B _ _ _ _ _ _ _ _ _).1 (ob_of (B _ _ _ _ _ _ _ _ _).2 rfl rfl rfl rfl rfl ⟨⟨11, (show 11 + 0 ≤ 25 by omega), h2⟩, trivial⟩ ⟨⟨21, (show 21 + 2 ≤ 25 by omega), h3⟩, ⟨11, (show 11 + 2 ≤ 25 by omega), h4⟩, trivial⟩ trivial ⟨⟨14, (show 14 + 1 ≤ 25 by omega), h5⟩, trivial⟩ trivial) rfl ⟨h0.mono (show 25 ≤ 25 by omega), h1.mono (show 1 ≤ 25 by omega), trivial⟩), m, F.kp, b⟩
end
set_option maxHeartbeats 0 in
theorem all_mk {l : PySem.W.OpenLaw} {w : World} {K : PySem.W.Frag} {h : Heap} {mg : Str → Option Value} {fa : Addr} {CF0 CX0 CX1 CX2 f0 f1 f2 f3 f4 f5 f6 f7 f8 f9 f10 f11 f12 f13 f14 p14 f15 p15 f16 f17 f18 f19 f20 f21 f22 f23 f24 f25 f26 f27 p27 f28 f29 f30 f31 wa3 : Addr} {od0 an0 od1 an1 od2 an2 od3 an3 od4 an4 od5 an5 od6 an6 od7 an7 od8 an8 od9 an9 od10 an10 od11 an11 od12 an12 od13 an13 od14 an14 od15 an15 od16 an16 od17 an17 od18 an18 od19 an19 od20 an20 od21 an21 od22 an22 od23 an23 od24 an24 od25 an25 od26 an26 od27 an27 od28 an28 od29 an29 od30 an30 od31 an31 wd3 : Option Addr} {sl0 sl1 sl2 sl3 sl4 sl5 sl6 sl7 sl8 sl9 sl10 sl11 sl12 sl13 sl14 sl15 sl16 sl17 sl18 sl19 sl20 sl21 sl22 sl23 sl24 sl25 sl26 sl27 sl28 sl29 sl30 sl31 ws3 : Array (Option Value)} {oc0 kV0 dc0 pm0 cd0 ct0 oc1 kV1 dc1 pm1 cd1 ct1 oc2 kV2 dc2 pm2 cd2 ct2 oc3 kV3 dc3 pm3 cd3 ct3 oc4 kV4 dc4 pm4 cd4 ct4 oc5 kV5 dc5 pm5 cd5 ct5 oc6 kV6 dc6 pm6 cd6 ct6 oc7 kV7 dc7 pm7 cd7 ct7 oc8 kV8 dc8 pm8 cd8 ct8 oc9 kV9 dc9 pm9 cd9 ct9 oc10 kV10 dc10 pm10 cd10 ct10 oc11 kV11 dc11 pm11 cd11 ct11 oc12 kV12 dc12 pm12 cd12 ct12 oc13 kV13 dc13 pm13 cd13 ct13 oc14 kV14 dc14 pm14 cd14 ct14 oc15 kV15 dc15 pm15 cd15 ct15 oc16 kV16 dc16 pm16 cd16 ct16 oc17 kV17 dc17 pm17 cd17 ct17 oc18 kV18 dc18 pm18 cd18 ct18 oc19 kV19 dc19 pm19 cd19 ct19 oc20 kV20 dc20 pm20 cd20 ct20 oc21 kV21 dc21 pm21 cd21 ct21 oc22 kV22 dc22 pm22 cd22 ct22 oc23 kV23 dc23 pm23 cd23 ct23 oc24 kV24 dc24 pm24 cd24 ct24 oc25 kV25 dc25 pm25 cd25 ct25 oc26 kV26 dc26 pm26 cd26 ct26 oc27 kV27 dc27 pm27 cd27 ct27 oc28 kV28 dc28 pm28 cd28 ct28 oc29 kV29 dc29 pm29 cd29 ct29 oc30 kV30 dc30 pm30 cd30 ct30 oc31 kV31 dc31 pm31 cd31 ct31 : Value} {t0 t1 t2 t3_0 t3_1 t3_2 t3_3 t3_4 t4 t5 t6 t7 t8 t9 : Tok} {wn3 : Nat} {r14 r15 r27 : List Value} (X : K.In h) (H : h.Ns mainGlobals mg) (hfa : mg "law" = some (.ref fa))
    (cnCF0 : PySem.W.nsIn K mainGlobals "Formula" = some (some (.ref CF0)))
    (pgCF0 : PySem.W.plainGet K CF0 Str.empty = true)
    (hdCF0 : PySem.W.hasDictIn K CF0 = true)
    (poCF0 : PySem.W.plainOver K CF0 = true)
    (saCF0 : PySem.W.findIn K (.ref CF0) "__setattr__" = some (some (.builtin "object.__setattr__")))
    (mkCF0 : PySem.W.makesIn K CF0 = true)
    (kpCF0 : PySem.W.keepIn K (.ref CF0) = true)
    (nfCF0own_tree : PySem.W.findIn K (.ref CF0) "own_tree" = some none)
    (nfCF0own_names : PySem.W.findIn K (.ref CF0) "own_names" = some none)
    (haCF0 : PySem.W.findIn K (.ref CF0) "__class__" = some (some (.builtin "object.__class__")))
    (hnCF0 : PySem.W.specialIn K (.builtin "object.__class__") "__get__" = some (some (.builtin "getset_descriptor.__get__")))
    (htCF0 : PySem.W.takesIn K (.builtin "object.__class__") = some true)
    (hmCF0 : PySem.W.mroIn K CF0 (.type "object") = some true)
    (icCF0 : PySem.W.isClsIn K CF0 = true)
    (tcCF0 : PySem.W.typeIn K (.ref CF0) = some (.type "type"))
    (neCF0 : PySem.W.findIn K (.ref CF0) "__ne__" = some (some (.builtin "object.__ne__")))
    (rdCF0 : PySem.W.readsIn K CF0 (.type "type") = true)
    (gtCF0 : PySem.W.specialIn K (.ref CF0) "__getattribute__" = some (some (.builtin "type.__getattribute__")))
    (a0 : PySem.W.nsIn K mainGlobals "_law_bit" = some (some (.ref f0)))
    (l0 : K.lookup f0 = some ⟨oc0, od0, .func (PySem.W.fnOf "_law_bit" "_law_bit" (defArgs s__law_bit) (defBody s__law_bit) (defScope s__law_bit) .none kV0 dc0 pm0 an0 cd0 ct0), sl0⟩)
    (c0 : PySem.W.codeIn K cd0 "_law_bit" = true)
    (k0 : PySem.W.keepIn K (.ref f0) = true)
    (a1 : PySem.W.nsIn K mainGlobals "_law_pick" = some (some (.ref f1)))
    (l1 : K.lookup f1 = some ⟨oc1, od1, .func (PySem.W.fnOf "_law_pick" "_law_pick" (defArgs s__law_pick) (defBody s__law_pick) (defScope s__law_pick) .none kV1 dc1 pm1 an1 cd1 ct1), sl1⟩)
    (c1 : PySem.W.codeIn K cd1 "_law_pick" = true)
    (k1 : PySem.W.keepIn K (.ref f1) = true)
    (a2 : PySem.W.nsIn K mainGlobals "_law_tree" = some (some (.ref f2)))
    (l2 : K.lookup f2 = some ⟨oc2, od2, .func (PySem.W.fnOf "_law_tree" "_law_tree" (defArgs s__law_tree) (defBody s__law_tree) (defScope s__law_tree) .none kV2 dc2 pm2 an2 cd2 ct2), sl2⟩)
    (c2 : PySem.W.codeIn K cd2 "_law_tree" = true)
    (k2 : PySem.W.keepIn K (.ref f2) = true)
    (a3 : PySem.W.nsIn K mainGlobals "_law_dealt" = some (some (.ref f3)))
    (l3 : K.lookup f3 = some ⟨oc3, od3, .func (PySem.W.fnOf "_law_dealt" "_law_dealt" (defArgs s__law_dealt) (defBody s__law_dealt) (defScope s__law_dealt) .none kV3 dc3 pm3 an3 cd3 ct3), sl3⟩)
    (c3 : PySem.W.codeIn K cd3 "_law_dealt" = true)
    (k3 : PySem.W.keepIn K (.ref f3) = true)
    (a4 : PySem.W.nsIn K mainGlobals "_law_sets_of" = some (some (.ref f4)))
    (l4 : K.lookup f4 = some ⟨oc4, od4, .func (PySem.W.fnOf "_law_sets_of" "_law_sets_of" (defArgs s__law_sets_of) (defBody s__law_sets_of) (defScope s__law_sets_of) .none kV4 dc4 pm4 an4 cd4 ct4), sl4⟩)
    (c4 : PySem.W.codeIn K cd4 "_law_sets_of" = true)
    (k4 : PySem.W.keepIn K (.ref f4) = true)
    (a5 : PySem.W.nsIn K mainGlobals "_law_so" = some (some (.ref f5)))
    (l5 : K.lookup f5 = some ⟨oc5, od5, .func (PySem.W.fnOf "_law_so" "_law_so" (defArgs s__law_so) (defBody s__law_so) (defScope s__law_so) .none kV5 dc5 pm5 an5 cd5 ct5), sl5⟩)
    (c5 : PySem.W.codeIn K cd5 "_law_so" = true)
    (k5 : PySem.W.keepIn K (.ref f5) = true)
    (a6 : PySem.W.nsIn K mainGlobals "_law_words_in" = some (some (.ref f6)))
    (l6 : K.lookup f6 = some ⟨oc6, od6, .func (PySem.W.fnOf "_law_words_in" "_law_words_in" (defArgs s__law_words_in) (defBody s__law_words_in) (defScope s__law_words_in) .none kV6 dc6 pm6 an6 cd6 ct6), sl6⟩)
    (c6 : PySem.W.codeIn K cd6 "_law_words_in" = true)
    (k6 : PySem.W.keepIn K (.ref f6) = true)
    (a7 : PySem.W.nsIn K mainGlobals "_law_count" = some (some (.ref f7)))
    (l7 : K.lookup f7 = some ⟨oc7, od7, .func (PySem.W.fnOf "_law_count" "_law_count" (defArgs s__law_count) (defBody s__law_count) (defScope s__law_count) .none kV7 dc7 pm7 an7 cd7 ct7), sl7⟩)
    (c7 : PySem.W.codeIn K cd7 "_law_count" = true)
    (k7 : PySem.W.keepIn K (.ref f7) = true)
    (a8 : PySem.W.nsIn K mainGlobals "_law_tree_text" = some (some (.ref f8)))
    (l8 : K.lookup f8 = some ⟨oc8, od8, .func (PySem.W.fnOf "_law_tree_text" "_law_tree_text" (defArgs s__law_tree_text) (defBody s__law_tree_text) (defScope s__law_tree_text) .none kV8 dc8 pm8 an8 cd8 ct8), sl8⟩)
    (c8 : PySem.W.codeIn K cd8 "_law_tree_text" = true)
    (k8 : PySem.W.keepIn K (.ref f8) = true)
    (a9 : PySem.W.nsIn K mainGlobals "is_so" = some (some (.ref f9)))
    (l9 : K.lookup f9 = some ⟨oc9, od9, .func (PySem.W.fnOf "is_so" "is_so" (defArgs s_is_so) (defBody s_is_so) (defScope s_is_so) .none kV9 dc9 pm9 an9 cd9 ct9), sl9⟩)
    (c9 : PySem.W.codeIn K cd9 "is_so" = true)
    (k9 : PySem.W.keepIn K (.ref f9) = true)
    (a10 : PySem.W.nsIn K mainGlobals "is_ascending" = some (some (.ref f10)))
    (l10 : K.lookup f10 = some ⟨oc10, od10, .func (PySem.W.fnOf "is_ascending" "is_ascending" (defArgs s_is_ascending) (defBody s_is_ascending) (defScope s_is_ascending) .none kV10 dc10 pm10 an10 cd10 ct10), sl10⟩)
    (c10 : PySem.W.codeIn K cd10 "is_ascending" = true)
    (k10 : PySem.W.keepIn K (.ref f10) = true)
    (a11 : PySem.W.nsIn K mainGlobals "are_small" = some (some (.ref f11)))
    (l11 : K.lookup f11 = some ⟨oc11, od11, .func (PySem.W.fnOf "are_small" "are_small" (defArgs s_are_small) (defBody s_are_small) (defScope s_are_small) .none kV11 dc11 pm11 an11 cd11 ct11), sl11⟩)
    (c11 : PySem.W.codeIn K cd11 "are_small" = true)
    (k11 : PySem.W.keepIn K (.ref f11) = true)
    (a12 : PySem.W.nsIn K mainGlobals "is_name" = some (some (.ref f12)))
    (l12 : K.lookup f12 = some ⟨oc12, od12, .func (PySem.W.fnOf "is_name" "is_name" (defArgs s_is_name) (defBody s_is_name) (defScope s_is_name) .none kV12 dc12 pm12 an12 cd12 ct12), sl12⟩)
    (c12 : PySem.W.codeIn K cd12 "is_name" = true)
    (k12 : PySem.W.keepIn K (.ref f12) = true)
    (a13 : PySem.W.findIn K (.ref CF0) "holds" = some (some (.ref f13)))
    (l13 : K.lookup f13 = some ⟨oc13, od13, .func (PySem.W.fnOf "holds" "Formula.holds" (defArgs s_Formula_holds) (defBody s_Formula_holds) (defScope s_Formula_holds) .none kV13 dc13 pm13 an13 cd13 ct13), sl13⟩)
    (c13 : PySem.W.codeIn K cd13 "Formula.holds" = true)
    (k13 : PySem.W.keepIn K (.ref f13) = true)
    (i13 : PySem.W.isFn K (.ref f13) = true)
    (pa14 : PySem.W.findIn K (.ref CF0) "tree" = some (some (.ref p14)))
    (pb14 : PySem.W.specialIn K (.ref p14) "__get__" = some (some (.builtin "property.__get__")))
    (pc14 : PySem.W.takesIn K (.ref p14) = some true)
    (pd14 : PySem.W.recIn K p14 "property" = some (.ref f14 :: r14))
    (l14 : K.lookup f14 = some ⟨oc14, od14, .func (PySem.W.fnOf "tree" "Formula.tree" (defArgs s_Formula_tree) (defBody s_Formula_tree) (defScope s_Formula_tree) .none kV14 dc14 pm14 an14 cd14 ct14), sl14⟩)
    (c14 : PySem.W.codeIn K cd14 "Formula.tree" = true)
    (k14 : PySem.W.keepIn K (.ref f14) = true)
    (pa15 : PySem.W.findIn K (.ref CF0) "names" = some (some (.ref p15)))
    (pb15 : PySem.W.specialIn K (.ref p15) "__get__" = some (some (.builtin "property.__get__")))
    (pc15 : PySem.W.takesIn K (.ref p15) = some true)
    (pd15 : PySem.W.recIn K p15 "property" = some (.ref f15 :: r15))
    (l15 : K.lookup f15 = some ⟨oc15, od15, .func (PySem.W.fnOf "names" "Formula.names" (defArgs s_Formula_names) (defBody s_Formula_names) (defScope s_Formula_names) .none kV15 dc15 pm15 an15 cd15 ct15), sl15⟩)
    (c15 : PySem.W.codeIn K cd15 "Formula.names" = true)
    (k15 : PySem.W.keepIn K (.ref f15) = true)
    (a16 : PySem.W.nsIn K mainGlobals "trees_in" = some (some (.ref f16)))
    (l16 : K.lookup f16 = some ⟨oc16, od16, .func (PySem.W.fnOf "trees_in" "trees_in" (defArgs s_trees_in) (defBody s_trees_in) (defScope s_trees_in) .none kV16 dc16 pm16 an16 cd16 ct16), sl16⟩)
    (c16 : PySem.W.codeIn K cd16 "trees_in" = true)
    (k16 : PySem.W.keepIn K (.ref f16) = true)
    (a17 : PySem.W.findIn K (.ref CF0) "__len__" = some (some (.ref f17)))
    (l17 : K.lookup f17 = some ⟨oc17, od17, .func (PySem.W.fnOf "__len__" "Formula.__len__" (defArgs s_Formula___len__) (defBody s_Formula___len__) (defScope s_Formula___len__) .none kV17 dc17 pm17 an17 cd17 ct17), sl17⟩)
    (c17 : PySem.W.codeIn K cd17 "Formula.__len__" = true)
    (k17 : PySem.W.keepIn K (.ref f17) = true)
    (i17 : PySem.W.isFn K (.ref f17) = true)
    (a18 : PySem.W.nsIn K mainGlobals "part_text" = some (some (.ref f18)))
    (l18 : K.lookup f18 = some ⟨oc18, od18, .func (PySem.W.fnOf "part_text" "part_text" (defArgs s_part_text) (defBody s_part_text) (defScope s_part_text) .none kV18 dc18 pm18 an18 cd18 ct18), sl18⟩)
    (c18 : PySem.W.codeIn K cd18 "part_text" = true)
    (k18 : PySem.W.keepIn K (.ref f18) = true)
    (a19 : PySem.W.nsIn K mainGlobals "text_of" = some (some (.ref f19)))
    (l19 : K.lookup f19 = some ⟨oc19, od19, .func (PySem.W.fnOf "text_of" "text_of" (defArgs s_text_of) (defBody s_text_of) (defScope s_text_of) .none kV19 dc19 pm19 an19 cd19 ct19), sl19⟩)
    (c19 : PySem.W.codeIn K cd19 "text_of" = true)
    (k19 : PySem.W.keepIn K (.ref f19) = true)
    (a20 : PySem.W.findIn K (.ref CF0) "__str__" = some (some (.ref f20)))
    (l20 : K.lookup f20 = some ⟨oc20, od20, .func (PySem.W.fnOf "__str__" "Formula.__str__" (defArgs s_Formula___str__) (defBody s_Formula___str__) (defScope s_Formula___str__) .none kV20 dc20 pm20 an20 cd20 ct20), sl20⟩)
    (c20 : PySem.W.codeIn K cd20 "Formula.__str__" = true)
    (k20 : PySem.W.keepIn K (.ref f20) = true)
    (i20 : PySem.W.isFn K (.ref f20) = true)
    (a21 : PySem.W.findIn K (.ref CF0) "__call__" = some (some (.ref f21)))
    (l21 : K.lookup f21 = some ⟨oc21, od21, .func (PySem.W.fnOf "__call__" "Formula.__call__" (defArgs s_Formula___call__) (defBody s_Formula___call__) (defScope s_Formula___call__) .none kV21 dc21 pm21 an21 cd21 ct21), sl21⟩)
    (c21 : PySem.W.codeIn K cd21 "Formula.__call__" = true)
    (k21 : PySem.W.keepIn K (.ref f21) = true)
    (i21 : PySem.W.isFn K (.ref f21) = true)
    (a22 : PySem.W.nsIn K mainGlobals "_law_told_right" = some (some (.ref f22)))
    (l22 : K.lookup f22 = some ⟨oc22, od22, .func (PySem.W.fnOf "_law_told_right" "_law_told_right" (defArgs s__law_told_right) (defBody s__law_told_right) (defScope s__law_told_right) .none kV22 dc22 pm22 an22 cd22 ct22), sl22⟩)
    (c22 : PySem.W.codeIn K cd22 "_law_told_right" = true)
    (k22 : PySem.W.keepIn K (.ref f22) = true)
    (a23 : PySem.W.nsIn K mainGlobals "is_free_name" = some (some (.ref f23)))
    (l23 : K.lookup f23 = some ⟨oc23, od23, .func (PySem.W.fnOf "is_free_name" "is_free_name" (defArgs s_is_free_name) (defBody s_is_free_name) (defScope s_is_free_name) .none kV23 dc23 pm23 an23 cd23 ct23), sl23⟩)
    (c23 : PySem.W.codeIn K cd23 "is_free_name" = true)
    (k23 : PySem.W.keepIn K (.ref f23) = true)
    (a24 : PySem.W.nsIn K mainGlobals "is_tree_within" = some (some (.ref f24)))
    (l24 : K.lookup f24 = some ⟨oc24, od24, .func (PySem.W.fnOf "is_tree_within" "is_tree_within" (defArgs s_is_tree_within) (defBody s_is_tree_within) (defScope s_is_tree_within) .none kV24 dc24 pm24 an24 cd24 ct24), sl24⟩)
    (c24 : PySem.W.codeIn K cd24 "is_tree_within" = true)
    (k24 : PySem.W.keepIn K (.ref f24) = true)
    (a25 : PySem.W.nsIn K mainGlobals "names_in" = some (some (.ref f25)))
    (l25 : K.lookup f25 = some ⟨oc25, od25, .func (PySem.W.fnOf "names_in" "names_in" (defArgs s_names_in) (defBody s_names_in) (defScope s_names_in) .none kV25 dc25 pm25 an25 cd25 ct25), sl25⟩)
    (c25 : PySem.W.codeIn K cd25 "names_in" = true)
    (k25 : PySem.W.keepIn K (.ref f25) = true)
    (a26 : PySem.W.findIn K (.ref CF0) "__init__" = some (some (.ref f26)))
    (l26 : K.lookup f26 = some ⟨oc26, od26, .func (PySem.W.fnOf "__init__" "Formula.__init__" (defArgs s_Formula___init__) (defBody s_Formula___init__) (defScope s_Formula___init__) .none kV26 dc26 pm26 an26 cd26 ct26), sl26⟩)
    (c26 : PySem.W.codeIn K cd26 "Formula.__init__" = true)
    (k26 : PySem.W.keepIn K (.ref f26) = true)
    (i26 : PySem.W.isFn K (.ref f26) = true)
    (pa27 : PySem.W.findCls K (.ref CF0) (.type "type") "of" = some (.get (.builtin "classmethod.__get__") (.ref p27) .none (.ref CF0)))
    (pd27 : PySem.W.recIn K p27 "classmethod" = some (.ref f27 :: r27))
    (l27 : K.lookup f27 = some ⟨oc27, od27, .func (PySem.W.fnOf "of" "Formula.of" (defArgs s_Formula_of) (defBody s_Formula_of) (defScope s_Formula_of) .none kV27 dc27 pm27 an27 cd27 ct27), sl27⟩)
    (c27 : PySem.W.codeIn K cd27 "Formula.of" = true)
    (k27 : PySem.W.keepIn K (.ref f27) = true)
    (a28 : PySem.W.findIn K (.ref CF0) "__eq__" = some (some (.ref f28)))
    (l28 : K.lookup f28 = some ⟨oc28, od28, .func (PySem.W.fnOf "__eq__" "Formula.__eq__" (defArgs s_Formula___eq__) (defBody s_Formula___eq__) (defScope s_Formula___eq__) .none kV28 dc28 pm28 an28 cd28 ct28), sl28⟩)
    (c28 : PySem.W.codeIn K cd28 "Formula.__eq__" = true)
    (k28 : PySem.W.keepIn K (.ref f28) = true)
    (i28 : PySem.W.isFn K (.ref f28) = true)
    (a29 : PySem.W.nsIn K mainGlobals "_law_right" = some (some (.ref f29)))
    (l29 : K.lookup f29 = some ⟨oc29, od29, .func (PySem.W.fnOf "_law_right" "_law_right" (defArgs s__law_right) (defBody s__law_right) (defScope s__law_right) .none kV29 dc29 pm29 an29 cd29 ct29), sl29⟩)
    (c29 : PySem.W.codeIn K cd29 "_law_right" = true)
    (k29 : PySem.W.keepIn K (.ref f29) = true)
    (a30 : PySem.W.nsIn K mainGlobals "_law_pot" = some (some (.ref f30)))
    (l30 : K.lookup f30 = some ⟨oc30, od30, .func (PySem.W.fnOf "_law_pot" "_law_pot" (defArgs s__law_pot) (defBody s__law_pot) (defScope s__law_pot) .none kV30 dc30 pm30 an30 cd30 ct30), sl30⟩)
    (c30 : PySem.W.codeIn K cd30 "_law_pot" = true)
    (k30 : PySem.W.keepIn K (.ref f30) = true)
    (a31 : PySem.W.nsIn K mainGlobals "law" = some (some (.ref f31)))
    (l31 : K.lookup f31 = some ⟨oc31, od31, .func (PySem.W.fnOf "law" "law" (defArgs s_law) (defBody s_law) (defScope s_law) .none kV31 dc31 pm31 an31 cd31 ct31), sl31⟩)
    (c31 : PySem.W.codeIn K cd31 "law" = true)
    (k31 : PySem.W.keepIn K (.ref f31) = true)
    (u0 : PySem.W.nsIn K mainGlobals "MAX_LETTERS" = some (some (.int 8 t0)))
    (u1 : PySem.W.nsIn K mainGlobals "MAX_NAMES" = some (some (.int 4 t1)))
    (u2 : PySem.W.nsIn K mainGlobals "MAX_DEPTH" = some (some (.int 8 t2)))
    (u3 : PySem.W.nsIn K mainGlobals "WORDS" = some (some (.ref wa3)))
    (v3 : K.lookup wa3 = some ⟨.type "tuple", wd3, .seq #[.str "all" t3_0, .str "and" t3_1, .str "none" t3_2, .str "not" t3_3, .str "or" t3_4] wn3, ws3⟩)
    (u4 : PySem.W.nsIn K mainGlobals "ALL" = some (some (.str "all" t4)))
    (u5 : PySem.W.nsIn K mainGlobals "AND" = some (some (.str "and" t5)))
    (u6 : PySem.W.nsIn K mainGlobals "NONE" = some (some (.str "none" t6)))
    (u7 : PySem.W.nsIn K mainGlobals "NOT" = some (some (.str "not" t7)))
    (u8 : PySem.W.nsIn K mainGlobals "OR" = some (some (.str "or" t8)))
    (u9 : PySem.W.nsIn K mainGlobals "NAME" = some (some (.str "name" t9)))
    (z0 : PySem.W.nsIn K mainGlobals "abs" = some none)
    (z1 : PySem.W.nsIn K mainGlobals "all" = some none)
    (z2 : PySem.W.nsIn K mainGlobals "classmethod" = some none)
    (z3 : PySem.W.nsIn K mainGlobals "int" = some none)
    (z4 : PySem.W.nsIn K mainGlobals "isinstance" = some none)
    (z5 : PySem.W.nsIn K mainGlobals "len" = some none)
    (z6 : PySem.W.nsIn K mainGlobals "list" = some none)
    (z7 : PySem.W.nsIn K mainGlobals "max" = some none)
    (z8 : PySem.W.nsIn K mainGlobals "min" = some none)
    (z9 : PySem.W.nsIn K mainGlobals "property" = some none)
    (z10 : PySem.W.nsIn K mainGlobals "range" = some none)
    (z11 : PySem.W.nsIn K mainGlobals "repr" = some none)
    (z12 : PySem.W.nsIn K mainGlobals "set" = some none)
    (z13 : PySem.W.nsIn K mainGlobals "sorted" = some none)
    (z14 : PySem.W.nsIn K mainGlobals "str" = some none)
    (z15 : PySem.W.nsIn K mainGlobals "sum" = some none)
    (z16 : PySem.W.nsIn K mainGlobals "tuple" = some none)
    (z17 : PySem.W.nsIn K mainGlobals "zip" = some none)
    (xa0 : PySem.W.nsIn K mainGlobals "InvalidName" = some (some (.ref CX0)))
    (xk0 : PySem.W.keepIn K (.ref CX0) = true)
    (xe0 : PySem.W.excIn K CX0 [.type "ValueError", .type "Exception", .type "BaseException", .type "object"] "ValueError.__new__" = true)
    (xs0 : PySem.W.subIn K (.ref CX0) (.type "BaseException") = some true)
    (xt0 : PySem.W.typeIn K (.ref CX0) = some (.type "type"))
    (xa1 : PySem.W.nsIn K mainGlobals "InvalidFormula" = some (some (.ref CX1)))
    (xk1 : PySem.W.keepIn K (.ref CX1) = true)
    (xe1 : PySem.W.excIn K CX1 [.type "ValueError", .type "Exception", .type "BaseException", .type "object"] "ValueError.__new__" = true)
    (xs1 : PySem.W.subIn K (.ref CX1) (.type "BaseException") = some true)
    (xt1 : PySem.W.typeIn K (.ref CX1) = some (.type "type"))
    (xa2 : PySem.W.nsIn K mainGlobals "InvalidOperation" = some (some (.ref CX2)))
    (xk2 : PySem.W.keepIn K (.ref CX2) = true)
    (xe2 : PySem.W.excIn K CX2 [.type "ValueError", .type "Exception", .type "BaseException", .type "object"] "ValueError.__new__" = true)
    (xs2 : PySem.W.subIn K (.ref CX2) (.type "BaseException") = some true)
    (xt2 : PySem.W.typeIn K (.ref CX2) = some (.type "type"))
    : ∃ (W : Wd) (fd : FuncData), W.K = K ∧ (∀ (s : Shared) (u : Value), BindsTo s fd ⟨[u], []⟩ [("_law_script", u)]) ∧ ∀ base : Heap, FnG l.prog w K mg base 26 fa fd ["_law_script"] (spOf W 1 d_law) := by
  have e := hfa.symm.trans (PySem.W.mg_of X H a31)
  cases e
  let W : Wd := ⟨K, fun x => if x = "InvalidName" then CX0 else if x = "InvalidFormula" then CX1 else if x = "InvalidOperation" then CX2 else CF0⟩
  have clCF0 : Cls W.K (W.ca "Formula") := ⟨pgCF0, hdCF0, poCF0, saCF0⟩
  have B : AllB mg W := fun st N k fs ms ds pr mk cm => by
    refine ⟨⟨fun x d hx => ?_, fun x hx => ?_, fun x hx => ?_, fun c x b hx => nomatch hx⟩, ⟨fun C f hx => ?_, fun C hx => ?_, fun C hx => ?_, fun C D b hx => ?_⟩⟩
    · have hm := mem_look (l := globs) hx
      simp only [globs, List.mem_cons, List.not_mem_nil, or_false, Prod.mk.injEq] at hm
      rcases hm with ⟨rfl, rfl⟩ | ⟨rfl, rfl⟩ | ⟨rfl, rfl⟩ | ⟨rfl, rfl⟩ | ⟨rfl, rfl⟩ | ⟨rfl, rfl⟩ | ⟨rfl, rfl⟩ | ⟨rfl, rfl⟩ | ⟨rfl, rfl⟩ | ⟨rfl, rfl⟩ | ⟨rfl, rfl⟩
      · exact glob_int (PySem.W.mg_of X H u0)
      · exact glob_int (PySem.W.mg_of X H u1)
      · exact glob_int (PySem.W.mg_of X H u2)
      · refine ⟨_, .ref wa3, PySem.W.mg_of X H u3, rfl, fun m => .tup (vs := [.str "all", .str "and", .str "none", .str "not", .str "or"]) (.inr fun H => .inr ⟨_, _, _, v3, rfl, rfl, (show 5 ≤ sizeLine by decide), ?_⟩) ?_⟩
        · exact .cons ⟨_, rfl⟩ (.cons ⟨_, rfl⟩ (.cons ⟨_, rfl⟩ (.cons ⟨_, rfl⟩ (.cons ⟨_, rfl⟩ (.nil)))))
        · exact .cons (.str _) (.cons (.str _) (.cons (.str _) (.cons (.str _) (.cons (.str _) (.nil)))))
      · exact glob_str (PySem.W.mg_of X H u4)
      · exact glob_str (PySem.W.mg_of X H u5)
      · exact glob_str (PySem.W.mg_of X H u6)
      · exact glob_str (PySem.W.mg_of X H u7)
      · exact glob_str (PySem.W.mg_of X H u8)
      · exact glob_str (PySem.W.mg_of X H u9)
      · exact glob_cls (PySem.W.mg_of X H cnCF0)
    · have hm : x ∈ blts := List.contains_iff_mem.mp hx
      simp only [blts, List.mem_cons, List.not_mem_nil, or_false] at hm
      rcases hm with rfl | rfl | rfl | rfl | rfl | rfl | rfl | rfl | rfl | rfl | rfl | rfl | rfl | rfl | rfl | rfl | rfl | rfl
      · exact PySem.W.mg_none_of X H z0
      · exact PySem.W.mg_none_of X H z1
      · exact PySem.W.mg_none_of X H z2
      · exact PySem.W.mg_none_of X H z3
      · exact PySem.W.mg_none_of X H z4
      · exact PySem.W.mg_none_of X H z5
      · exact PySem.W.mg_none_of X H z6
      · exact PySem.W.mg_none_of X H z7
      · exact PySem.W.mg_none_of X H z8
      · exact PySem.W.mg_none_of X H z9
      · exact PySem.W.mg_none_of X H z10
      · exact PySem.W.mg_none_of X H z11
      · exact PySem.W.mg_none_of X H z12
      · exact PySem.W.mg_none_of X H z13
      · exact PySem.W.mg_none_of X H z14
      · exact PySem.W.mg_none_of X H z15
      · exact PySem.W.mg_none_of X H z16
      · exact PySem.W.mg_none_of X H z17
    · have hm : x ∈ xcs := List.contains_iff_mem.mp hx
      simp only [xcs, List.mem_cons, List.not_mem_nil, or_false] at hm
      rcases hm with rfl | rfl | rfl
      · exact ⟨PySem.W.mg_of X H xa0, xk0, xe0, xs0, xt0⟩
      · exact ⟨PySem.W.mg_of X H xa1, xk1, xe1, xs1, xt1⟩
      · exact ⟨PySem.W.mg_of X H xa2, xk2, xe2, xs2, xt2⟩
    · have hm : (C, f) ∈ flds := List.contains_iff_mem.mp hx
      simp only [flds, List.mem_cons, List.not_mem_nil, or_false, Prod.mk.injEq] at hm
      rcases hm with ⟨rfl, rfl⟩ | ⟨rfl, rfl⟩
      · exact ⟨clCF0, nfCF0own_tree⟩
      · exact ⟨clCF0, nfCF0own_names⟩
    · have hm : C ∈ clss := List.contains_iff_mem.mp hx
      simp only [clss, List.mem_cons, List.not_mem_nil, or_false] at hm
      rcases hm with rfl
      · exact ⟨neCF0, hmCF0⟩
    · have hm : C ∈ clss := List.contains_iff_mem.mp hx
      simp only [clss, List.mem_cons, List.not_mem_nil, or_false] at hm
      rcases hm with rfl
      · exact ⟨clCF0, ⟨haCF0, hnCF0, htCF0, hmCF0⟩, fun t ht => kit_no ht icCF0 tcCF0⟩
    · have hx2 : (if (C == D && clss.contains C) = true then some true else none) = some b := hx
      by_cases e : (C == D && clss.contains C) = true
      · rw [if_pos e] at hx2
        cases hx2
        rw [Bool.and_eq_true] at e
        have e1 : C = D := beq_iff_eq.mp e.1
        subst e1
        have hm : C ∈ clss := List.contains_iff_mem.mp e.2
        simp only [clss, List.mem_cons, List.not_mem_nil, or_false] at hm
        subst hm
        exact kit_self
      · rw [if_neg e] at hx2; cases hx2
  have F0 := fun_mk (st := s__law_bit) l0 c0 k0
  have b0 := F0.binds (ps := ["_law_pot_here", "_law_much"]) fun _ _ _ _ _ _ us hl => match us, hl with | [_, _], _ => rfl
  have F1 := fun_mk (st := s__law_pick) l1 c1 k1
  have b1 := F1.binds (ps := ["_law_pot_here", "_law_items"]) fun _ _ _ _ _ _ us hl => match us, hl with | [_, _], _ => rfl
  have F2 := fun_mk (st := s__law_tree) l2 c2 k2
  have b2 := F2.binds (ps := ["_law_pot_here", "_law_words", "_law_deep"]) fun _ _ _ _ _ _ us hl => match us, hl with | [_, _, _], _ => rfl
  have F3 := fun_mk (st := s__law_dealt) l3 c3 k3
  have b3 := F3.binds (ps := ["_law_pot_here", "_law_items"]) fun _ _ _ _ _ _ us hl => match us, hl with | [_, _], _ => rfl
  have F4 := fun_mk (st := s__law_sets_of) l4 c4 k4
  have b4 := F4.binds (ps := ["_law_words"]) fun _ _ _ _ _ _ us hl => match us, hl with | [_], _ => rfl
  have F5 := fun_mk (st := s__law_so) l5 c5 k5
  have b5 := F5.binds (ps := ["_law_tree_here", "_law_words"]) fun _ _ _ _ _ _ us hl => match us, hl with | [_, _], _ => rfl
  have F6 := fun_mk (st := s__law_words_in) l6 c6 k6
  have b6 := F6.binds (ps := ["_law_tree_here"]) fun _ _ _ _ _ _ us hl => match us, hl with | [_], _ => rfl
  have F7 := fun_mk (st := s__law_count) l7 c7 k7
  have b7 := F7.binds (ps := ["_law_tree_here"]) fun _ _ _ _ _ _ us hl => match us, hl with | [_], _ => rfl
  have F8 := fun_mk (st := s__law_tree_text) l8 c8 k8
  have b8 := F8.binds (ps := ["_law_tree_here"]) fun _ _ _ _ _ _ us hl => match us, hl with | [_], _ => rfl
  have F9 := fun_mk (st := s_is_so) l9 c9 k9
  have b9 := F9.binds (ps := ["tree", "names"]) fun _ _ _ _ _ _ us hl => match us, hl with | [_, _], _ => rfl
  have F10 := fun_mk (st := s_is_ascending) l10 c10 k10
  have b10 := F10.binds (ps := ["values"]) fun _ _ _ _ _ _ us hl => match us, hl with | [_], _ => rfl
  have F11 := fun_mk (st := s_are_small) l11 c11 k11
  have b11 := F11.binds (ps := ["text"]) fun _ _ _ _ _ _ us hl => match us, hl with | [_], _ => rfl
  have F12 := fun_mk (st := s_is_name) l12 c12 k12
  have b12 := F12.binds (ps := ["value"]) fun _ _ _ _ _ _ us hl => match us, hl with | [_], _ => rfl
  have F13 := fun_mk (st := s_Formula_holds) l13 c13 k13
  have b13 := F13.binds (ps := ["self", "names"]) fun _ _ _ _ _ _ us hl => match us, hl with | [_, _], _ => rfl
  have F14 := fun_mk (st := s_Formula_tree) l14 c14 k14
  have b14 := F14.binds (ps := ["self"]) fun _ _ _ _ _ _ us hl => match us, hl with | [_], _ => rfl
  have F15 := fun_mk (st := s_Formula_names) l15 c15 k15
  have b15 := F15.binds (ps := ["self"]) fun _ _ _ _ _ _ us hl => match us, hl with | [_], _ => rfl
  have F16 := fun_mk (st := s_trees_in) l16 c16 k16
  have b16 := F16.binds (ps := ["tree"]) fun _ _ _ _ _ _ us hl => match us, hl with | [_], _ => rfl
  have F17 := fun_mk (st := s_Formula___len__) l17 c17 k17
  have b17 := F17.binds (ps := ["self"]) fun _ _ _ _ _ _ us hl => match us, hl with | [_], _ => rfl
  have F18 := fun_mk (st := s_part_text) l18 c18 k18
  have b18 := F18.binds (ps := ["tree"]) fun _ _ _ _ _ _ us hl => match us, hl with | [_], _ => rfl
  have F19 := fun_mk (st := s_text_of) l19 c19 k19
  have b19 := F19.binds (ps := ["tree"]) fun _ _ _ _ _ _ us hl => match us, hl with | [_], _ => rfl
  have F20 := fun_mk (st := s_Formula___str__) l20 c20 k20
  have b20 := F20.binds (ps := ["self"]) fun _ _ _ _ _ _ us hl => match us, hl with | [_], _ => rfl
  have F21 := fun_mk (st := s_Formula___call__) l21 c21 k21
  have b21 := F21.binds (ps := ["self", "names"]) fun _ _ _ _ _ _ us hl => match us, hl with | [_, _], _ => rfl
  have F22 := fun_mk (st := s__law_told_right) l22 c22 k22
  have b22 := F22.binds (ps := ["_law_made", "_law_tree_here", "_law_words"]) fun _ _ _ _ _ _ us hl => match us, hl with | [_, _, _], _ => rfl
  have F23 := fun_mk (st := s_is_free_name) l23 c23 k23
  have b23 := F23.binds (ps := ["value"]) fun _ _ _ _ _ _ us hl => match us, hl with | [_], _ => rfl
  have F24 := fun_mk (st := s_is_tree_within) l24 c24 k24
  have b24 := F24.binds (ps := ["value", "deep"]) fun _ _ _ _ _ _ us hl => match us, hl with | [_, _], _ => rfl
  have F25 := fun_mk (st := s_names_in) l25 c25 k25
  have b25 := F25.binds (ps := ["tree"]) fun _ _ _ _ _ _ us hl => match us, hl with | [_], _ => rfl
  have F26 := fun_mk (st := s_Formula___init__) l26 c26 k26
  have b26 := F26.binds (ps := ["self", "tree"]) fun _ _ _ _ _ _ us hl => match us, hl with | [_, _], _ => rfl
  have F27 := fun_mk (st := s_Formula_of) l27 c27 k27
  have b27 := F27.binds (ps := ["cls", "name"]) fun _ _ _ _ _ _ us hl => match us, hl with | [_, _], _ => rfl
  have F28 := fun_mk (st := s_Formula___eq__) l28 c28 k28
  have b28 := F28.binds (ps := ["self", "value"]) fun _ _ _ _ _ _ us hl => match us, hl with | [_, _], _ => rfl
  have F29 := fun_mk (st := s__law_right) l29 c29 k29
  have b29 := F29.binds (ps := ["_law_pot_here"]) fun _ _ _ _ _ _ us hl => match us, hl with | [_], _ => rfl
  have F30 := fun_mk (st := s__law_pot) l30 c30 k30
  have b30 := F30.binds (ps := ["_law_script", "_law_at"]) fun _ _ _ _ _ _ us hl => match us, hl with | [_, _], _ => rfl
  have F31 := fun_mk (st := s_law) l31 c31 k31
  have b31 := F31.binds (ps := ["_law_script"]) fun _ _ _ _ _ _ us hl => match us, hl with | [_], _ => rfl
  refine ⟨W, PySem.W.fnOf "law" "law" (defArgs s_law) (defBody s_law) (defScope s_law) .none kV31 dc31 pm31 an31 cd31 ct31, rfl, fun s u => .of_eq rfl, fun base => ?_⟩
  have o0 : FnAt l.prog w W mg base 1 ("_law_bit", 2, d__law_bit) := ok__law_bit B F0 b0 (PySem.W.mg_of X H a0)
  have o1 : FnAt l.prog w W mg base 2 ("_law_pick", 2, d__law_pick) := ok__law_pick B F1 b1 (PySem.W.mg_of X H a1) o0
  have o2 : FnAt l.prog w W mg base 12 ("_law_tree", 3, (d__law_tree 10)) := ok__law_tree B F2 b2 (PySem.W.mg_of X H a2) o0 o1 10
  have o3 : FnAt l.prog w W mg base 2 ("_law_dealt", 2, d__law_dealt) := ok__law_dealt B F3 b3 (PySem.W.mg_of X H a3) o0
  have o4 : FnAt l.prog w W mg base 1 ("_law_sets_of", 1, d__law_sets_of) := ok__law_sets_of B F4 b4 (PySem.W.mg_of X H a4)
  have o5 : FnAt l.prog w W mg base 10 ("_law_so", 2, (d__law_so 10)) := ok__law_so B F5 b5 (PySem.W.mg_of X H a5) 10
  have o6 : FnAt l.prog w W mg base 10 ("_law_words_in", 1, (d__law_words_in 10)) := ok__law_words_in B F6 b6 (PySem.W.mg_of X H a6) 10
  have o7 : FnAt l.prog w W mg base 10 ("_law_count", 1, (d__law_count 10)) := ok__law_count B F7 b7 (PySem.W.mg_of X H a7) 10
  have o8 : FnAt l.prog w W mg base 10 ("_law_tree_text", 1, (d__law_tree_text 10)) := ok__law_tree_text B F8 b8 (PySem.W.mg_of X H a8) 10
  have o9 : FnAt l.prog w W mg base 10 ("is_so", 2, (d_is_so 10)) := ok_is_so B F9 b9 (PySem.W.mg_of X H a9) 10
  have o10 : FnAt l.prog w W mg base 1 ("is_ascending", 1, d_is_ascending) := ok_is_ascending B F10 b10 (PySem.W.mg_of X H a10)
  have o11 : FnAt l.prog w W mg base 1 ("are_small", 1, d_are_small) := ok_are_small B F11 b11 (PySem.W.mg_of X H a11)
  have o12 : FnAt l.prog w W mg base 2 ("is_name", 1, d_is_name) := ok_is_name B F12 b12 (PySem.W.mg_of X H a12) o11
  have o13 : MAt l.prog w W mg base 11 (("Formula", "holds"), 1, d_Formula_holds) := ok_Formula_holds B F13 b13 clCF0 ⟨a13, i13, k13⟩ (fnIn_of l13) o9 o10 o12
  have o14 : PAt l.prog w W mg base 1 (("Formula", "tree"), d_Formula_tree) := ok_Formula_tree B F14 b14 clCF0 ⟨pa14, pb14, pc14, ⟨_, pd14⟩⟩
  have o15 : PAt l.prog w W mg base 1 (("Formula", "names"), d_Formula_names) := ok_Formula_names B F15 b15 clCF0 ⟨pa15, pb15, pc15, ⟨_, pd15⟩⟩
  have o16 : FnAt l.prog w W mg base 10 ("trees_in", 1, (d_trees_in 10)) := ok_trees_in B F16 b16 (PySem.W.mg_of X H a16) 10
  have o17 : MAt l.prog w W mg base 11 (("Formula", "__len__"), 0, d_Formula___len__) := ok_Formula___len__ B F17 b17 clCF0 ⟨a17, i17, k17⟩ (fnIn_of l17) o16
  have o19 : FnAt l.prog w W mg base 20 ("text_of", 1, (d_text_of 10)) := ok_text_of B F19 b19 (PySem.W.mg_of X H a19) F18 b18 (PySem.W.mg_of X H a18) 10
  have o20 : MAt l.prog w W mg base 21 (("Formula", "__str__"), 0, d_Formula___str__) := ok_Formula___str__ B F20 b20 clCF0 ⟨a20, i20, k20⟩ (fnIn_of l20) o19
  have o21 : MAt l.prog w W mg base 12 (("Formula", "__call__"), 1, d_Formula___call__) := ok_Formula___call__ B F21 b21 clCF0 ⟨a21, i21, k21⟩ (fnIn_of l21) o13
  have o22 : FnAt l.prog w W mg base 24 ("_law_told_right", 3, d__law_told_right) := ok__law_told_right B F22 b22 (PySem.W.mg_of X H a22) o4 o5 o6 o7 o8 o13 o17 o20 o21 o14 o15
  have o23 : FnAt l.prog w W mg base 3 ("is_free_name", 1, d_is_free_name) := ok_is_free_name B F23 b23 (PySem.W.mg_of X H a23) o12
  have o24 : FnAt l.prog w W mg base 13 ("is_tree_within", 2, (d_is_tree_within 10)) := ok_is_tree_within B F24 b24 (PySem.W.mg_of X H a24) o23 10
  have o25 : FnAt l.prog w W mg base 10 ("names_in", 1, (d_names_in 10)) := ok_names_in B F25 b25 (PySem.W.mg_of X H a25) 10
  have o26 : IAt l.prog w W mg base 14 ("Formula", 1, d_Formula___init__) := ok_Formula___init__ B F26 b26 (PySem.W.mg_of X H cnCF0) ⟨mkCF0, a26, i26, kpCF0⟩ o24 o25
  have o27 : CAt l.prog w W mg base 16 (("Formula", "of"), 1, d_Formula_of) := ok_Formula_of B F27 b27 ⟨rdCF0, gtCF0⟩ ⟨pa27, ⟨_, pd27⟩, fnIn_of l27⟩ o23 o26
  have o28 : MAt l.prog w W mg base 1 (("Formula", "__eq__"), 1, d_Formula___eq__) := ok_Formula___eq__ B F28 b28 clCF0 ⟨a28, i28, k28⟩ (fnIn_of l28)
  have o29 : FnAt l.prog w W mg base 25 ("_law_right", 1, d__law_right) := ok__law_right B F29 b29 (PySem.W.mg_of X H a29) o2 o3 o22 o0 o28 o20 o26 o27
  have o30 : FnAt l.prog w W mg base 1 ("_law_pot", 2, d__law_pot) := ok__law_pot B F30 b30 (PySem.W.mg_of X H a30)
  exact fn_den (G := g_law) 40 F31 sc_law rfl rfl rfl (gok_of (B _ _ _ _ _ _ _ _ _).1 (ob_of (B _ _ _ _ _ _ _ _ _).2 rfl rfl rfl rfl rfl ⟨⟨11, (show 11 + 0 ≤ 25 by omega), o13⟩, trivial⟩ ⟨⟨21, (show 21 + 2 ≤ 25 by omega), o20⟩, ⟨11, (show 11 + 2 ≤ 25 by omega), o17⟩, trivial⟩ trivial ⟨⟨14, (show 14 + 1 ≤ 25 by omega), o26⟩, trivial⟩ trivial) rfl ⟨o29.mono (show 25 ≤ 25 by omega), o30.mono (show 1 ≤ 25 by omega), trivial⟩)
end K41
open PySem PySem.W PyProof.Rows
set_option maxHeartbeats 0 in
theorem PySem.Challenge.cw_loneguess_k41_formulas_told_holds : PySem.Challenge.rw_loneguess_k41_formulas_told.Holds := by
  w_on; o_law; k_head; (case hw => w_witness2)
  k_fill
  refine Pu.walk_D (l := PySem.Challenge.rw_loneguess_k41_formulas_told) (n := 63) (k := 26) (x := "_law_script") (L := K41.d_law) rfl (by decide) rfl ⟨rfl, by decide, by decide⟩ (fun w h Y => PySem.W.kIn_of Y) ?F K41.law_holds
  case F =>
    intro w mg fa h KX G hmg
    refine' K41.all_mk KX G hmg ?cnCF0 ?pgCF0 ?hdCF0 ?poCF0 ?saCF0 ?mkCF0 ?kpCF0 ?nfCF0own_tree ?nfCF0own_names ?haCF0 ?hnCF0 ?htCF0 ?hmCF0 ?icCF0 ?tcCF0 ?neCF0 ?rdCF0 ?gtCF0 ?a0 ?l0 ?c0 ?k0 ?a1 ?l1 ?c1 ?k1 ?a2 ?l2 ?c2 ?k2 ?a3 ?l3 ?c3 ?k3 ?a4 ?l4 ?c4 ?k4 ?a5 ?l5 ?c5 ?k5 ?a6 ?l6 ?c6 ?k6 ?a7 ?l7 ?c7 ?k7 ?a8 ?l8 ?c8 ?k8 ?a9 ?l9 ?c9 ?k9 ?a10 ?l10 ?c10 ?k10 ?a11 ?l11 ?c11 ?k11 ?a12 ?l12 ?c12 ?k12 ?a13 ?l13 ?c13 ?k13 ?i13 ?pa14 ?pb14 ?pc14 ?pd14 ?l14 ?c14 ?k14 ?pa15 ?pb15 ?pc15 ?pd15 ?l15 ?c15 ?k15 ?a16 ?l16 ?c16 ?k16 ?a17 ?l17 ?c17 ?k17 ?i17 ?a18 ?l18 ?c18 ?k18 ?a19 ?l19 ?c19 ?k19 ?a20 ?l20 ?c20 ?k20 ?i20 ?a21 ?l21 ?c21 ?k21 ?i21 ?a22 ?l22 ?c22 ?k22 ?a23 ?l23 ?c23 ?k23 ?a24 ?l24 ?c24 ?k24 ?a25 ?l25 ?c25 ?k25 ?a26 ?l26 ?c26 ?k26 ?i26 ?pa27 ?pd27 ?l27 ?c27 ?k27 ?a28 ?l28 ?c28 ?k28 ?i28 ?a29 ?l29 ?c29 ?k29 ?a30 ?l30 ?c30 ?k30 ?a31 ?l31 ?c31 ?k31 ?u0 ?u1 ?u2 ?u3 ?v3 ?u4 ?u5 ?u6 ?u7 ?u8 ?u9 ?z0 ?z1 ?z2 ?z3 ?z4 ?z5 ?z6 ?z7 ?z8 ?z9 ?z10 ?z11 ?z12 ?z13 ?z14 ?z15 ?z16 ?z17 ?xa0 ?xk0 ?xe0 ?xs0 ?xt0 ?xa1 ?xk1 ?xe1 ?xs1 ?xt1 ?xa2 ?xk2 ?xe2 ?xs2 ?xt2
    (case cnCF0 => k_is)
    (case pgCF0 => k_is)
    (case hdCF0 => k_is)
    (case poCF0 => k_is)
    (case saCF0 => k_is)
    (case mkCF0 => k_is)
    (case kpCF0 => k_is)
    (case nfCF0own_tree => k_is)
    (case nfCF0own_names => k_is)
    (case haCF0 => k_is)
    (case hnCF0 => k_is)
    (case htCF0 => k_is)
    (case hmCF0 => k_is)
    (case icCF0 => k_is)
    (case tcCF0 => k_is)
    (case neCF0 => k_is)
    (case rdCF0 => k_is)
    (case gtCF0 => k_is)
    (case a0 => k_is)
    (case l0 => k_is)
    (case c0 => k_is)
    (case k0 => k_is)
    (case a1 => k_is)
    (case l1 => k_is)
    (case c1 => k_is)
    (case k1 => k_is)
    (case a2 => k_is)
    (case l2 => k_is)
    (case c2 => k_is)
    (case k2 => k_is)
    (case a3 => k_is)
    (case l3 => k_is)
    (case c3 => k_is)
    (case k3 => k_is)
    (case a4 => k_is)
    (case l4 => k_is)
    (case c4 => k_is)
    (case k4 => k_is)
    (case a5 => k_is)
    (case l5 => k_is)
    (case c5 => k_is)
    (case k5 => k_is)
    (case a6 => k_is)
    (case l6 => k_is)
    (case c6 => k_is)
    (case k6 => k_is)
    (case a7 => k_is)
    (case l7 => k_is)
    (case c7 => k_is)
    (case k7 => k_is)
    (case a8 => k_is)
    (case l8 => k_is)
    (case c8 => k_is)
    (case k8 => k_is)
    (case a9 => k_is)
    (case l9 => k_is)
    (case c9 => k_is)
    (case k9 => k_is)
    (case a10 => k_is)
    (case l10 => k_is)
    (case c10 => k_is)
    (case k10 => k_is)
    (case a11 => k_is)
    (case l11 => k_is)
    (case c11 => k_is)
    (case k11 => k_is)
    (case a12 => k_is)
    (case l12 => k_is)
    (case c12 => k_is)
    (case k12 => k_is)
    (case a13 => k_is)
    (case l13 => k_is)
    (case c13 => k_is)
    (case k13 => k_is)
    (case i13 => k_is)
    (case pa14 => k_is)
    (case pb14 => k_is)
    (case pc14 => k_is)
    (case pd14 => k_is)
    (case l14 => k_is)
    (case c14 => k_is)
    (case k14 => k_is)
    (case pa15 => k_is)
    (case pb15 => k_is)
    (case pc15 => k_is)
    (case pd15 => k_is)
    (case l15 => k_is)
    (case c15 => k_is)
    (case k15 => k_is)
    (case a16 => k_is)
    (case l16 => k_is)
    (case c16 => k_is)
    (case k16 => k_is)
    (case a17 => k_is)
    (case l17 => k_is)
    (case c17 => k_is)
    (case k17 => k_is)
    (case i17 => k_is)
    (case a18 => k_is)
    (case l18 => k_is)
    (case c18 => k_is)
    (case k18 => k_is)
    (case a19 => k_is)
    (case l19 => k_is)
    (case c19 => k_is)
    (case k19 => k_is)
    (case a20 => k_is)
    (case l20 => k_is)
    (case c20 => k_is)
    (case k20 => k_is)
    (case i20 => k_is)
    (case a21 => k_is)
    (case l21 => k_is)
    (case c21 => k_is)
    (case k21 => k_is)
    (case i21 => k_is)
    (case a22 => k_is)
    (case l22 => k_is)
    (case c22 => k_is)
    (case k22 => k_is)
    (case a23 => k_is)
    (case l23 => k_is)
    (case c23 => k_is)
    (case k23 => k_is)
    (case a24 => k_is)
    (case l24 => k_is)
    (case c24 => k_is)
    (case k24 => k_is)
    (case a25 => k_is)
    (case l25 => k_is)
    (case c25 => k_is)
    (case k25 => k_is)
    (case a26 => k_is)
    (case l26 => k_is)
    (case c26 => k_is)
    (case k26 => k_is)
    (case i26 => k_is)
    (case pa27 => k_is)
    (case pd27 => k_is)
    (case l27 => k_is)
    (case c27 => k_is)
    (case k27 => k_is)
    (case a28 => k_is)
    (case l28 => k_is)
    (case c28 => k_is)
    (case k28 => k_is)
    (case i28 => k_is)
    (case a29 => k_is)
    (case l29 => k_is)
    (case c29 => k_is)
    (case k29 => k_is)
    (case a30 => k_is)
    (case l30 => k_is)
    (case c30 => k_is)
    (case k30 => k_is)
    (case a31 => k_is)
    (case l31 => k_is)
    (case c31 => k_is)
    (case k31 => k_is)
    (case u0 => k_is)
    (case u1 => k_is)
    (case u2 => k_is)
    (case u3 => k_is)
    (case v3 => k_is)
    (case u4 => k_is)
    (case u5 => k_is)
    (case u6 => k_is)
    (case u7 => k_is)
    (case u8 => k_is)
    (case u9 => k_is)
    (case z0 => k_is)
    (case z1 => k_is)
    (case z2 => k_is)
    (case z3 => k_is)
    (case z4 => k_is)
    (case z5 => k_is)
    (case z6 => k_is)
    (case z7 => k_is)
    (case z8 => k_is)
    (case z9 => k_is)
    (case z10 => k_is)
    (case z11 => k_is)
    (case z12 => k_is)
    (case z13 => k_is)
    (case z14 => k_is)
    (case z15 => k_is)
    (case z16 => k_is)
    (case z17 => k_is)
    (case xa0 => k_is)
    (case xk0 => k_is)
    (case xe0 => k_exc)
    (case xs0 => k_is)
    (case xt0 => k_is)
    (case xa1 => k_is)
    (case xk1 => k_is)
    (case xe1 => k_exc)
    (case xs1 => k_is)
    (case xt1 => k_is)
    (case xa2 => k_is)
    (case xk2 => k_is)
    (case xe2 => k_exc)
    (case xs2 => k_is)
    (case xt2 => k_is)

