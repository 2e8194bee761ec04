import PyProof.Rows.All
import Wide.All
import OpenK.AllK
import Wide.FinOn
import HandS.ForMost
import HandS.Walk
import HandS.Flow
import HandS.Exc
import HandS.ExcOwn
import HandS.TryOnly
import HandS.WordsExc
import HandS.Wide
import HandS.IsInst
import HandS.Property
import HandS.ClsMeth
import KE.DataCmp
import HandS.TupAny
import HandS.RaiseMore
import PyProof.ReprRoads
import HandS.SortInts
import HandS.More
import HandS.Conv
import KE.KCallOwn
import KE.KSortTupAny
import HandS.Iter
import HandS.Zip
import KE.GoesMore
import KE.GoesEnum
import HandS.SetTxt0
import HandS.SetTxtIn
import HandS.TupSets
import HandS.Star
import HandS.FStr
import HandS.DictComp
import HandS.SetFor
import HandS.Strs
import PyProof.DictUpdate
import HandS.Style
import HandS.Ends
import HandS.EndBits
import PySem.Challenge.RW_loneguess_k12_whole_totals_by_all_texts
set_option Elab.async false
set_option linter.all false
set_option maxRecDepth 100000
/-! Pu1: plain data D over the abstract heap; a store of changing things; the monad M; what a run promises. -/
namespace Pu
open PySem L2

inductive D where
  | non | bl (b : Bool) | int (i : Int) | str (x : Str)
  | tup (xs : List D) | lst (xs : List D) | frz (xs : List D) | dic (kvs : List (Key × D))
  | obj (C : Str) (fs : List (Str × D))
  | cell (i : Nat) | ty (n : String) | adr (x : Str)
  deriving Inhabited

/-- what a cell holds -/
inductive MO where
  | lst (xs : List D) | dic (kvs : List (Key × D)) | dt (kvs : List (List Key × D)) | obj (C : Str) (fs : List (Str × D)) | dead
  deriving Inhabited
abbrev Sto := List MO

/-- the abstract heap, the cells' addresses, the cells -/
structure Mem where
  H : Hp
  as : List Addr
  μ : Sto
  pv : List Addr
/-- what may still change: a cell, or a list that is being made -/
def Mem.live (m : Mem) (a : Addr) : Prop := (∃ (i : Nat) (o : MO), m.as[i]? = some a ∧ m.μ[i]? = some o ∧ o ≠ MO.dead) ∨ a ∈ m.pv

/-- the fixed part: what the top has written, where its classes and named objects stand -/
structure Wd where
  K : PySem.W.Frag
  ca : Str → Addr

def PurL (W : Wd) (m : Mem) (a : Addr) (vs : List V) : Prop := (Rd m.H a (.lst vs) ∧ ¬ m.live a) ∨ ∀ H, SqL W.K H a vs
def PurT (W : Wd) (m : Mem) (a : Addr) (vs : List V) : Prop := (Rd m.H a (.tup vs) ∧ ¬ m.live a) ∨ ∀ H, SqT W.K H a vs
theorem PurL.sq {W : Wd} {m : Mem} {a : Addr} {vs : List V} : PurL W m a vs → SqL W.K m.H a vs
  | .inl h => .inl h.1
  | .inr h => h _
theorem PurT.sq {W : Wd} {m : Mem} {a : Addr} {vs : List V} : PurT W m a vs → SqT W.K m.H a vs
  | .inl h => .inl h.1
  | .inr h => h _

mutual
inductive Den (W : Wd) (m : Mem) : D → V → Prop
  | non : Den W m .non .non
  | bl (b) : Den W m (.bl b) (.bl b)
  | int (i) : Den W m (.int i) (.int i)
  | str (x) : Den W m (.str x) (.str x)
  | ty (n) : Den W m (.ty n) (.ty n)
  | adr (x) : Den W m (.adr x) (.ref (W.ca x))
  | cell {i a} : m.as[i]? = some a → Den W m (.cell i) (.ref a)
  | tup {ds a vs} : PurT W m a vs → DenL W m ds vs → Den W m (.tup ds) (.ref a)
  | lst {ds a vs} : m.H a = some (.lst vs) → ¬ m.live a → DenL W m ds vs → Den W m (.lst ds) (.ref a)
  | frz {ds a vs} : PurL W m a vs → DenL W m ds vs → Den W m (.frz ds) (.ref a)
  | dic {kvs a kv' ob} : m.H a = some (.frz ob (.dK kv')) → ¬ m.live a → DenK W m kvs kv' → Den W m (.dic kvs) (.ref a)
  | obj {C fs a dx fv} : m.H a = some (.ins (W.ca C) dx fv) → ¬ m.live a → DenF W m fs fv → Den W m (.obj C fs) (.ref a)
inductive DenL (W : Wd) (m : Mem) : List D → List V → Prop
  | nil : DenL W m [] []
  | cons {d v ds vs} : Den W m d v → DenL W m ds vs → DenL W m (d :: ds) (v :: vs)
inductive DenK (W : Wd) (m : Mem) : List (Key × D) → List (Key × V) → Prop
  | nil : DenK W m [] []
  | cons {k d v ds vs} : Den W m d v → DenK W m ds vs → DenK W m ((k, d) :: ds) ((k, v) :: vs)
inductive DenF (W : Wd) (m : Mem) : List (Str × D) → List (Str × V) → Prop
  | nil : DenF W m [] []
  | cons {k d v ds vs} : Den W m d v → DenF W m ds vs → DenF W m ((k, d) :: ds) ((k, v) :: vs)
end

/-- entries whose keys are tuples -/
inductive DenT (W : Wd) (m : Mem) : List (List Key × D) → List (List Key × V) → Prop
  | nil : DenT W m [] []
  | cons {k d v ds vs} : Den W m d v → DenT W m ds vs → DenT W m ((k, d) :: ds) ((k, v) :: vs)
def CellOk (W : Wd) (m : Mem) : MO → Addr → Prop
  | .lst ds, a => ∃ vs, m.H a = some (.lst vs) ∧ DenL W m ds vs
  | .dic kvs, a => ∃ kv', m.H a = some (.dK kv') ∧ DenK W m kvs kv'
  | .dt kvs, a => ∃ kv', m.H a = some (.dT kv') ∧ DenT W m kvs kv'
  | .obj C fs, a => ∃ dx fv, m.H a = some (.ins (W.ca C) dx fv) ∧ DenF W m fs fv
  | .dead, _ => True
structure Okm (W : Wd) (m : Mem) : Prop where
  len : m.as.length = m.μ.length
  nd : m.as.Nodup
  tr : ∀ a ∈ m.as, ∃ o, m.H a = some o
  pvt : ∀ a ∈ m.pv, (∃ o, m.H a = some o) ∧ a ∉ m.as
  ok : ∀ (i : Nat) (o : MO) (a : Addr), m.μ[i]? = some o → m.as[i]? = some a → CellOk W m o a
  pvn : ∀ a ∈ m.pv, ∀ vs, m.H a ≠ some (.tup vs)

structure Step (m m' : Mem) : Prop where
  ext : ∃ l, m'.as = m.as ++ l
  keep : ∀ a o, m.H a = some o → ¬ m.live a → m'.H a = some o
  live : ∀ a, m'.live a → m.live a ∨ m.H a = none
  pv : m'.pv = m.pv
  pvk : ∀ a ∈ m.pv, m'.H a = m.H a

theorem Step.refl (m : Mem) : Step m m := ⟨⟨[], by simp⟩, fun _ _ h _ => h, fun _ h => .inl h, rfl, fun _ _ => rfl⟩
theorem Step.dead {m m' : Mem} (s : Step m m') {a : Addr} {o : HO} (h : m.H a = some o) (n : ¬ m.live a) : ¬ m'.live a := fun l => by
  rcases s.live a l with l | l
  · exact n l
  · rw [h] at l; cases l
theorem Step.trans {m m1 m2 : Mem} (s : Step m m1) (t : Step m1 m2) : Step m m2 := by
  refine ⟨?_, fun a o h n => t.keep a o (s.keep a o h n) (s.dead h n), fun a l => ?_, t.pv.trans s.pv, fun a h => (t.pvk a (by rw [s.pv]; exact h)).trans (s.pvk a h)⟩
  · obtain ⟨l, e⟩ := s.ext
    obtain ⟨k, e'⟩ := t.ext
    exact ⟨l ++ k, by rw [e', e, List.append_assoc]⟩
  · by_cases h : m.live a
    · exact .inl h
    · right
      cases e : m.H a with
      | none => rfl
      | some o =>
        rcases t.live a l with l | l
        · exact absurd l (s.dead e h)
        · rw [s.keep a o e h] at l; cases l

/-- what stood still stands still -/
structure Up (m n : Mem) : Prop where
  as : ∀ (i : Nat) (a : Addr), m.as[i]? = some a → n.as[i]? = some a
  keep : ∀ a o, m.H a = some o → ¬ m.live a → n.H a = some o ∧ ¬ n.live a
theorem Step.as {m m' : Mem} (s : Step m m') {i : Nat} {a : Addr} (h : m.as[i]? = some a) : m'.as[i]? = some a := by
  obtain ⟨l, e⟩ := s.ext
  rw [e, List.getElem?_append_left (List.getElem?_eq_some_iff.mp h).1]
  exact h
theorem Step.up {m m' : Mem} (s : Step m m') : Up m m' := ⟨fun _ _ h => s.as h, fun a o h n => ⟨s.keep a o h n, s.dead h n⟩⟩
theorem Up.rd {m n : Mem} (s : Up m n) {a : Addr} {u : HO} (h : Rd m.H a u) (l : ¬ m.live a) : Rd n.H a u ∧ ¬ n.live a := by
  rcases h with h | ⟨o, h⟩
  · exact ⟨.inl (s.keep a _ h l).1, (s.keep a _ h l).2⟩
  · exact ⟨.inr ⟨o, (s.keep a _ h l).1⟩, (s.keep a _ h l).2⟩
theorem PurL.up {W : Wd} {m n : Mem} {a : Addr} {vs : List V} (s : Up m n) : PurL W m a vs → PurL W n a vs
  | .inl h => .inl (s.rd h.1 h.2)
  | .inr h => .inr h
theorem PurT.up {W : Wd} {m n : Mem} {a : Addr} {vs : List V} (s : Up m n) : PurT W m a vs → PurT W n a vs
  | .inl h => .inl (s.rd h.1 h.2)
  | .inr h => .inr h
theorem PurL.mono {W : Wd} {m m' : Mem} {a : Addr} {vs : List V} (s : Step m m') (h : PurL W m a vs) : PurL W m' a vs := h.up s.up
theorem PurT.mono {W : Wd} {m m' : Mem} {a : Addr} {vs : List V} (s : Step m m') (h : PurT W m a vs) : PurT W m' a vs := h.up s.up
mutual
theorem Den.up {W : Wd} {m m' : Mem} (s : Up m m') : ∀ {d : D} {v : V}, Den W m d v → Den W m' d v
  | _, _, .non => .non
  | _, _, .bl b => .bl b
  | _, _, .int i => .int i
  | _, _, .str x => .str x
  | _, _, .ty n => .ty n
  | _, _, .adr x => .adr x
  | _, _, .cell h => .cell (s.as _ _ h)
  | _, _, .tup h l => .tup (h.up s) (DenL.up s l)
  | _, _, .lst h n l => .lst (s.keep _ _ h n).1 (s.keep _ _ h n).2 (DenL.up s l)
  | _, _, .frz h l => .frz (h.up s) (DenL.up s l)
  | _, _, .dic h n l => .dic (s.keep _ _ h n).1 (s.keep _ _ h n).2 (DenK.up s l)
  | _, _, .obj h n l => .obj (s.keep _ _ h n).1 (s.keep _ _ h n).2 (DenF.up s l)
theorem DenL.up {W : Wd} {m m' : Mem} (s : Up m m') : ∀ {ds : List D} {vs : List V}, DenL W m ds vs → DenL W m' ds vs
  | _, _, .nil => .nil
  | _, _, .cons h t => .cons (Den.up s h) (DenL.up s t)
theorem DenK.up {W : Wd} {m m' : Mem} (s : Up m m') : ∀ {ds : List (Key × D)} {vs : List (Key × V)}, DenK W m ds vs → DenK W m' ds vs
  | _, _, .nil => .nil
  | _, _, .cons h t => .cons (Den.up s h) (DenK.up s t)
theorem DenF.up {W : Wd} {m m' : Mem} (s : Up m m') : ∀ {ds : List (Str × D)} {vs : List (Str × V)}, DenF W m ds vs → DenF W m' ds vs
  | _, _, .nil => .nil
  | _, _, .cons h t => .cons (Den.up s h) (DenF.up s t)
end
theorem DenT.up {W : Wd} {m m' : Mem} (s : Up m m') : ∀ {ds : List (List Key × D)} {vs : List (List Key × V)}, DenT W m ds vs → DenT W m' ds vs
  | _, _, .nil => .nil
  | _, _, .cons h t => .cons (Den.up s h) (DenT.up s t)
theorem DenT.mono {W : Wd} {m m' : Mem} (s : Step m m') {d : List (List Key × D)} {v : List (List Key × V)} (h : DenT W m d v) : DenT W m' d v := h.up s.up
theorem Den.mono {W : Wd} {m m' : Mem} (s : Step m m') {d : D} {v : V} (h : Den W m d v) : Den W m' d v := h.up s.up
theorem DenL.mono {W : Wd} {m m' : Mem} (s : Step m m') {d : List D} {v : List V} (h : DenL W m d v) : DenL W m' d v := h.up s.up
theorem DenK.mono {W : Wd} {m m' : Mem} (s : Step m m') {d : List (Key × D)} {v : List (Key × V)} (h : DenK W m d v) : DenK W m' d v := h.up s.up
theorem DenF.mono {W : Wd} {m m' : Mem} (s : Step m m') {d : List (Str × D)} {v : List (Str × V)} (h : DenF W m d v) : DenF W m' d v := h.up s.up

section
variable {W : Wd} {m m' : Mem}
theorem DenL.length : ∀ {ds : List D} {vs : List V}, DenL W m ds vs → ds.length = vs.length
  | _, _, .nil => rfl
  | _, _, .cons _ t => by rw [List.length_cons, List.length_cons, DenL.length t]
theorem DenL.get : ∀ {ds : List D} {vs : List V} {i : Nat} {d : D}, DenL W m ds vs → ds[i]? = some d → ∃ v, vs[i]? = some v ∧ Den W m d v
  | _, _, _, _, .nil, e => by simp at e
  | _, _, 0, _, .cons h _, e => by
    have e' := Option.some.inj e
    subst e'
    exact ⟨_, rfl, h⟩
  | _, _, i + 1, d, .cons _ t, e => DenL.get (i := i) (d := d) t e
theorem DenL.getV : ∀ {ds : List D} {vs : List V} {i : Nat} {v : V}, DenL W m ds vs → vs[i]? = some v → ∃ d, ds[i]? = some d ∧ Den W m d v
  | _, _, _, _, .nil, e => by simp at e
  | _, _, 0, _, .cons h _, e => by
    have e' := Option.some.inj e
    subst e'
    exact ⟨_, rfl, h⟩
  | _, _, i + 1, d, .cons _ t, e => DenL.getV (i := i) (v := d) t e
theorem DenL.append : ∀ {ds es : List D} {vs ws : List V}, DenL W m ds vs → DenL W m es ws → DenL W m (ds ++ es) (vs ++ ws)
  | _, _, _, _, .nil, s => s
  | _, _, _, _, .cons r t, s => .cons r (DenL.append t s)
theorem DenL.take : ∀ {ds : List D} {vs : List V} (n : Nat), DenL W m ds vs → DenL W m (ds.take n) (vs.take n)
  | _, _, 0, _ => .nil
  | _, _, _ + 1, .nil => .nil
  | _, _, n + 1, .cons r t => .cons r (DenL.take n t)
theorem DenL.drop : ∀ {ds : List D} {vs : List V} (n : Nat), DenL W m ds vs → DenL W m (ds.drop n) (vs.drop n)
  | _, _, 0, r => r
  | _, _, _ + 1, .nil => .nil
  | _, _, n + 1, .cons _ t => DenL.drop n t
theorem DenL.set {d : D} {v : V} (r : Den W m d v) : ∀ {ds : List D} {vs : List V} (i : Nat), DenL W m ds vs → DenL W m (ds.set i d) (vs.set i v)
  | _, _, _, .nil => .nil
  | _, _, 0, .cons _ t => .cons r t
  | _, _, i + 1, .cons q t => .cons q (DenL.set r i t)
theorem DenL.ints : ∀ (ns : List Int), DenL W m (ns.map D.int) (ns.map V.int)
  | [] => .nil
  | n :: r => .cons (.int n) (DenL.ints r)
theorem DenL.of_ints : ∀ {ns : List Int} {vs : List V}, DenL W m (ns.map D.int) vs → vs = ns.map V.int
  | [], _, .nil => rfl
  | _ :: _, _, .cons h t => by cases h; rw [DenL.of_ints t]; rfl
theorem DenL.bls : ∀ (ns : List Bool), DenL W m (ns.map D.bl) (ns.map V.bl)
  | [] => .nil
  | n :: r => .cons (.bl n) (DenL.bls r)
theorem DenL.of_bls : ∀ {ns : List Bool} {vs : List V}, DenL W m (ns.map D.bl) vs → vs = ns.map V.bl
  | [], _, .nil => rfl
  | _ :: _, _, .cons h t => by cases h; rw [DenL.of_bls t]; rfl
theorem DenL.strs : ∀ (ns : List Str), DenL W m (ns.map D.str) (ns.map V.str)
  | [] => .nil
  | n :: r => .cons (.str n) (DenL.strs r)
theorem DenL.of_strs : ∀ {ns : List Str} {vs : List V}, DenL W m (ns.map D.str) vs → vs = ns.map V.str
  | [], _, .nil => rfl
  | _ :: _, _, .cons h t => by cases h; rw [DenL.of_strs t]; rfl

/-! ### the heap grows by one thing; by one cell; a cell changes; a cell dies -/
def Mem.put (m : Mem) (p : Addr) (o : HO) : Mem := { m with H := upd m.H p o }
theorem Okm.notin (g : Okm W m) {p : Addr} (h : m.H p = none) : p ∉ m.as := fun z => by
  obtain ⟨o, e⟩ := g.tr p z
  rw [h] at e; cases e
theorem Okm.nolive (g : Okm W m) {p : Addr} (h : m.H p = none) : ¬ m.live p := by
  rintro (⟨i, _, e, _⟩ | e)
  · exact g.notin h (List.mem_of_getElem? e)
  · obtain ⟨⟨o, z⟩, _⟩ := g.pvt p e
    rw [h] at z; cases z
theorem step_put (g : Okm W m) {p : Addr} {o : HO} (h : m.H p = none) : Step m (m.put p o) :=
  ⟨⟨[], by simp [Mem.put]⟩, fun a u e _ => by show upd m.H p o a = some u; rw [upd_ne (ne_of_none e h)]; exact e, fun _ l => .inl l, rfl, fun a ha => by
    obtain ⟨⟨u, e⟩, _⟩ := g.pvt a ha
    show upd m.H p o a = m.H a
    rw [upd_ne (ne_of_none e h)]⟩
theorem CellOk.up (s : Up m m') {o : MO} {a : Addr} (h : CellOk W m o a) (e : ∀ u, m.H a = some u → m'.H a = some u) : CellOk W m' o a := by
  cases o with
  | lst ds => obtain ⟨vs, h1, h2⟩ := h; exact ⟨vs, e _ h1, h2.up s⟩
  | dic kvs => obtain ⟨vs, h1, h2⟩ := h; exact ⟨vs, e _ h1, h2.up s⟩
  | dt kvs => obtain ⟨vs, h1, h2⟩ := h; exact ⟨vs, e _ h1, h2.up s⟩
  | obj C fs => obtain ⟨dx, vs, h1, h2⟩ := h; exact ⟨dx, vs, e _ h1, h2.up s⟩
  | dead => exact h
theorem CellOk.mono (s : Step m m') {o : MO} {a : Addr} (h : CellOk W m o a) (e : ∀ u, m.H a = some u → m'.H a = some u) : CellOk W m' o a := h.up s.up e
theorem good_put (g : Okm W m) {p : Addr} {o : HO} (h : m.H p = none) : Okm W (m.put p o) := by
  have hu : ∀ a u, m.H a = some u → upd m.H p o a = some u := fun a u e => by rw [upd_ne (ne_of_none e h)]; exact e
  refine ⟨g.len, g.nd, fun a ha => ?_, fun a ha => ⟨let ⟨u, e⟩ := (g.pvt a ha).1; ⟨u, hu a u e⟩, (g.pvt a ha).2⟩, fun i u a e1 e2 => (g.ok i u a e1 e2).mono (step_put g h) (hu a), fun a ha vs z => ?_⟩
  · obtain ⟨u, e⟩ := g.tr a ha
    exact ⟨u, hu a u e⟩
  · obtain ⟨⟨u, e⟩, _⟩ := g.pvt a ha
    have z : upd m.H p o a = some (.tup vs) := z
    rw [upd_ne (ne_of_none e h)] at z
    exact g.pvn a ha vs z
theorem live_put {p a : Addr} {o : HO} : (m.put p o).live a ↔ m.live a := Iff.rfl
/-- a new tuple, a new list that stays as it is -/
theorem den_tup (g : Okm W m) {p : Addr} {ds : List D} {vs : List V} (h : m.H p = none) (l : DenL W m ds vs) : Den W (m.put p (.tup vs)) (.tup ds) (.ref p) :=
  .tup (.inl ⟨.inl upd_same, g.nolive h⟩) (l.mono (step_put g h))
theorem den_lst (g : Okm W m) {p : Addr} {ds : List D} {vs : List V} (h : m.H p = none) (l : DenL W m ds vs) : Den W (m.put p (.lst vs)) (.lst ds) (.ref p) :=
  .lst upd_same (g.nolive h) (l.mono (step_put g h))
theorem den_dic (g : Okm W m) {p : Addr} {ob : Obj} {ds : List (Key × D)} {vs : List (Key × V)} (h : m.H p = none) (l : DenK W m ds vs) : Den W (m.put p (.frz ob (.dK vs))) (.dic ds) (.ref p) :=
  .dic upd_same (g.nolive h) (l.mono (step_put g h))

/-- a new cell -/
def Mem.grow (m : Mem) (p : Addr) (o : HO) (c : MO) : Mem := { m with H := upd m.H p o, as := m.as ++ [p], μ := m.μ ++ [c] }
theorem live_grow (g : Okm W m) {p a : Addr} {o : HO} {c : MO} (l : (m.grow p o c).live a) : m.live a ∨ a = p := by
  obtain ⟨i, u, e1, e2, n⟩ | l := l
  case inr => exact .inl (.inr l)
  by_cases hi : i < m.as.length
  · left
    refine .inl ⟨i, u, ?_, ?_, n⟩
    · have e1' : (m.as ++ [p])[i]? = some a := e1
      rw [List.getElem?_append_left hi] at e1'; exact e1'
    · have e2' : (m.μ ++ [c])[i]? = some u := e2
      rw [List.getElem?_append_left (by rw [← g.len]; exact hi)] at e2'; exact e2'
  · right
    have e1' : (m.as ++ [p])[i]? = some a := e1
    rw [List.getElem?_append_right (by omega)] at e1'
    cases h : i - m.as.length with
    | zero => rw [h] at e1'; exact (Option.some.inj e1').symm
    | succ k => rw [h] at e1'; simp at e1'
theorem step_grow (g : Okm W m) {p : Addr} {o : HO} {c : MO} (h : m.H p = none) : Step m (m.grow p o c) :=
  ⟨⟨[p], rfl⟩, fun a u e _ => by show upd m.H p o a = some u; rw [upd_ne (ne_of_none e h)]; exact e, fun a l => by
    rcases live_grow g l with l | rfl
    · exact .inl l
    · exact .inr h, rfl, fun a ha => by
    obtain ⟨⟨u, e⟩, _⟩ := g.pvt a ha
    show upd m.H p o a = m.H a
    rw [upd_ne (ne_of_none e h)]⟩
theorem good_grow (g : Okm W m) {p : Addr} {o : HO} {c : MO} (h : m.H p = none) (hc : CellOk W (m.grow p o c) c p) : Okm W (m.grow p o c) := by
  have hu : ∀ a u, m.H a = some u → upd m.H p o a = some u := fun a u e => by rw [upd_ne (ne_of_none e h)]; exact e
  refine ⟨by simp [Mem.grow, g.len], ?_, fun a ha => ?_, fun a ha => ?_, fun i u a e1 e2 => ?_, fun a ha vs z => ?_⟩
  · show (m.as ++ [p]).Nodup
    rw [List.nodup_append]
    exact ⟨g.nd, by simp, fun a ha b hb => by
      have : b = p := by simpa using hb
      subst this
      rintro rfl
      exact g.notin h ha⟩
  · have ha' : a ∈ m.as ++ [p] := ha
    rcases List.mem_append.mp ha' with ha' | ha'
    · obtain ⟨u, e⟩ := g.tr a ha'
      exact ⟨u, hu a u e⟩
    · have : a = p := by simpa using ha'
      subst this
      exact ⟨o, upd_same⟩
  · obtain ⟨⟨u, e⟩, n⟩ := g.pvt a ha
    refine ⟨⟨u, hu a u e⟩, fun z => ?_⟩
    rcases List.mem_append.mp (show a ∈ m.as ++ [p] from z) with z | z
    · exact n z
    · have : a = p := by simpa using z
      subst this
      rw [h] at e; cases e
  · have e1' : (m.μ ++ [c])[i]? = some u := e1
    have e2' : (m.as ++ [p])[i]? = some a := e2
    by_cases hi : i < m.as.length
    · rw [List.getElem?_append_left (by rw [← g.len]; exact hi)] at e1'
      rw [List.getElem?_append_left hi] at e2'
      exact (g.ok i u a e1' e2').mono (step_grow g h) (hu a)
    · rw [List.getElem?_append_right (by rw [← g.len]; omega)] at e1'
      rw [List.getElem?_append_right (by omega)] at e2'
      rw [← g.len] at e1'
      cases hz : i - m.as.length with
      | zero =>
        rw [hz] at e1' e2'
        cases e1'; cases e2'; exact hc
      | succ k => rw [hz] at e2'; simp at e2'
  · obtain ⟨⟨u, e⟩, _⟩ := g.pvt a ha
    have z : upd m.H p o a = some (.tup vs) := z
    rw [upd_ne (ne_of_none e h)] at z
    exact g.pvn a ha vs z
theorem den_grow {p : Addr} {o : HO} {c : MO} : Den W (m.grow p o c) (.cell m.as.length) (.ref p) := .cell (by show (m.as ++ [p])[m.as.length]? = some p; simp)

/-- the i-th cell, at a, is written -/
def Mem.wr (m : Mem) (i : Nat) (a : Addr) (o : HO) (c : MO) : Mem := { m with H := upd m.H a o, μ := m.μ.set i c }
theorem live_wr {i : Nat} {a b : Addr} {o : HO} {c : MO} (hi : m.as[i]? = some a) (hl : m.live a) (l : (m.wr i a o c).live b) : m.live b := by
  obtain ⟨j, u, e1, e2, n⟩ | l := l
  case inr => exact .inr l
  have e2' : (m.μ.set i c)[j]? = some u := e2
  by_cases h : i = j
  · subst h
    have e1' : m.as[i]? = some b := e1
    rw [hi] at e1'; cases e1'; exact hl
  · rw [List.getElem?_set_ne h] at e2'
    exact .inl ⟨j, u, e1, e2', n⟩
theorem step_wr (g : Okm W m) {i : Nat} {a : Addr} {o : HO} {c : MO} (hi : m.as[i]? = some a) (hl : m.live a) : Step m (m.wr i a o c) :=
  ⟨⟨[], by simp [Mem.wr]⟩, fun b u e n => by
    show upd m.H a o b = some u
    have hb : b ≠ a := fun z => n (by rw [z]; exact hl)
    rw [upd_ne hb]; exact e, fun b l => .inl (live_wr hi hl l), rfl, fun b hb => by
    have ne : b ≠ a := fun z => (g.pvt b hb).2 (by rw [z]; exact List.mem_of_getElem? hi)
    show upd m.H a o b = m.H b
    rw [upd_ne ne]⟩
theorem good_wr (g : Okm W m) {i : Nat} {a : Addr} {o : HO} {c : MO} (hi : m.as[i]? = some a) (hl : m.live a) (hc : CellOk W (m.wr i a o c) c a) : Okm W (m.wr i a o c) := by
  have tr : ∀ b, (∃ u, m.H b = some u) → ∃ u, upd m.H a o b = some u := fun b ⟨u, e⟩ => by
    by_cases h : b = a
    · subst h; exact ⟨o, upd_same⟩
    · exact ⟨u, by rw [upd_ne h]; exact e⟩
  refine ⟨by simp [Mem.wr, g.len], g.nd, fun b hb => tr b (g.tr b hb), fun b hb => ⟨tr b (g.pvt b hb).1, (g.pvt b hb).2⟩, fun j u b e1 e2 => ?_, fun b hb vs z => ?_⟩
  · have e1' : (m.μ.set i c)[j]? = some u := e1
    have e2' : m.as[j]? = some b := e2
    by_cases h : i = j
    · subst h
      rw [hi] at e2'; cases e2'
      have hlt : i < m.μ.length := by rw [← g.len]; exact (List.getElem?_eq_some_iff.mp hi).1
      rw [List.getElem?_set_self hlt] at e1'
      cases e1'; exact hc
    · rw [List.getElem?_set_ne h] at e1'
      refine (g.ok j u b e1' e2').mono (step_wr g hi hl) fun w e => ?_
      show upd m.H a o b = some w
      rw [upd_ne (fun z => h ?_)]
      · exact e
      · obtain ⟨h1, z1⟩ := List.getElem?_eq_some_iff.mp hi
        obtain ⟨h2, z2⟩ := List.getElem?_eq_some_iff.mp e2'
        exact (List.getElem_inj g.nd).mp (z1.trans (z ▸ z2.symm))
  · have ne : b ≠ a := fun z => (g.pvt b hb).2 (by rw [z]; exact List.mem_of_getElem? hi)
    have z : upd m.H a o b = some (.tup vs) := z
    rw [upd_ne ne] at z
    exact g.pvn b hb vs z
/-- the i-th cell changes no more -/
def Mem.die (m : Mem) (i : Nat) : Mem := { m with μ := m.μ.set i .dead }
theorem live_die {i : Nat} {b : Addr} (l : (m.die i).live b) : m.live b := by
  obtain ⟨j, u, e1, e2, n⟩ | l := l
  case inr => exact .inr l
  have e2' : (m.μ.set i .dead)[j]? = some u := e2
  by_cases h : i = j
  · subst h
    rw [List.getElem?_set] at e2'
    simp at e2'
    obtain ⟨_, e⟩ := e2'
    exact absurd e.symm n
  · rw [List.getElem?_set_ne h] at e2'
    exact .inl ⟨j, u, e1, e2', n⟩
theorem die_live (g : Okm W m) {i : Nat} {a : Addr} (hi : m.as[i]? = some a) : ¬ (m.die i).live a := by
  rintro (⟨j, u, e1, e2, n⟩ | l)
  case inr => exact (g.pvt a l).2 (List.mem_of_getElem? hi)
  have e1' : m.as[j]? = some a := e1
  have e2' : (m.μ.set i .dead)[j]? = some u := e2
  have hij : i = j := by
    obtain ⟨h1, z1⟩ := List.getElem?_eq_some_iff.mp hi
    obtain ⟨h2, z2⟩ := List.getElem?_eq_some_iff.mp e1'
    exact (List.getElem_inj g.nd).mp (z1.trans z2.symm)
  subst hij
  rw [List.getElem?_set] at e2'
  simp at e2'
  exact n e2'.2.symm
theorem step_die {i : Nat} : Step m (m.die i) := ⟨⟨[], by simp [Mem.die]⟩, fun _ _ e _ => e, fun b l => .inl (live_die l), rfl, fun _ _ => rfl⟩
theorem good_die (g : Okm W m) {i : Nat} : Okm W (m.die i) := by
  refine ⟨by simp [Mem.die, g.len], g.nd, g.tr, g.pvt, fun j u b e1 e2 => ?_, g.pvn⟩
  have e1' : (m.μ.set i .dead)[j]? = some u := e1
  by_cases h : i = j
  · subst h
    rw [List.getElem?_set] at e1'
    simp at e1'
    rw [← e1'.2]
    trivial
  · rw [List.getElem?_set_ne h] at e1'
    exact (g.ok j u b e1' e2).mono step_die fun _ e => e
end

section
variable {W : Wd} {m m' : Mem}
/-- a list that is being made, at D: it begins, it grows, it is made -/
def Mem.opn (m : Mem) (D : Addr) (u : HO) : Mem := { m with H := upd m.H D u, pv := D :: m.pv }
def Mem.gro (m : Mem) (D : Addr) (u : HO) : Mem := { m with H := upd m.H D u }
def Mem.cls (m : Mem) (l : List Addr) : Mem := { m with pv := l }
theorem up_opn {D : Addr} {u : HO} (h : m.H D = none) : Up m (m.opn D u) :=
  ⟨fun _ _ e => e, fun a o e n => ⟨by show upd m.H D _ a = some o; rw [upd_ne (ne_of_none e h)]; exact e, fun l => by
    rcases l with l | l
    · exact n (.inl l)
    · rcases List.mem_cons.mp (show a ∈ D :: m.pv from l) with z | z
      · subst z; rw [h] at e; cases e
      · exact n (.inr z)⟩⟩
theorem okm_opn (g : Okm W m) {D : Addr} {u : HO} (h : m.H D = none) (nt : ∀ vs, u ≠ .tup vs := by exact fun _ z => nomatch z) : Okm W (m.opn D u) := by
  have hu : ∀ a y, m.H a = some y → upd m.H D u a = some y := fun a y e => by rw [upd_ne (ne_of_none e h)]; exact e
  refine ⟨g.len, g.nd, fun a ha => let ⟨u, e⟩ := g.tr a ha; ⟨u, hu a u e⟩, fun a ha => ?_, fun i o a e1 e2 => (g.ok i o a e1 e2).up (up_opn h) (hu a), fun a ha vs q => ?_⟩
  · rcases List.mem_cons.mp (show a ∈ D :: m.pv from ha) with z | z
    · subst z; exact ⟨⟨_, upd_same⟩, g.notin h⟩
    · exact ⟨let ⟨u, e⟩ := (g.pvt a z).1; ⟨u, hu a u e⟩, (g.pvt a z).2⟩
  · have q : upd m.H D u a = some (.tup vs) := q
    rcases List.mem_cons.mp (show a ∈ D :: m.pv from ha) with z | z
    · subst z
      rw [upd_same] at q
      exact nt vs (Option.some.inj q)
    · obtain ⟨⟨y, e⟩, _⟩ := g.pvt a z
      rw [upd_ne (ne_of_none e h)] at q
      exact g.pvn a z vs q
theorem up_gro {D : Addr} {u : HO} (h : D ∈ m.pv) : Up m (m.gro D u) :=
  ⟨fun _ _ e => e, fun a o e n => ⟨by
    have z : a ≠ D := fun z => n (.inr (by rw [z]; exact h))
    show upd m.H D _ a = some o; rw [upd_ne z]; exact e, fun l => n l⟩⟩
theorem okm_gro (g : Okm W m) {D : Addr} {u : HO} (h : D ∈ m.pv) (nt : ∀ vs, u ≠ .tup vs := by exact fun _ z => nomatch z) : Okm W (m.gro D u) := by
  have hu : ∀ a y, a ≠ D → m.H a = some y → upd m.H D u a = some y := fun a y z e => by rw [upd_ne z]; exact e
  have na : ∀ a ∈ m.as, a ≠ D := fun a ha z => (g.pvt D h).2 (z ▸ ha)
  refine ⟨g.len, g.nd, fun a ha => let ⟨u, e⟩ := g.tr a ha; ⟨u, hu a u (na a ha) e⟩, fun a ha => ⟨?_, (g.pvt a ha).2⟩, fun i o a e1 e2 => (g.ok i o a e1 e2).up (up_gro h) fun u e => hu a u (na a (List.mem_of_getElem? e2)) e, fun a ha vs q => ?_⟩
  · by_cases z : a = D
    · subst z; exact ⟨_, upd_same⟩
    · obtain ⟨u, e⟩ := (g.pvt a ha).1
      exact ⟨u, hu a u z e⟩
  · have q : upd m.H D u a = some (.tup vs) := q
    by_cases z : a = D
    · subst z
      rw [upd_same] at q
      exact nt vs (Option.some.inj q)
    · rw [upd_ne z] at q
      exact g.pvn a ha vs q
theorem up_cls {D : Addr} {l : List Addr} (h : m.pv = D :: l) : Up m (m.cls l) :=
  ⟨fun _ _ e => e, fun a o e n => ⟨e, fun z => n (by
    rcases z with z | z
    · exact .inl z
    · exact .inr (by rw [h]; exact List.mem_cons_of_mem _ z))⟩⟩
theorem okm_cls (g : Okm W m) {D : Addr} {l : List Addr} (h : m.pv = D :: l) : Okm W (m.cls l) :=
  ⟨g.len, g.nd, g.tr, fun a ha => g.pvt a (by rw [h]; exact List.mem_cons_of_mem _ ha), fun i o a e1 e2 => (g.ok i o a e1 e2).up (up_cls h) fun _ e => e, fun a ha => g.pvn a (by rw [h]; exact List.mem_cons_of_mem _ ha)⟩
/-- from the opening on, seen from ahead: D is new, all else steps -/
structure Mk (m m' : Mem) (D : Addr) : Prop where
  ext : ∃ l, m'.as = m.as ++ l
  keep : ∀ a o, m.H a = some o → ¬ m.live a → m'.H a = some o
  live : ∀ a, m'.live a → m.live a ∨ m.H a = none
  pv : m'.pv = D :: m.pv
  pvk : ∀ a ∈ m.pv, m'.H a = m.H a
theorem Mk.opn (g : Okm W m) {D : Addr} {u : HO} (h : m.H D = none) : Mk m (m.opn D u) D :=
  ⟨⟨[], by simp [Mem.opn]⟩, fun a o e n => ((up_opn h).keep a o e n).1, fun a l => by
    rcases l with l | l
    · exact .inl (.inl l)
    · rcases List.mem_cons.mp (show a ∈ D :: m.pv from l) with z | z
      · subst z; exact .inr h
      · exact .inl (.inr z), rfl, fun a ha => by
    obtain ⟨⟨u, e⟩, _⟩ := g.pvt a ha
    show upd m.H D _ a = m.H a
    rw [upd_ne (ne_of_none e h)]⟩
theorem Mk.step {m1 : Mem} {D : Addr} (k : Mk m m1 D) (s : Step m1 m') : Mk m m' D := by
  have dead : ∀ a o, m.H a = some o → ¬ m.live a → ¬ m1.live a := fun a o e n l => by
    rcases k.live a l with z | z
    · exact n z
    · rw [e] at z; cases z
  refine ⟨?_, fun a o e n => s.keep a o (k.keep a o e n) (dead a o e n), fun a l => ?_, s.pv.trans k.pv, fun a h => (s.pvk a (by rw [k.pv]; exact List.mem_cons_of_mem _ h)).trans (k.pvk a h)⟩
  · obtain ⟨x, e⟩ := k.ext
    obtain ⟨y, e'⟩ := s.ext
    exact ⟨x ++ y, by rw [e', e, List.append_assoc]⟩
  · by_cases h : m.live a
    · exact .inl h
    · right
      cases e : m.H a with
      | none => rfl
      | some o =>
        rcases s.live a l with z | z
        · exact absurd z (dead a o e h)
        · rw [k.keep a o e h] at z; cases z
theorem Mk.gro (g : Okm W m) {m1 : Mem} {D : Addr} {u : HO} (hD : m.H D = none) (k : Mk m m1 D) : Mk m (m1.gro D u) D :=
  ⟨k.ext, fun a o e n => by show upd m1.H D _ a = some o; rw [upd_ne (ne_of_none e hD)]; exact k.keep a o e n, fun a l => k.live a l, k.pv, fun a ha => by
    obtain ⟨⟨u, e⟩, _⟩ := g.pvt a ha
    show upd m1.H D _ a = m.H a
    rw [upd_ne (ne_of_none e hD)]
    exact k.pvk a ha⟩
theorem Mk.cls {m1 : Mem} {D : Addr} (k : Mk m m1 D) : Step m (m1.cls m.pv) :=
  ⟨k.ext, k.keep, fun a l => k.live a (by
    rcases l with l | l
    · exact .inl l
    · exact .inr (by rw [k.pv]; exact List.mem_cons_of_mem _ l)), rfl, k.pvk⟩
theorem Mk.up {m1 : Mem} {D : Addr} (k : Mk m m1 D) : Up m m1 := by
  refine ⟨fun i a e => ?_, fun a o e n => ⟨k.keep a o e n, fun l => ?_⟩⟩
  · obtain ⟨l, h⟩ := k.ext
    rw [h, List.getElem?_append_left (List.getElem?_eq_some_iff.mp e).1]
    exact e
  · rcases k.live a l with z | z
    · exact n z
    · rw [e] at z; cases z
theorem Mk.new (g : Okm W m) {m1 : Mem} {D : Addr} (hD : m.H D = none) (g1 : Okm W m1) (k : Mk m m1 D) : D ∉ m1.as ∧ D ∉ m.pv := by
  refine ⟨(g1.pvt D (by rw [k.pv]; exact List.mem_cons_self)).2, fun z => ?_⟩
  obtain ⟨⟨u, e⟩, _⟩ := g.pvt D z
  rw [hD] at e; cases e
/-- the list is made, and becomes a cell -/
def Mem.fixC (m : Mem) (D : Addr) (l : List Addr) (c : MO) : Mem := { m with as := m.as ++ [D], μ := m.μ ++ [c], pv := l }
abbrev Mem.fix (m : Mem) (D : Addr) (l : List Addr) (ds : List Pu.D) : Mem := m.fixC D l (.lst ds)
theorem Mk.fixC (g : Okm W m) {m1 : Mem} {D : Addr} (hD : m.H D = none) (g1 : Okm W m1) (k : Mk m m1 D) {c : MO} {o : HO} (h1 : m1.H D = some o) (hc : ∀ m', Up m1 m' → m'.H = m1.H → CellOk W m' c D) :
    Step m (m1.fixC D m.pv c) ∧ Okm W (m1.fixC D m.pv c) := by
  obtain ⟨n1, n2⟩ := k.new g hD g1
  have lv : ∀ a, (m1.fixC D m.pv c).live a → a = D ∨ (m1.live a ∧ a ≠ D) ∨ a ∈ m.pv := by
    rintro a (⟨i, u, e1, e2, n⟩ | l)
    · have e1' : (m1.as ++ [D])[i]? = some a := e1
      have e2' : (m1.μ ++ [c])[i]? = some u := e2
      by_cases hi : i < m1.as.length
      · rw [List.getElem?_append_left hi] at e1'
        rw [List.getElem?_append_left (by rw [← g1.len]; exact hi)] at e2'
        exact .inr (.inl ⟨.inl ⟨i, u, e1', e2', n⟩, fun z => n1 (by rw [← z]; exact List.mem_of_getElem? e1')⟩)
      · rw [List.getElem?_append_right (by omega)] at e1'
        cases h : i - m1.as.length with
        | zero => rw [h] at e1'; exact .inl (Option.some.inj e1').symm
        | succ j => rw [h] at e1'; simp at e1'
    · exact .inr (.inr l)
  have st : Step m (m1.fixC D m.pv c) := by
    refine ⟨?_, k.keep, fun a l => ?_, rfl, k.pvk⟩
    · obtain ⟨l, e⟩ := k.ext
      exact ⟨l ++ [D], by show m1.as ++ [D] = _; rw [e, List.append_assoc]⟩
    · rcases lv a l with z | z | z
      · rw [z]; exact .inr hD
      · exact k.live a z.1
      · exact .inl (.inr z)
  have up : Up m1 (m1.fixC D m.pv c) := by
    refine ⟨fun i a e => ?_, fun a o e n => ⟨e, fun l => ?_⟩⟩
    · show (m1.as ++ [D])[i]? = some a
      rw [List.getElem?_append_left (List.getElem?_eq_some_iff.mp e).1]
      exact e
    · rcases lv a l with z | z | z
      · exact n (.inr (by rw [z, k.pv]; exact List.mem_cons_self))
      · exact n z.1
      · exact n (.inr (by rw [k.pv]; exact List.mem_cons_of_mem _ z))
  refine ⟨st, by show (m1.as ++ [D]).length = (m1.μ ++ [_]).length; simp [g1.len], ?_, fun a ha => ?_, fun a ha => ?_, fun i u a e1 e2 => ?_, fun a ha => g1.pvn a (by rw [k.pv]; exact List.mem_cons_of_mem _ ha)⟩
  · show (m1.as ++ [D]).Nodup
    rw [List.nodup_append]
    exact ⟨g1.nd, by simp, fun a ha b hb => by
      have : b = D := by simpa using hb
      subst this
      rintro rfl
      exact n1 ha⟩
  · rcases List.mem_append.mp (show a ∈ m1.as ++ [D] from ha) with z | z
    · exact g1.tr a z
    · have : a = D := by simpa using z
      subst this
      exact ⟨_, h1⟩
  · have hp : a ∈ m1.pv := by rw [k.pv]; exact List.mem_cons_of_mem _ ha
    refine ⟨(g1.pvt a hp).1, fun z => ?_⟩
    rcases List.mem_append.mp (show a ∈ m1.as ++ [D] from z) with z | z
    · exact (g1.pvt a hp).2 z
    · have : a = D := by simpa using z
      exact n2 (by rw [← this]; exact ha)
  · have e1' : (m1.μ ++ [c])[i]? = some u := e1
    have e2' : (m1.as ++ [D])[i]? = some a := e2
    by_cases hi : i < m1.as.length
    · rw [List.getElem?_append_left (by rw [← g1.len]; exact hi)] at e1'
      rw [List.getElem?_append_left hi] at e2'
      exact (g1.ok i u a e1' e2').up up fun _ e => e
    · rw [List.getElem?_append_right (by rw [← g1.len]; omega)] at e1'
      rw [List.getElem?_append_right (by omega)] at e2'
      rw [← g1.len] at e1'
      cases hz : i - m1.as.length with
      | zero =>
        rw [hz] at e1' e2'
        cases e1'; cases e2'
        exact hc _ up rfl
      | succ j => rw [hz] at e2'; simp at e2'
theorem Mk.fix (g : Okm W m) {m1 : Mem} {D : Addr} (hD : m.H D = none) (g1 : Okm W m1) (k : Mk m m1 D) {ds : List Pu.D} {vs : List V} (h1 : m1.H D = some (.lst vs)) (l1 : DenL W m1 ds vs) :
    Step m (m1.fix D m.pv ds) ∧ Okm W (m1.fix D m.pv ds) := k.fixC g hD g1 h1 fun m' u e => ⟨vs, by rw [e]; exact h1, l1.up u⟩
theorem Mk.fixK (g : Okm W m) {m1 : Mem} {D : Addr} (hD : m.H D = none) (g1 : Okm W m1) (k : Mk m m1 D) {ds : List (Key × Pu.D)} {vs : List (Key × V)} (h1 : m1.H D = some (.dK vs)) (l1 : DenK W m1 ds vs) :
    Step m (m1.fixC D m.pv (.dic ds)) ∧ Okm W (m1.fixC D m.pv (.dic ds)) := k.fixC g hD g1 h1 fun m' u e => ⟨vs, by rw [e]; exact h1, l1.up u⟩
theorem Mk.mem {m1 : Mem} {D : Addr} (k : Mk m m1 D) : D ∈ m1.pv := by rw [k.pv]; exact List.mem_cons_self
end

/-! ### the monad -/
structure Ex where
  cls : Str
  fs : List (Str × D)
inductive R (α : Type) where
  | ok (a : α) (μ : Sto) | exc (e : Ex) (μ : Sto) | stuck
def M (α : Type) := Sto → R α
def M.bind {α β : Type} (x : M α) (f : α → M β) : M β := fun μ => match x μ with
  | .ok a μ' => f a μ'
  | .exc e μ' => .exc e μ'
  | .stuck => .stuck
def M.pure {α : Type} (a : α) : M α := fun μ => .ok a μ
instance : Monad M where
  pure := M.pure
  bind := M.bind
def yes {α : Type} (a : α) : M α := fun μ => .ok a μ
def stuck {α : Type} : M α := fun _ => .stuck
def raise {α : Type} (e : Ex) : M α := fun μ => .exc e μ

/-- what a run promises of the memory behind it -/
def wpR {α : Type} (W : Wd) (m : Mem) (E : Ex → Mem → Prop) (Q : α → Mem → Prop) : R α → Prop
  | .ok a μ => ∀ m', Step m m' → Okm W m' → m'.μ = μ → Q a m'
  | .exc e μ => ∀ m', Step m m' → Okm W m' → m'.μ = μ → E e m'
  | .stuck => False
section
variable {α β : Type} {W : Wd} {m m1 : Mem} {E : Ex → Mem → Prop} {Q : α → Mem → Prop}
theorem wpR.mono {E' : Ex → Mem → Prop} {Q' : α → Mem → Prop} {r : R α} (h : wpR W m E Q r) (hE : ∀ e m', Step m m' → Okm W m' → E e m' → E' e m') (hQ : ∀ a m', Step m m' → Okm W m' → Q a m' → Q' a m') : wpR W m E' Q' r := by
  cases r with
  | ok a μ => exact fun m' s g e => hQ a m' s g (h m' s g e)
  | exc x μ => exact fun m' s g e => hE x m' s g (h m' s g e)
  | stuck => exact h
/-- the first part of a run -/
theorem wpR_bind {x : M β} {f : β → M α} (h : wpR W m E Q ((x >>= f) m.μ)) : wpR W m E (fun b m1 => wpR W m1 E Q (f b m1.μ)) (x m.μ) := by
  have h' : wpR W m E Q (M.bind x f m.μ) := h
  unfold M.bind at h'
  cases e : x m.μ with
  | ok b μ =>
    rw [e] at h'
    intro m1 s g e1
    have h2 : wpR W m E Q (f b μ) := h'
    rw [e1]
    cases e2 : f b μ with
    | ok a μ2 => rw [e2] at h2; exact fun m2 s2 g2 q => h2 m2 (s.trans s2) g2 q
    | exc x μ2 => rw [e2] at h2; exact fun m2 s2 g2 q => h2 m2 (s.trans s2) g2 q
    | stuck => rw [e2] at h2; exact h2
  | exc b μ => rw [e] at h'; exact h'
  | stuck => rw [e] at h'; exact h'
/-- behind a step -/
theorem wpR.behind {r : R α} (s : Step m m1) (h : wpR W m E Q r) : wpR W m1 E Q r := by
  cases r with
  | ok a μ => exact fun m2 s2 g2 q => h m2 (s.trans s2) g2 q
  | exc x μ => exact fun m2 s2 g2 q => h m2 (s.trans s2) g2 q
  | stuck => exact h
theorem wpR_pure {a : α} (g : Okm W m) (h : wpR W m E Q ((Pure.pure a : M α) m.μ)) : Q a m := h m (Step.refl m) g rfl
end
end Pu

set_option Elab.async false
set_option linter.all false
set_option maxRecDepth 100000
/-! Pu2: readings made of plain functions; what a def keeps, where no repr is under way; the context of a den. -/
namespace Pu
open PySem L2

abbrev Sl := List (Option D)
inductive Fl where
  | next (ρ : Sl) | brk (ρ : Sl) | cont (ρ : Sl) | ret (d : D) | exc (e : Ex) (ρ : Sl)

structure EnvOk (W : Wd) (m : Mem) (ρ : Sl) (σ : St) : Prop where
  len : ρ.length = σ.length
  get : ∀ (i : Nat) (d : D), ρ[i]? = some (some d) → ∃ v, σ[i]? = some (some v) ∧ Den W m d v
theorem EnvOk.mono {W : Wd} {m m' : Mem} {ρ : Sl} {σ : St} (s : Step m m') (h : EnvOk W m ρ σ) : EnvOk W m' ρ σ :=
  ⟨h.len, fun i d e => let ⟨v, e1, e2⟩ := h.get i d e; ⟨v, e1, e2.mono s⟩⟩
theorem EnvOk.set {W : Wd} {m : Mem} {ρ : Sl} {σ : St} {d : D} {v : V} (i : Nat) (h : EnvOk W m ρ σ) (r : Den W m d v) : EnvOk W m (ρ.set i (some d)) (σ.set i (some v)) := by
  refine ⟨by simp [h.len], fun j e q => ?_⟩
  by_cases hj : i = j
  · subst hj
    by_cases hl : i < ρ.length
    · rw [List.getElem?_set_self hl] at q
      have q' := Option.some.inj (Option.some.inj q)
      subst q'
      exact ⟨v, by rw [List.getElem?_set_self (by rw [← h.len]; exact hl)], r⟩
    · rw [List.getElem?_eq_none (by simpa using hl)] at q; cases q
  · rw [List.getElem?_set_ne hj] at q ⊢
    exact h.get j e q
theorem EnvOk.wipe {W : Wd} {m : Mem} {ρ : Sl} {σ : St} (i : Nat) (h : EnvOk W m ρ σ) : EnvOk W m (ρ.set i none) (σ.set i none) := by
  refine ⟨by simp [h.len], fun j e q => ?_⟩
  by_cases hj : i = j
  · subst hj
    by_cases hl : i < ρ.length
    · rw [List.getElem?_set_self hl] at q; cases q
    · rw [List.getElem?_eq_none (by simpa using hl)] at q; cases q
  · rw [List.getElem?_set_ne hj] at q ⊢
    exact h.get j e q
theorem EnvOk.forget {W : Wd} {m : Mem} {ρ : Sl} {σ : St} (i : Nat) (h : EnvOk W m ρ σ) : EnvOk W m (ρ.set i none) σ := by
  refine ⟨by simp [h.len], fun j e q => ?_⟩
  by_cases hj : i = j
  · subst hj
    by_cases hl : i < ρ.length
    · rw [List.getElem?_set_self hl] at q; cases q
    · rw [List.getElem?_eq_none (by simpa using hl)] at q; cases q
  · rw [List.getElem?_set_ne hj] at q
    exact h.get j e q
def wipeL (ρ : Sl) : List Nat → Sl
  | [] => ρ
  | v :: vs => (wipeL ρ vs).set v none
theorem EnvOk.wipes {W : Wd} {m : Mem} {ρ : Sl} {σ : St} (h : EnvOk W m ρ σ) : ∀ vs : List Nat, EnvOk W m (wipeL ρ vs) (L2.wipe σ vs)
  | [] => h
  | v :: vs => (EnvOk.wipes h vs).wipe v

/-- an exception in the air -/
def XDen (W : Wd) (m : Mem) (e : Ex) (cls : Value) (dx : Option Addr) : Prop :=
  cls = .ref (W.ca e.cls) ∧ ((e.fs = [] ∧ dx = none) ∨ ∃ d fv, dx = some d ∧ m.H d = some (.xd fv) ∧ DenF W m e.fs fv)

section
variable (W : Wd) (Z : WX)
def EWish (σ : St) : Ex → Mem → Prop := fun e m' => ∀ cls dx, XDen W m' e cls dx → Z cls dx σ m'.H
def TEof (f : Sl → M D) : TE := fun σ H Q => ∃ ρ m, m.H = H ∧ Okm W m ∧ EnvOk W m ρ σ ∧ wpR W m (EWish W Z σ) (fun d m' => ∀ v, Den W m' d v → Q v m'.H) (f ρ m.μ)
def TTof (f : Sl → M Bool) : TT := fun σ H Q => ∃ ρ m, m.H = H ∧ Okm W m ∧ EnvOk W m ρ σ ∧ wpR W m (EWish W Z σ) (fun b m' => Q b m'.H) (f ρ m.μ)
def TAof (f : Sl → M (List D)) : TA := fun σ H Q => ∃ ρ m, m.H = H ∧ Okm W m ∧ EnvOk W m ρ σ ∧ wpR W m (EWish W Z σ) (fun ds m' => ∀ vs, DenL W m' ds vs → Q vs m'.H) (f ρ m.μ)
def TOof (f : Sl → M (Option Int)) : TO := fun σ H Q => ∃ ρ m, m.H = H ∧ Okm W m ∧ EnvOk W m ρ σ ∧ wpR W m (EWish W Z σ) (fun o m' => Q o m'.H) (f ρ m.μ)
def TGof (f : D → Sl → M Sl) : TG := fun v σ H Q => ∃ ρ m d, m.H = H ∧ Okm W m ∧ EnvOk W m ρ σ ∧ Den W m d v ∧ wpR W m (EWish W Z σ) (fun ρ' m' => ∀ σ', EnvOk W m' ρ' σ' → Q σ' m'.H) (f d ρ m.μ)
def FlOk (D : Ends) : Fl → Mem → Prop
  | .next ρ, m => ∀ σ, EnvOk W m ρ σ → D.nx σ m.H
  | .brk ρ, m => ∀ σ, EnvOk W m ρ σ → D.bk σ m.H
  | .cont ρ, m => ∀ σ, EnvOk W m ρ σ → D.ct σ m.H
  | .ret d, m => ∀ v, Den W m d v → D.rt v m.H
  | .exc e ρ, m => ∀ σ cls dx, EnvOk W m ρ σ → XDen W m e cls dx → Z cls dx σ m.H
def TSof (f : Sl → M Fl) : TS := fun D σ H => ∃ ρ m, m.H = H ∧ Okm W m ∧ EnvOk W m ρ σ ∧ wpR W m (fun _ _ => False) (FlOk W Z D) (f ρ m.μ)
end

theorem PE.weak {X : Cx} {e : Expr} {t t' : TE} (h : PE X e t) (w : ∀ σ H Q, t' σ H Q → t σ H Q) : PE X e t' := ⟨fun pins s σ H Q I q => h.run pins s σ H Q I (w σ H Q q)⟩
theorem PT.weak {X : Cx} {e : Expr} {t t' : TT} (h : PT X e t) (w : ∀ σ H Q, t' σ H Q → t σ H Q) : PT X e t' := ⟨fun pins s σ H Q I q => h.run pins s σ H Q I (w σ H Q q)⟩
theorem PA.weak {X : Cx} {es : List Expr} {t t' : TA} (h : PA X es t) (w : ∀ σ H Q, t' σ H Q → t σ H Q) : PA X es t' := ⟨fun pos pins s σ H Q I q => h.run pos pins s σ H Q I (w σ H Q q)⟩
theorem PS.weak {X : Cx} {st : Stmt} {t t' : TS} (h : PS X st t) (w : ∀ D σ H, t' D σ H → t D σ H) : PS X st t' := ⟨fun pins s σ H D I q => h.run pins s σ H D I (w D σ H q)⟩
theorem PSs.weak {X : Cx} {st : List Stmt} {t t' : TS} (h : PSs X st t) (w : ∀ D σ H, t' D σ H → t D σ H) : PSs X st t' := ⟨fun pins s σ H D I q => h.run pins s σ H D I (w D σ H q)⟩
theorem PE.any {X : Cx} {e : Expr} : PE X e (fun _ _ _ => False) := ⟨fun _ _ _ _ _ _ q => q.elim⟩
theorem PS.any {X : Cx} {e : Stmt} : PS X e (fun _ _ _ => False) := ⟨fun _ _ _ _ _ _ q => q.elim⟩
theorem PSs.any {X : Cx} {e : List Stmt} : PSs X e (fun _ _ _ => False) := ⟨fun _ _ _ _ _ _ q => q.elim⟩
theorem PT.any {X : Cx} {e : Expr} : PT X e (fun _ _ _ => False) := ⟨fun _ _ _ _ _ _ q => q.elim⟩

/-! ### a def's promise by a plain function -/
/-- as FnOk, where no repr is under way; exceptions may leave -/
structure FnG (P : Program) (w : World) (K : PySem.W.Frag) (mg : Str → Option Value) (base : Heap) (k : Nat) (f : Addr) (fd : FuncData) (ps : List Str) (sp : Sp) : Prop where
  arity : ∀ vs H Q E, sp vs H Q E → vs.length = ps.length
  go : ∀ (A : Around) (out : List Env) (s : Shared) (H : Hp) (args : Args) (us : List Value) (vs : List V) (Q : VK) (E : XK), Room k A → A.guards = some [] → Env0 P w K mg base A out s H → BindsTo s fd args (ps.zip us) → Vals vs us → sp vs H Q E →
    codeAny (model P w) A (.call (.ref f) args) (CR (L2.CX P w) out P w H s Q E) s
theorem FnG.mono {P : Program} {w : World} {K : PySem.W.Frag} {mg : Str → Option Value} {base : Heap} {j k : Nat} {f : Addr} {fd : FuncData} {ps : List Str} {sp : Sp} (F : FnG P w K mg base j f fd ps sp) (h : j ≤ k) : FnG P w K mg base k f fd ps sp :=
  ⟨F.arity, fun A out s H args us vs Q E r => F.go A out s H args us vs Q E (r.mono h)⟩
theorem FnG.imp {P : Program} {w : World} {K : PySem.W.Frag} {mg : Str → Option Value} {base : Heap} {k : Nat} {f : Addr} {fd : FuncData} {ps : List Str} {sp sp' : Sp} (F : FnG P w K mg base k f fd ps sp) (h : ∀ vs H Q E, sp' vs H Q E → sp vs H Q E) :
    FnG P w K mg base k f fd ps sp' := ⟨fun vs H Q E q => F.arity vs H Q E (h _ _ _ _ q), fun A out s H args us vs Q E r g e b v q => F.go A out s H args us vs Q E r g e b v (h _ _ _ _ q)⟩

/-- the promise of a plain function -/
def spOf (W : Wd) (n : Nat) (F : List D → M D) : Sp := fun vs H Q E => vs.length = n ∧ ∃ ds m, m.H = H ∧ Okm W m ∧ DenL W m ds vs ∧
  wpR W m (fun e m' => ∀ cls dx, XDen W m' e cls dx → E cls dx m'.H) (fun d m' => ∀ v, Den W m' d v → Q v m'.H) (F ds m.μ)

/-- THE RULE for a def, where no repr is under way -/
theorem fnG_of {P : Program} {w : World} {K : PySem.W.Frag} {mg : Str → Option Value} {base : Heap} {k : Nat} {x qual : Str} {st : Stmt} {f : Addr} {fd : FuncData} {N ps : List Str} {sp : Sp}
    (F : Fun K x qual st f fd) (S : FnScope N ps (defScope st)) (arity : ∀ vs H Q E, sp vs H Q E → vs.length = ps.length)
    (body : ∀ (cdv : Value) (A : Around) (out : List Env) (s : Shared) (H : Hp) (vs : List V) (Q : VK) (E : XK), Room k (A.deeper (PyProof.Rows.envOfC qual (defScope st) s.heap.objs.size f cdv)) → A.guards = some [] → sp vs H Q E →
      ∃ t, PSs (cxOf (L2.CX P w) P w K mg base N qual (defScope st) f cdv A out s H E) (defBody st) t ∧ t { nx := fun _ H' => Q .non H', rt := Q } (start N vs) H) :
    FnG P w K mg base (k + 1) f fd ps sp := by
  obtain ⟨oc, od, kV, doc, pm, an, cdv, ct, osl, rfl, look, code⟩ := F.ex
  refine ⟨arity, fun A out s H args us vs Q E room gd e0 bind rel hs => ?_⟩
  have nvs := arity _ _ _ _ hs
  have kin : K.In s.heap := e0.mod.kin.keeps fun b o e => (e0.bs b o e).1
  have nolim : s.heap.NoLimit := e0.mod.nolimit.keeps fun b o e => (e0.bs b o e).1
  have kinds : ∀ y ∈ ps.zip us, (defScope st).names.lookup y.1 = some .local ∨ ((defScope st).names.lookup y.1 = some .cell ∧ ((cellsFrom (s.heap.objs.size + 1) (defScope st).names []).lookup y.1).isSome = true) := by
    rintro ⟨n, v⟩ hy
    rcases S.par n (List.of_mem_zip hy).1 with z | z
    · exact .inl z
    · exact .inr ⟨z, PySem.W.cellsFrom_some _ _ _ (.inl z)⟩
  refine codeAny_call_function room.depth (kin _ _ look) rfl S.co S.gen rfl (PySem.W.codeRec_of kin code) (bind _ _ _ _ ?_)
  refine wpAny_newFunctionEnv_cells S.kind kinds fun env ee s1 fresh => ?_
  subst ee
  refine ⟨nolim.keeps fresh.toInCall.keep, codeAny_func ?_⟩
  obtain ⟨t, run, q⟩ := body cdv A out s H vs Q E (room.deeper _) gd hs
  have I := inv_start (CX := L2.CX P w) (E := E) S room.hd e0 nvs rel fresh
  refine wpAny_mono (run.run [] s1 (start N vs) H _ I q) (fun fl s' hq => ?_) fun _ _ z => z
  cases fl with
  | ret u =>
    obtain ⟨v, σ', H', J, rv, z⟩ := hq
    exact ⟨v, H', J.os, J.bare, J.base, J.hok, rv, z⟩
  | next =>
    obtain ⟨σ', H', J, z⟩ := hq
    exact ⟨V.non, H', J.os, J.bare, J.base, J.hok, rfl, z⟩
  | brk =>
    obtain ⟨_, _, _, z⟩ := hq
    exact z.elim
  | cont =>
    obtain ⟨_, _, _, z⟩ := hq
    exact z.elim

section
variable {X : Cx} {k : Nat} {f : Addr} {fd : FuncData} {ps : List Str} {sp : Sp} {Z : WX} {x : Str} {p pos : Pos} {e : Expr} {es : List Expr} {t : TA}
/-- a call by values -/
theorem run_G {pins : List (Addr × Obj)} {σ : St} {H : Hp} {s : Shared} {Q : VK} {us : List Value} {vs : List V} (F : FnG X.prog X.w X.K X.mg X.base k f fd ps sp) (room : Room k X.A) (gd : X.A.guards = some []) (bs : Binds X.K fd ps []) (tk : Takes X Z)
    (I : Inv X pins σ H s) (r : Vals vs us) (h : sp vs H Q (WE Z σ)) : wpAny (model X.prog X.w) X.A (call (.ref f) us) (EP X pins σ Q) X.xe s := by
  have n : us.length = ps.length := by rw [← r.length]; exact F.arity _ _ _ _ h
  have bb := bs s us I.kIn (by rw [List.append_nil]; exact n)
  rw [List.append_nil] at bb
  refine wpAny_call (codeAny_mono (F.go X.A X.stack s H ⟨us, []⟩ us vs Q (WE Z σ) room gd I.env0 bb r h) fun res s' q => ?_)
  cases res with
  | error err => exact passAt tk σ pins H s err s' I q
  | ok fl =>
    cases fl with
    | ret u => exact I.after q
    | _ => exact q.elim
/-- f(e, ..) -/
theorem pe_callG (F : FnG X.prog X.w X.K X.mg X.base k f fd ps sp) (room : Room k X.A) (gd : X.A.guards = some []) (hg : Gl X x) (hm : X.mg x = some (.ref f)) (kp : PySem.W.keepIn X.K (.ref f) = true) (bs : Binds X.K fd ps []) (tk : Takes X Z)
    (ha : PA X (e :: es) t) (nd : (x == ("__debug__" : Str)) = false) (st : starEach (e :: es) X.env = (false, eval e X.env) :: starEach es X.env) (pl : (backTo pos (starEach es X.env)).any (·.1) = false) :
    PE X (.Call (.Name x p) (e :: es) [] pos) (fun σ H Q => t σ H fun vs H1 => sp vs H1 Q (WE Z σ)) := by
  refine ⟨fun pins s σ H Q I h => wpAny_Call_Name_kw (ld_glob I hg hm ?_ nd)⟩
  exact PySem.W.callWith_K (h₀ := X.base) I.ok.mod.kin kp (thn (ha.run pos pins s σ H _ I h) fun us s1 ⟨vs, H1, I1, r, q⟩ => ⟨I1.kIn, run_G F room gd bs tk I1 r q⟩) st pl
theorem pe_callG0 (F : FnG X.prog X.w X.K X.mg X.base k f fd ps sp) (room : Room k X.A) (gd : X.A.guards = some []) (hg : Gl X x) (hm : X.mg x = some (.ref f)) (kp : PySem.W.keepIn X.K (.ref f) = true) (bs : Binds X.K fd ps []) (tk : Takes X Z)
    (nd : (x == ("__debug__" : Str)) = false) : PE X (.Call (.Name x p) [] [] pos) (fun σ H Q => sp [] H Q (WE Z σ)) := by
  refine ⟨fun pins s σ H Q I h => wpAny_Call_Name_kw (ld_glob I hg hm ?_ nd)⟩
  exact PySem.W.callWith_K0 I.kIn kp (run_G (us := []) F room gd bs tk I .nil h)
end

/-! ### the context of a den -/
structure Ctx where
  N : List Str
  sc : Scope
  /-- the names whose cells are this frame's own -/
  own : Str → Bool
  glob : Str → Option D
  fn : Str → Option (Nat × (List D → M D))
  isB : Str → Bool
  /-- own exception classes that are raised with a text -/
  xc : Str → Bool
  /-- does «except c» catch an exception of the class x -/
  cat : Str → Str → Option Bool
  hint : Pos → Nat
  k : Nat
  hot : Bool
  /-- f is an attribute of C's instances, not of C -/
  fld : Str → Str → Bool := fun _ _ => false
  /-- C's methods: the number of arguments behind self -/
  meth : Str → Str → Option (Nat × (List D → M D)) := fun _ _ => none
  /-- C's __init__ -/
  make : Str → Option (Nat × (List D → M D)) := fun _ => none
  /-- C's methods that the language calls: the number of arguments behind self -/
  dun : Str → Str → Option (Nat × (List D → M D)) := fun _ _ => none
  /-- C's properties -/
  prop : Str → Str → Option (List D → M D) := fun _ _ => none
  /-- C has no own __ne__ -/
  ne : Str → Bool := fun _ => false
  /-- C's class methods: the number of arguments behind cls -/
  cmeth : Str → Str → Option (Nat × (List D → M D)) := fun _ _ => none
  /-- an own class whose instances are asked for by isinstance -/
  cls : Str → Bool := fun _ => false
  /-- is an instance of the first one of the second -/
  sub : Str → Str → Option Bool := fun _ _ => none
/-- what isinstance asks of an own class -/
structure ClsIs (K : PySem.W.Frag) (C : Addr) : Prop where
  ha : PySem.W.findIn K (.ref C) "__class__" = some (some (.builtin "object.__class__"))
  hn : PySem.W.specialIn K (.builtin "object.__class__") "__get__" = some (some (.builtin "getset_descriptor.__get__"))
  htk : PySem.W.takesIn K (.builtin "object.__class__") = some true
  hm : PySem.W.mroIn K C (.type "object") = some true
/-- what the classes' facts must say -/
structure ObOk (P : Program) (w : World) (mg : Str → Option Value) (base : Heap) (W : Wd) (G : Ctx) : Prop where
  fld : ∀ C f, G.fld C f = true → Cls W.K (W.ca C) ∧ NoAttr W.K (W.ca C) f
  meth : ∀ C m n F, G.meth C m = some (n, F) → ∃ f fd ps, Cls W.K (W.ca C) ∧ Meth W.K (W.ca C) m f ∧ FnG P w W.K mg base G.k f fd ps (spOf W (n + 1) F) ∧ Binds W.K fd ps []
  make : ∀ C n F, G.make C = some (n, F) → mg C = some (.ref (W.ca C)) ∧ ∃ f fd ps j, j + 1 ≤ G.k ∧ L2.Mk W.K (W.ca C) f ∧ FnG P w W.K mg base j f fd ps (spOf W (n + 1) F) ∧ Binds W.K fd ps []
  dun : ∀ C m n F, G.dun C m = some (n, F) → ∃ f fd ps j, j + 2 ≤ G.k ∧ Cls W.K (W.ca C) ∧ Meth W.K (W.ca C) m f ∧ FnG P w W.K mg base j f fd ps (spOf W (n + 1) F) ∧ Binds W.K fd ps [] ∧ PySem.W.fnIn W.K f = true
  prop : ∀ C m F, G.prop C m = some F → ∃ p f fd ps j, j + 1 ≤ G.k ∧ Cls W.K (W.ca C) ∧ PropOf W.K (W.ca C) m p f ∧ FnG P w W.K mg base j f fd ps (spOf W 1 F) ∧ Binds W.K fd ps []
  ne : ∀ C, G.ne C = true → PySem.W.findIn W.K (.ref (W.ca C)) "__ne__" = some (some (.builtin "object.__ne__")) ∧ PySem.W.mroIn W.K (W.ca C) (.type "object") = some true
  cmeth : ∀ C m n F, G.cmeth C m = some (n, F) → ∃ mc p f fd ps, ClX.CRead W.K (W.ca C) mc ∧ ClX.CMet W.K (W.ca C) mc m p f ∧ FnG P w W.K mg base G.k f fd ps (spOf W (n + 1) F) ∧ Binds W.K fd ps []
  cls : ∀ C, G.cls C = true → Cls W.K (W.ca C) ∧ ClsIs W.K (W.ca C) ∧ ∀ t ∈ ["NoneType", "bool", "int", "str", "tuple", "list", "dict"], PySem.W.kitOne W.K (.type t) (.ref (W.ca C)) = some false
  sub : ∀ C B b, G.sub C B = some b → PySem.W.kitOne W.K (.ref (W.ca C)) (.ref (W.ca B)) = some b
/-- what the module's facts must say -/
structure GOk (P : Program) (w : World) (mg : Str → Option Value) (base : Heap) (W : Wd) (G : Ctx) : Prop where
  glob : ∀ x d, G.glob x = some d → ∃ u v, mg x = some u ∧ RelV v u ∧ ∀ m, Den W m d v
  bl : ∀ x, G.isB x = true → mg x = none
  fn : ∀ x n F, G.fn x = some (n, F) → ∃ f fd ps, FnG P w W.K mg base G.k f fd ps (spOf W n F) ∧ mg x = some (.ref f) ∧ PySem.W.keepIn W.K (.ref f) = true ∧ Binds W.K fd ps []
  xc : ∀ x, G.xc x = true → mg x = some (.ref (W.ca x)) ∧ PySem.W.keepIn W.K (.ref (W.ca x)) = true ∧ PySem.W.excIn W.K (W.ca x) [.type "ValueError", .type "Exception", .type "BaseException", .type "object"] "ValueError.__new__" = true ∧
    PySem.W.subIn W.K (.ref (W.ca x)) (.type "BaseException") = some true ∧ PySem.W.typeIn W.K (.ref (W.ca x)) = some (.type "type")
  cat : ∀ c x b, G.cat c x = some b → mg c = some (.ref (W.ca c)) ∧ PySem.W.exmOne W.K (.ref (W.ca x)) (.ref (W.ca c)) = some b
  ob : ObOk P w mg base W G
/-- an expression's context -/
structure EOk (W : Wd) (X : Cx) (Z : WX) (G : Ctx) : Prop where
  K : X.K = W.K
  N : X.N = G.N
  nd : X.N.Nodup
  sc : X.env.scope = G.sc
  own : X.fn = G.own
  tk : Takes X Z
  calm : G.hot = false → X.calm = true
  room : G.hot = false → Room G.k X.A
  un : X.A.units + 64 < cLine
  gd : X.A.guards = some []
  g : GOk X.prog X.w X.mg X.base W G
/-- a statement's context -/
structure SOk (W : Wd) (X : Cx) (Z : WX) (G : Ctx) : Prop where
  e : EOk W X Z G
  pass : PassesOwn (model X.prog X.w) X.A X.env X.xe
  stk : X.stack = X.env :: X.outer
  frm : X.env.frame = some X.env.locals
  kind : G.sc.kind = .function
end Pu

set_option Elab.async false
set_option linter.all false
set_option maxRecDepth 100000
/-! Pu3: plain operations on data, each with the rule that the model keeps it. -/
namespace Pu
open PySem L2

/-! ### what a thing holds -/
def asL (μ : Sto) : D → Option (List D)
  | .lst ds => some ds
  | .cell i => match μ[i]? with
    | some (.lst ds) => some ds
    | _ => none
  | _ => none
def asQ (μ : Sto) : D → Option (List D)
  | .frz ds => some ds
  | d => asL μ d
def asS (μ : Sto) : D → Option (List D)
  | .tup ds => some ds
  | d => asQ μ d
/-! ### dicts -/
def keyOf : D → Option Key
  | .int i => some (.inl i)
  | .str x => some (.inr x)
  | _ => none
def valD (kvs : List (Key × D)) (k : Key) : Option D := (kvs.find? fun kv => decide (kv.1 = k)).map (·.2)
def asD (μ : Sto) : D → Option (List (Key × D))
  | .dic kvs => some kvs
  | .cell i => match μ[i]? with
    | some (.dic kvs) => some kvs
    | _ => none
  | _ => none
def asT (μ : Sto) : D → Option (List (List Key × D))
  | .cell i => match μ[i]? with
    | some (.dt kvs) => some kvs
    | _ => none
  | _ => none
section
variable {W : Wd}
theorem keyOf_den {m : Mem} {d : D} {v : V} {k : Key} (h : Den W m d v) (e : keyOf d = some k) : v = kV k := by
  cases d with
  | int i => cases h; cases e; rfl
  | str i => cases h; cases e; rfl
  | _ => cases e
theorem valD_den {m : Mem} {k : Key} : ∀ {kvs : List (Key × D)} {kv : List (Key × V)}, DenK W m kvs kv → (∀ d, valD kvs k = some d → ∃ v, valV kv k = some v ∧ Den W m d v) ∧ (valD kvs k = none → valV kv k = none)
  | _, _, .nil => ⟨(fun d e => nomatch e), fun _ => rfl⟩
  | _, _, .cons (k := k') (d := d) (v := v) h t => by
    obtain ⟨i1, i2⟩ := valD_den (k := k) t
    unfold valD valV at *
    by_cases e : k' = k
    · subst e
      simp only [List.find?_cons, decide_true, Option.map_some]
      exact ⟨(fun d' e => by cases e; exact ⟨v, rfl, h⟩), (fun e => nomatch e)⟩
    · simp only [List.find?_cons, e, decide_false]
      exact ⟨i1, i2⟩
def keyAs : Key → D
  | .inl i => .int i
  | .inr x => .str x
def keysD (kvs : List (Key × D)) : List D := kvs.map fun kv => keyAs kv.1
theorem den_key {m : Mem} (k : Key) : Den W m (keyAs k) (kV k) := by
  cases k with
  | inl i => exact .int i
  | inr x => exact .str x
theorem den_keys {m : Mem} : ∀ {kvs : List (Key × D)} {kv : List (Key × V)}, DenK W m kvs kv → DenL W m (keysD kvs) (kv.map fun kv => kV kv.1)
  | _, _, .nil => .nil
  | _, _, .cons (k := k) _ t => .cons (den_key k) (den_keys t)
theorem asD_den {m : Mem} {d : D} {v : V} {kvs : List (Key × D)} (g : Okm W m) (h : Den W m d v) (e : asD m.μ d = some kvs) : ∃ a kv, v = .ref a ∧ Rd m.H a (.dK kv) ∧ DenK W m kvs kv := by
  cases h with
  | @dic _ a kv' ob h1 h2 h3 => simp [asD] at e; subst e; exact ⟨a, kv', rfl, .inr ⟨ob, h1⟩, h3⟩
  | @cell i a h1 =>
    simp only [asD] at e
    cases q : m.μ[i]? with
    | none => rw [q] at e; cases e
    | some o =>
      rw [q] at e
      cases o with
      | dic xs =>
        simp at e; subst e
        obtain ⟨vs, h2, h3⟩ := g.ok i _ a q h1
        exact ⟨a, vs, rfl, .inl h2, h3⟩
      | _ => cases e
  | _ => simp [asD] at e
theorem asT_den {m : Mem} {d : D} {v : V} {kvs : List (List Key × D)} (g : Okm W m) (h : Den W m d v) (e : asT m.μ d = some kvs) : ∃ a kv, v = .ref a ∧ m.H a = some (.dT kv) ∧ DenT W m kvs kv := by
  cases h with
  | @cell i a h1 =>
    simp only [asT] at e
    cases q : m.μ[i]? with
    | none => rw [q] at e; cases e
    | some o =>
      rw [q] at e
      cases o with
      | dt xs =>
        simp at e; subst e
        obtain ⟨vs, h2, h3⟩ := g.ok i _ a q h1
        exact ⟨a, vs, rfl, h2, h3⟩
      | _ => cases e
  | _ => simp [asT] at e
theorem tup_still {m : Mem} {b : Addr} {vs : List V} (g : Okm W m) (h : m.H b = some (.tup vs)) : ¬ m.live b := by
  rintro (⟨i, o, e1, e2, n⟩ | l)
  · have z := g.ok i o b e2 e1
    cases o with
    | lst _ => obtain ⟨_, z, _⟩ := z; rw [h] at z; cases z
    | dic _ => obtain ⟨_, z, _⟩ := z; rw [h] at z; cases z
    | dt _ => obtain ⟨_, z, _⟩ := z; rw [h] at z; cases z
    | obj _ _ => obtain ⟨_, _, z, _⟩ := z; rw [h] at z; cases z
    | dead => exact n rfl
  · exact g.pvn b l vs h
theorem den_keysL {m : Mem} : ∀ ks : List Key, DenL W m (ks.map keyAs) (ks.map kV)
  | [] => .nil
  | k :: r => .cons (den_key k) (den_keysL r)
def keysT (kvs : List (List Key × D)) : List D := kvs.map fun kv => .tup (kv.1.map keyAs)
theorem den_keysT {m : Mem} (g : Okm W m) : ∀ {kvs : List (List Key × D)} {kv : List (List Key × V)} {bs : List Addr}, DenT W m kvs kv → Paired (fun p b => m.H b = some (.tup (p.1.map kV))) kv bs → DenL W m (keysT kvs) (bs.map V.ref)
  | _, _, _, .nil, .nil => .nil
  | _, _, _, .cons (k := k) h t, .cons e r => .cons (.tup (.inl ⟨.inl e, tup_still g e⟩) (den_keysL k)) (den_keysT g t r)
end
section
variable {W : Wd} {m : Mem} {d : D} {v : V} {ds : List D}
theorem asL_den (g : Okm W m) (h : Den W m d v) (e : asL m.μ d = some ds) : ∃ a vs, v = .ref a ∧ m.H a = some (.lst vs) ∧ DenL W m ds vs := by
  cases h with
  | lst h1 h2 h3 => simp [asL] at e; subst e; exact ⟨_, _, rfl, h1, h3⟩
  | @cell i a h1 =>
    simp only [asL] at e
    cases q : m.μ[i]? with
    | none => rw [q] at e; cases e
    | some o =>
      rw [q] at e
      cases o with
      | lst xs =>
        simp at e; subst e
        obtain ⟨vs, h2, h3⟩ := g.ok i _ a q h1
        exact ⟨a, vs, rfl, h2, h3⟩
      | _ => cases e
  | _ => simp [asL] at e
theorem asQ_den (g : Okm W m) (h : Den W m d v) (e : asQ m.μ d = some ds) : ∃ a vs, v = .ref a ∧ SqL W.K m.H a vs ∧ DenL W m ds vs := by
  cases d with
  | frz xs =>
    simp [asQ] at e; subst e
    cases h with
    | frz h1 h2 => exact ⟨_, _, rfl, h1.sq, h2⟩
  | _ =>
    obtain ⟨a, vs, h1, h2, h3⟩ := asL_den g h (by simpa only [asQ] using e)
    exact ⟨a, vs, h1, .inl (.inl h2), h3⟩
theorem asS_den (g : Okm W m) (h : Den W m d v) (e : asS m.μ d = some ds) : ∃ a vs, v = .ref a ∧ (SqL W.K m.H a vs ∨ SqT W.K m.H a vs) ∧ DenL W m ds vs := by
  cases d with
  | tup xs =>
    simp [asS] at e; subst e
    cases h with
    | tup h1 h2 => exact ⟨_, _, rfl, .inr h1.sq, h2⟩
  | _ =>
    obtain ⟨a, vs, h1, h2, h3⟩ := asQ_den g h (by simpa only [asS] using e)
    exact ⟨a, vs, h1, .inl h2, h3⟩
end

/-! ### readings by values -/
def out (W : Wd) (m : Mem) (E : Ex → Mem → Prop) (Q : VK) (r : R D) : Prop := wpR W m E (fun d m' => ∀ v, Den W m' d v → Q v m'.H) r
def R1of (W : Wd) (p : D → M D) : V → Hp → VK → Prop := fun x H Q => ∃ E a m, m.H = H ∧ Okm W m ∧ Den W m a x ∧ out W m E Q (p a m.μ)
def R2of (W : Wd) (p : D → D → M D) : R2 := fun x y H Q => ∃ E a b m, m.H = H ∧ Okm W m ∧ Den W m a x ∧ Den W m b y ∧ out W m E Q (p a b m.μ)
def RCof (W : Wd) (p : List D → M D) : List V → Hp → VK → Prop := fun xs H Q => ∃ E ds m, m.H = H ∧ Okm W m ∧ DenL W m ds xs ∧ out W m E Q (p ds m.μ)
def RMof (W : Wd) (p : D → List D → M D) : V → List V → Hp → VK → Prop := fun x xs H Q => ∃ E d ds m, m.H = H ∧ Okm W m ∧ Den W m d x ∧ DenL W m ds xs ∧ out W m E Q (p d ds m.μ)
def RSof (W : Wd) (p : D → Option Int → Option Int → M D) : V → Option Int → Option Int → Hp → VK → Prop := fun x lo hi H Q => ∃ E a m, m.H = H ∧ Okm W m ∧ Den W m a x ∧ out W m E Q (p a lo hi m.μ)
section
variable {W : Wd} {m : Mem} {E : Ex → Mem → Prop} {Q : VK} {d : D} {v : V} {ds : List D} {vs : List V} {p : Addr}
theorem out.same (h : out W m E Q (.ok d m.μ)) (g : Okm W m) (r : Den W m d v) : Q v m.H := h m (Step.refl m) g rfl v r
theorem out.tup (h : out W m E Q (.ok (.tup ds) m.μ)) (g : Okm W m) (l : DenL W m ds vs) (hp : m.H p = none) : Q (.ref p) (upd m.H p (.tup vs)) := h (m.put p _) (step_put g hp) (good_put g hp) rfl _ (den_tup g hp l)
theorem out.lst (h : out W m E Q (.ok (.lst ds) m.μ)) (g : Okm W m) (l : DenL W m ds vs) (hp : m.H p = none) : Q (.ref p) (upd m.H p (.lst vs)) := h (m.put p _) (step_put g hp) (good_put g hp) rfl _ (den_lst g hp l)
theorem out.dic {ks : List (Key × D)} {kv : List (Key × V)} (h : out W m E Q (.ok (.dic ks) m.μ)) (g : Okm W m) (l : DenK W m ks kv) (hp : m.H p = none) (ob : Obj) : Q (.ref p) (upd m.H p (.frz ob (.dK kv))) := h (m.put p _) (step_put g hp) (good_put g hp) rfl _ (den_dic g hp l)
/-- a new cell that is a list -/
theorem out.cel (h : out W m E Q (.ok (.cell m.μ.length) (m.μ ++ [.lst ds]))) (g : Okm W m) (l : DenL W m ds vs) (hp : m.H p = none) : Q (.ref p) (upd m.H p (.lst vs)) := by
  have st : Step m (m.grow p (.lst vs) (.lst ds)) := step_grow g hp
  refine h (m.grow p (.lst vs) (.lst ds)) st (good_grow g hp ⟨vs, upd_same, l.mono st⟩) rfl _ ?_
  rw [← g.len]
  exact den_grow
end

/-! ### + - * // % ** of two -/
def addD (a b : D) : M D := fun μ => match a, b with
  | .int i, .int j => .ok (.int (i + j)) μ
  | .str x, .str y => if x.length + y.length ≤ sizeLine then .ok (.str (x ++ y)) μ else .stuck
  | .tup xs, .tup ys => if xs.length + ys.length ≤ sizeLine then .ok (.tup (xs ++ ys)) μ else .stuck
  | _, _ => match asL μ a, asL μ b with
    | some xs, some ys => if xs.length + ys.length ≤ sizeLine then .ok (.lst (xs ++ ys)) μ else .stuck
    | _, _ => .stuck
def subD (a b : D) : M D := fun μ => match a, b with
  | .int i, .int j => .ok (.int (i - j)) μ
  | _, _ => .stuck
def mulD (a b : D) : M D := fun μ => match a, b with
  | .int i, .int j => if i.natAbs.log2 + j.natAbs.log2 < 1000000 then .ok (.int (i * j)) μ else .stuck
  | _, .int k => match asL μ a with
    | some xs => if k < 2 ^ 63 ∧ -(2 ^ 63) ≤ k ∧ xs.length * k.toNat ≤ sizeLine then .ok (.lst (List.replicate k.toNat xs).flatten) μ else .stuck
    | none => .stuck
  | _, _ => .stuck
def fdivD (a b : D) : M D := fun μ => match a, b with
  | .int i, .int j => if 0 < j ∧ j.natAbs.log2 < 9000 then .ok (.int (i / j)) μ else .stuck
  | _, _ => .stuck
def modD (a b : D) : M D := fun μ => match a, b with
  | .int i, .int j => if 0 < j then .ok (.int (i % j)) μ else .stuck
  | _, _ => .stuck
def powD (a b : D) : M D := fun μ => match a, b with
  | .int i, .int j => if 0 ≤ j ∧ (Builtin.Int.intBits i : Int) * j ≤ 2 ^ 27 then .ok (.int (i ^ j.toNat)) μ else .stuck
  | _, _ => .stuck
def binD : Operator → D → D → M D
  | .Add => addD
  | .Sub => subD
  | .Mult => mulD
  | .FloorDiv => fdivD
  | .Mod => modD
  | .Pow => powD
  | _ => fun _ _ => stuck
section
variable {W : Wd} {X : Cx}
theorem DenL.flat {m : Mem} {xs : List D} {vs : List V} (l : DenL W m xs vs) : ∀ n, DenL W m (List.replicate n xs).flatten (List.replicate n vs).flatten
  | 0 => .nil
  | n + 1 => by
    rw [List.replicate_succ, List.replicate_succ, List.flatten_cons, List.flatten_cons]
    exact l.append (DenL.flat l n)
theorem op_addD (hK : X.K = W.K) : OpR X (binaryOp .Add) (R2of W addD) := by
  intro pins s σ H x y v u Q I rx ry h
  obtain ⟨E, a, b, m, rfl, g, ha, hb, q⟩ := h
  have lists : ∀ xs ys, asL m.μ a = some xs → asL m.μ b = some ys → (if xs.length + ys.length ≤ sizeLine then out W m E Q (.ok (.lst (xs ++ ys)) m.μ) else False) → wpAny (model X.prog X.w) X.A (binaryOp .Add v u) (EP X pins σ Q) X.xe s := by
    intro xs ys e1 e2 q
    obtain ⟨a1, vs, rfl, h1, l1⟩ := asL_den g ha e1
    obtain ⟨b1, ws, rfl, h2, l2⟩ := asL_den g hb e2
    split at q
    · rename_i hz
      exact op_cat pins s σ m.H _ _ v u Q I rx ry ⟨a1, b1, vs, ws, rfl, rfl, h1, h2, by rw [← l1.length, ← l2.length]; exact hz, fun p hp => q.lst g (l1.append l2) hp⟩
    · exact q.elim
  have gen : ∀ (q : out W m E Q (match asL m.μ a, asL m.μ b with
      | some xs, some ys => if xs.length + ys.length ≤ sizeLine then .ok (.lst (xs ++ ys)) m.μ else .stuck
      | _, _ => .stuck)), wpAny (model X.prog X.w) X.A (binaryOp .Add v u) (EP X pins σ Q) X.xe s := by
    intro q
    cases e1 : asL m.μ a with
    | none => rw [e1] at q; exact (show False from q).elim
    | some xs =>
      cases e2 : asL m.μ b with
      | none => rw [e1, e2] at q; exact (show False from q).elim
      | some ys =>
        rw [e1, e2] at q
        refine lists xs ys e1 e2 ?_
        have q' : out W m E Q (if xs.length + ys.length ≤ sizeLine then .ok (.lst (xs ++ ys)) m.μ else .stuck) := q
        split at q'
        · rename_i hz; rw [if_pos hz]; exact q'
        · exact (show False from q').elim
  cases ha with
  | int i =>
    cases hb with
    | int j => exact op_add pins s σ m.H _ _ v u Q I rx ry ⟨i, j, rfl, rfl, out.same (d := .int (i + j)) q g (.int _)⟩
    | _ => exact gen q
  | str i =>
    cases hb with
    | str j =>
      have q' : out W m E Q (if i.length + j.length ≤ sizeLine then .ok (.str (i ++ j)) m.μ else .stuck) := q
      split at q'
      · rename_i hz
        exact op_add_str pins s σ m.H _ _ v u Q I rx ry ⟨i, j, rfl, rfl, hz, q'.same g (.str _)⟩
      · exact (show False from q').elim
    | _ => exact gen q
  | @tup xs a1 vs h1 l1 =>
    cases hb with
    | @tup ys b1 ws h2 l2 =>
      have q' : out W m E Q (if xs.length + ys.length ≤ sizeLine then .ok (.tup (xs ++ ys)) m.μ else .stuck) := q
      split at q'
      · rename_i hz
        refine op_catA pins s σ m.H _ _ v u Q I rx ry ⟨a1, b1, vs, ws, rfl, rfl, by rw [hK]; exact h1.sq, by rw [hK]; exact h2.sq, by rw [← l1.length, ← l2.length]; exact hz, fun e => ?_, fun _ e => ?_, fun _ _ p hp => ?_⟩
        · subst e
          cases l1
          exact q'.same g (.tup h2 (by simpa using l2))
        · subst e
          cases l2
          exact q'.same g (.tup h1 (by simpa using l1))
        · exact q'.tup g (l1.append l2) hp
      · exact (show False from q').elim
    | _ => exact gen q
  | _ => exact gen (by cases hb <;> exact q)
theorem op_subD : OpR X (binaryOp .Sub) (R2of W subD) := by
  intro pins s σ H x y v u Q I rx ry h
  obtain ⟨E, a, b, m, rfl, g, ha, hb, q⟩ := h
  cases ha with
  | int i =>
    cases hb with
    | int j => exact op_sub pins s σ m.H _ _ v u Q I rx ry ⟨i, j, rfl, rfl, out.same (d := .int (i - j)) q g (.int _)⟩
    | _ => exact (show False from q).elim
  | _ => exact (show False from q).elim
theorem op_mulD : OpR X (binaryOp .Mult) (R2of W mulD) := by
  intro pins s σ H x y v u Q I rx ry h
  obtain ⟨E, a, b, m, rfl, g, ha, hb, q⟩ := h
  have gen : ∀ k, y = .int k → out W m E Q (match asL m.μ a with
      | some xs => if k < 2 ^ 63 ∧ -(2 ^ 63) ≤ k ∧ xs.length * k.toNat ≤ sizeLine then .ok (.lst (List.replicate k.toNat xs).flatten) m.μ else .stuck
      | none => .stuck) → wpAny (model X.prog X.w) X.A (binaryOp .Mult v u) (EP X pins σ Q) X.xe s := by
    intro k ey q
    cases e1 : asL m.μ a with
    | none => rw [e1] at q; exact (show False from q).elim
    | some xs =>
      rw [e1] at q
      have q' : out W m E Q (if k < 2 ^ 63 ∧ -(2 ^ 63) ≤ k ∧ xs.length * k.toNat ≤ sizeLine then .ok (.lst (List.replicate k.toNat xs).flatten) m.μ else .stuck) := q
      split at q'
      · rename_i hz
        obtain ⟨a1, vs, rfl, h1, l1⟩ := asL_den g ha e1
        exact op_rep pins s σ m.H _ _ v u Q I rx ry ⟨a1, k, vs, rfl, ey, h1, hz.2.1, hz.1, by rw [← l1.length]; exact hz.2.2, fun p hp => q'.lst g (l1.flat _) hp⟩
      · exact (show False from q').elim
  cases hb with
  | int j =>
    cases ha with
    | int i =>
      have q' : out W m E Q (if i.natAbs.log2 + j.natAbs.log2 < 1000000 then .ok (.int (i * j)) m.μ else .stuck) := q
      split at q'
      · rename_i hz
        exact op_mulW pins s σ m.H _ _ v u Q I rx ry ⟨i, j, rfl, rfl, hz, q'.same g (.int _)⟩
      · exact (show False from q').elim
    | _ => exact gen j rfl q
  | _ => exact (show False from by cases ha <;> exact q).elim
theorem op_fdivD : OpR X (binaryOp .FloorDiv) (R2of W fdivD) := by
  intro pins s σ H x y v u Q I rx ry h
  obtain ⟨E, a, b, m, rfl, g, ha, hb, q⟩ := h
  cases ha with
  | int i =>
    cases hb with
    | int j =>
      have q' : out W m E Q (if 0 < j ∧ j.natAbs.log2 < 9000 then .ok (.int (i / j)) m.μ else .stuck) := q
      split at q'
      · rename_i hz
        exact op_fdivW pins s σ m.H _ _ v u Q I rx ry ⟨i, j, rfl, rfl, hz, q'.same g (.int _)⟩
      · exact (show False from q').elim
    | _ => exact (show False from q).elim
  | _ => exact (show False from q).elim
theorem op_modD : OpR X (binaryOp .Mod) (R2of W modD) := by
  intro pins s σ H x y v u Q I rx ry h
  obtain ⟨E, a, b, m, rfl, g, ha, hb, q⟩ := h
  cases ha with
  | int i =>
    cases hb with
    | int j =>
      have q' : out W m E Q (if 0 < j then .ok (.int (i % j)) m.μ else .stuck) := q
      split at q'
      · rename_i hz
        exact op_mod pins s σ m.H _ _ v u Q I rx ry ⟨i, j, rfl, rfl, hz, q'.same g (.int _)⟩
      · exact (show False from q').elim
    | _ => exact (show False from q).elim
  | _ => exact (show False from q).elim
theorem op_powD : OpR X (binaryOp .Pow) (R2of W powD) := by
  intro pins s σ H x y v u Q I rx ry h
  obtain ⟨E, a, b, m, rfl, g, ha, hb, q⟩ := h
  cases ha with
  | int i =>
    cases hb with
    | int j =>
      have q' : out W m E Q (if 0 ≤ j ∧ (Builtin.Int.intBits i : Int) * j ≤ 2 ^ 27 then .ok (.int (i ^ j.toNat)) m.μ else .stuck) := q
      split at q'
      · rename_i hz
        obtain ⟨t, rfl⟩ := rx
        obtain ⟨t', rfl⟩ := ry
        exact PyProof.Rows.pow_int hz.1 hz.2 ⟨.int _, m.H, I.tok _, ⟨_, rfl⟩, q'.same g (.int _)⟩
      · exact (show False from q').elim
    | _ => exact (show False from q).elim
  | _ => exact (show False from q).elim
theorem op_binD (hK : X.K = W.K) : ∀ op, OpR X (binaryOp op) (R2of W (binD op))
  | .Add => op_addD hK
  | .Sub => op_subD
  | .Mult => op_mulD
  | .FloorDiv => op_fdivD
  | .Mod => op_modD
  | .Pow => op_powD
  | .MatMult | .Div | .LShift | .RShift | .BitOr | .BitXor | .BitAnd => fun _ _ _ _ _ _ _ _ _ _ _ _ ⟨_, _, _, _, _, _, _, _, q⟩ => (show False from q).elim
/-! ### -x -/
def negD (a : D) : M D := fun μ => match a with
  | .int i => .ok (.int (-i)) μ
  | _ => .stuck
theorem un_negD : UnR X (unaryOp .USub) (R1of W negD) := by
  intro pins s σ H x v Q I rx h
  obtain ⟨E, a, m, rfl, g, ha, q⟩ := h
  cases ha with
  | int i => exact un_neg pins s σ m.H _ v Q I rx ⟨i, rfl, out.same (d := .int (-i)) q g (.int _)⟩
  | _ => exact (show False from q).elim
/-! ### truth -/
def truthD (a : D) : M Bool := fun μ => match a with
  | .non => .ok false μ
  | .bl b => .ok b μ
  | .int i => .ok (i != 0) μ
  | .str x => if x.length ≤ sizeLine then .ok ((x.length : Int) != 0) μ else .stuck
  | _ => match asS μ a with
    | some xs => .ok (!xs.isEmpty) μ
    | none => .stuck
theorem DenL.empty {m : Mem} {xs : List D} {vs : List V} (l : DenL W m xs vs) : xs.isEmpty = vs.isEmpty := by cases l <;> rfl
theorem DenK.empty {m : Mem} {xs : List (Key × D)} {vs : List (Key × V)} (l : DenK W m xs vs) : xs.isEmpty = vs.isEmpty := by cases l <;> rfl
theorem truth_den {m : Mem} {a : D} {x : V} {k : Bool} {μ' : Sto} (g : Okm W m) (ha : Den W m a x) (q : truthD a m.μ = .ok k μ') : μ' = m.μ ∧ TruV W.K x m.H k := by
  have gen : (match asS m.μ a with
    | some xs => R.ok (!xs.isEmpty) m.μ
    | none => .stuck) = .ok k μ' → μ' = m.μ ∧ TruV W.K x m.H k := by
    intro q
    cases e : asS m.μ a with
    | none => rw [e] at q; cases q
    | some xs =>
      rw [e] at q
      obtain ⟨p, vs, rfl, h1, l⟩ := asS_den g ha e
      cases q
      refine ⟨rfl, ?_⟩
      rcases h1 with h1 | h1
      · exact .inl ⟨vs, h1, by rw [l.empty]⟩
      · exact .inr (.inl ⟨vs, h1, by rw [l.empty]⟩)
  cases ha with
  | non => cases q; exact ⟨rfl, rfl⟩
  | bl b => cases q; exact ⟨rfl, rfl⟩
  | int i => cases q; exact ⟨rfl, rfl⟩
  | str z =>
    have q' : (if z.length ≤ sizeLine then R.ok ((z.length : Int) != 0) m.μ else .stuck) = .ok k μ' := q
    split at q'
    · rename_i hz; cases q'; exact ⟨rfl, hz, rfl⟩
    · cases q'
  | dic h1 h2 l => exact gen q
  | tup h l => exact gen q
  | lst h n l => exact gen q
  | frz h l => exact gen q
  | cell h => exact gen q
  | ty n => exact gen q
  | adr n => exact gen q
  | obj h n l => exact gen q
/-! ### comparisons -/
mutual
def toPy : D → Option PyData
  | .non => some .none
  | .bl b => some (.bool b)
  | .int i => some (.int i)
  | .str x => some (.str x)
  | .tup xs => (toPyL xs).map .tuple
  | .lst xs => (toPyL xs).map .list
  | .frz xs => (toPyL xs).map .list
  | _ => none
def toPyL : List D → Option (List PyData)
  | [] => some []
  | d :: ds => match toPy d, toPyL ds with
    | some p, some ps => some (p :: ps)
    | _, _ => none
end
mutual
theorem toPy_dp {m : Mem} : ∀ {d : D} {v : V} {p : PyData}, Den W m d v → toPy d = some p → Dp W.K m.H v p
  | _, _, _, .non, e => by simp [toPy] at e; subst e; exact .non
  | _, _, _, .bl b, e => by simp [toPy] at e; subst e; exact .bl b
  | _, _, _, .int b, e => by simp [toPy] at e; subst e; exact .int b
  | _, _, _, .str b, e => by simp [toPy] at e; subst e; exact .str b
  | _, _, _, .ty b, e => by simp [toPy] at e
  | _, _, _, .adr b, e => by simp [toPy] at e
  | _, _, _, .cell _, e => by simp [toPy] at e
  | _, _, _, .dic _ _ _, e => by simp [toPy] at e
  | _, _, _, .obj _ _ _, e => by simp [toPy] at e
  | .tup xs, _, _, .tup h l, e => by
    cases q : toPyL xs with
    | none => simp [toPy, q] at e
    | some ps => simp [toPy, q] at e; subst e; exact .tup h.sq (toPyL_dp l q)
  | .lst xs, _, _, .lst h n l, e => by
    cases q : toPyL xs with
    | none => simp [toPy, q] at e
    | some ps => simp [toPy, q] at e; subst e; exact .lst (.inl (.inl h)) (toPyL_dp l q)
  | .frz xs, _, _, .frz h l, e => by
    cases q : toPyL xs with
    | none => simp [toPy, q] at e
    | some ps => simp [toPy, q] at e; subst e; exact .lst h.sq (toPyL_dp l q)
theorem toPyL_dp {m : Mem} : ∀ {ds : List D} {vs : List V} {ps : List PyData}, DenL W m ds vs → toPyL ds = some ps → DpAll W.K m.H vs ps
  | _, _, _, .nil, e => by simp [toPyL] at e; subst e; exact .nil
  | d :: ds, _, _, .cons h t, e => by
    cases q : toPy d with
    | none => simp [toPyL, q] at e
    | some p =>
      cases q2 : toPyL ds with
      | none => simp [toPyL, q, q2] at e
      | some ps => simp [toPyL, q, q2] at e; subst e; exact .cons (toPy_dp h q) (toPyL_dp t q2)
end
/-- a top thing that may be a cell -/
def toPyT (μ : Sto) (d : D) : Option PyData := match asL μ d with
  | some xs => (toPyL xs).map .list
  | none => toPy d
theorem toPyT_dp {m : Mem} {d : D} {v : V} {p : PyData} (g : Okm W m) (h : Den W m d v) (e : toPyT m.μ d = some p) : Dp W.K m.H v p := by
  unfold toPyT at e
  cases q : asL m.μ d with
  | none => rw [q] at e; exact toPy_dp h e
  | some xs =>
    rw [q] at e
    obtain ⟨a, vs, rfl, h1, l⟩ := asL_den g h q
    cases q2 : toPyL xs with
    | none => simp [q2] at e
    | some ps => simp [q2] at e; subst e; exact .lst (.inl (.inl h1)) (toPyL_dp l q2)
def eqB (μ : Sto) (a b : D) : Option Bool := match a, b with
  | .non, .non => some true
  | .int i, .int j => some (decide (i = j))
  | .bl i, .bl j => some (decide (i = j))
  | .str i, .str j => some (decide (i = j))
  | _, _ => match toPyT μ a, toPyT μ b with
    | some p, some q => if SeqAt.shaped p = true ∧ SeqAt.shaped q = true then some (PyData.eqv p q) else none
    | _, _ => none
def eqD (neg : Bool) (a b : D) : M D := fun μ => match eqB μ a b with
  | some k => .ok (.bl (if neg then !k else k)) μ
  | none => .stuck
theorem eqB_op {pins : List (Addr × Obj)} {s : Shared} {σ : St} {m : Mem} {a b : D} {x y : V} {v u : Value} {Q : VK} {k : Bool} (hK : X.K = W.K) (hu : X.A.units + 64 < cLine) (I : Inv X pins σ m.H s) (g : Okm W m) (ha : Den W m a x) (hb : Den W m b y)
    (rx : RelV x v) (ry : RelV y u) (e : eqB m.μ a b = some k) (neg : Bool) (q : Q (.bl (if neg then !k else k)) m.H) : wpAny (model X.prog X.w) X.A (compareOp (if neg then .NotEq else .Eq) v u) (EP X pins σ Q) X.xe s := by
  have scalar : scal x y = true → k = decide (x = y) → wpAny (model X.prog X.w) X.A (compareOp (if neg then .NotEq else .Eq) v u) (EP X pins σ Q) X.xe s := by
    intro h1 h2
    subst h2
    cases neg with
    | false => exact op_eq pins s σ m.H _ _ v u Q I rx ry ⟨h1, q⟩
    | true => exact op_ne pins s σ m.H _ _ v u Q I rx ry ⟨h1, q⟩
  have gen : (match toPyT m.μ a, toPyT m.μ b with
    | some p, some q => if SeqAt.shaped p = true ∧ SeqAt.shaped q = true then some (PyData.eqv p q) else none
    | _, _ => none) = some k → wpAny (model X.prog X.w) X.A (compareOp (if neg then .NotEq else .Eq) v u) (EP X pins σ Q) X.xe s := by
    intro e
    cases e1 : toPyT m.μ a with
    | none => rw [e1] at e; cases e
    | some p1 =>
      cases e2 : toPyT m.μ b with
      | none => rw [e1, e2] at e; cases e
      | some p2 =>
        rw [e1, e2] at e
        have e' : (if SeqAt.shaped p1 = true ∧ SeqAt.shaped p2 = true then some (PyData.eqv p1 p2) else none) = some k := e
        split at e'
        · rename_i hz
          cases e'
          have d1 := toPyT_dp g ha e1
          have d2 := toPyT_dp g hb e2
          rw [← hK] at d1 d2
          cases neg with
          | false => exact op_eqD hu pins s σ m.H _ _ v u Q I rx ry ⟨p1, p2, d1, d2, hz.1, hz.2, q⟩
          | true => exact op_neD hu pins s σ m.H _ _ v u Q I rx ry ⟨p1, p2, d1, d2, hz.1, hz.2, q⟩
        · cases e'
  cases ha with
  | non => cases hb with
    | non => cases e; exact scalar rfl rfl
    | _ => exact gen e
  | bl i => cases hb with
    | bl j => cases e; exact scalar rfl (by simp)
    | _ => exact gen e
  | int i => cases hb with
    | int j => cases e; exact scalar rfl (by simp)
    | _ => exact gen e
  | str i => cases hb with
    | str j => cases e; exact scalar rfl (by simp)
    | _ => exact gen e
  | _ => exact gen (by cases hb <;> exact e)
def ltD (a b : D) : M D := fun μ => match a, b with
  | .int i, .int j => .ok (.bl (decide (i < j))) μ
  | .str i, .str j => .ok (.bl (decide (i.cps.toList < j.cps.toList))) μ
  | .tup xs, .tup ys => (match toPyL xs, toPyL ys with
    | some p, some q => if PySem.W.alikeAll p q = true ∧ (PyData.tuple p).depth ≤ 60 then .ok (.bl (PySem.W.dataLt (.tuple p) (.tuple q))) μ else .stuck
    | _, _ => .stuck)
  | _, _ => .stuck
def leD (a b : D) : M D := fun μ => match a, b with
  | .int i, .int j => .ok (.bl (decide (i ≤ j))) μ
  | .str i, .str j => .ok (.bl (!decide (j.cps.toList < i.cps.toList))) μ
  | _, _ => .stuck
def gtD (a b : D) : M D := fun μ => match a, b with
  | .int i, .int j => .ok (.bl (decide (j < i))) μ
  | _, _ => .stuck
def geD (a b : D) : M D := fun μ => match a, b with
  | .int i, .int j => .ok (.bl (decide (j ≤ i))) μ
  | _, _ => .stuck
def inSign (neg : Bool) (c : Str) (z : Str) : Option Bool := match c.cps.toList with
  | [n] => some (if neg then !decide (n ∈ z.cps.toList) else decide (n ∈ z.cps.toList))
  | _ => none
def flatD : D → Bool
  | .non => true | .bl _ => true | .int _ => true | .str _ => true | _ => false
def flatOf : D → V
  | .non => .non | .bl b => .bl b | .int i => .int i | .str x => .str x | _ => .non
def inD (neg : Bool) (a b : D) : M D := fun μ => match a, b with
  | .str c, .str z => match inSign neg c z with
    | some k => .ok (.bl k) μ
    | none => .stuck
  | _, _ => match asS μ b with
    | some xs => if flatD a = true ∧ xs.all flatD = true then .ok (.bl (if neg then !inV (flatOf a) (xs.map flatOf) else inV (flatOf a) (xs.map flatOf))) μ else .stuck
    | none => .stuck
end
end Pu

set_option Elab.async false
set_option linter.all false
set_option maxRecDepth 100000
/-! Pu4: comparisons, built-in functions, items, slices, methods. -/
namespace Pu
open PySem L2
section
variable {W : Wd} {X : Cx}
theorem op_eqN (hK : X.K = W.K) (hu : X.A.units + 64 < cLine) : OpR X (compareOp .Eq) (R2of W (eqD false)) := by
  intro pins s σ H x y v u Q I rx ry h
  obtain ⟨E, a, b, m, rfl, g, ha, hb, q⟩ := h
  cases e : eqB m.μ a b with
  | none => unfold eqD at q; rw [e] at q; exact (show False from q).elim
  | some k => unfold eqD at q; rw [e] at q; exact eqB_op hK hu I g ha hb rx ry e false (out.same q g (.bl _))
theorem op_neN (hK : X.K = W.K) (hu : X.A.units + 64 < cLine) : OpR X (compareOp .NotEq) (R2of W (eqD true)) := by
  intro pins s σ H x y v u Q I rx ry h
  obtain ⟨E, a, b, m, rfl, g, ha, hb, q⟩ := h
  cases e : eqB m.μ a b with
  | none => unfold eqD at q; rw [e] at q; exact (show False from q).elim
  | some k => unfold eqD at q; rw [e] at q; exact eqB_op hK hu I g ha hb rx ry e true (out.same q g (.bl _))
theorem op_ltD (hK : X.K = W.K) (hu : X.A.units + 64 < cLine) : OpR X (compareOp .Lt) (R2of W ltD) := by
  intro pins s σ H x y v u Q I rx ry h
  obtain ⟨E, a, b, m, rfl, g, ha, hb, q⟩ := h
  cases ha with
  | int i =>
    cases hb with
    | int j => exact op_lt pins s σ m.H _ _ v u Q I rx ry ⟨i, j, rfl, rfl, out.same (d := .bl (decide (i < j))) q g (.bl _)⟩
    | _ => exact (show False from q).elim
  | str i =>
    cases hb with
    | str j => exact op_lt_str pins s σ m.H _ _ v u Q I rx ry ⟨i, j, rfl, rfl, out.same (d := .bl (decide (i.cps.toList < j.cps.toList))) q g (.bl _)⟩
    | _ => exact (show False from q).elim
  | @tup xs a vs h1 l1 =>
    have ha : Den W m (.tup xs) (.ref a) := .tup h1 l1
    cases hb with
    | @tup ys b ws h2 l2 =>
      have hb : Den W m (.tup ys) (.ref b) := .tup h2 l2
      have q : out W m E Q (match toPyL xs, toPyL ys with
        | some p, some q => if PySem.W.alikeAll p q = true ∧ (PyData.tuple p).depth ≤ 60 then .ok (.bl (PySem.W.dataLt (.tuple p) (.tuple q))) m.μ else .stuck
        | _, _ => .stuck) := q
      cases e1 : toPyL xs with
      | none => rw [e1] at q; exact q.elim
      | some p1 =>
        cases e2 : toPyL ys with
        | none => rw [e1, e2] at q; exact q.elim
        | some p2 =>
          rw [e1, e2] at q
          have q : out W m E Q (if PySem.W.alikeAll p1 p2 = true ∧ (PyData.tuple p1).depth ≤ 60 then .ok (.bl (PySem.W.dataLt (.tuple p1) (.tuple p2))) m.μ else .stuck) := q
          by_cases hz : PySem.W.alikeAll p1 p2 = true ∧ (PyData.tuple p1).depth ≤ 60
          · rw [if_pos hz] at q
            have d1 := toPy_dp ha (show toPy (.tup xs) = some (.tuple p1) by simp [toPy, e1])
            have d2 := toPy_dp hb (show toPy (.tup ys) = some (.tuple p2) by simp [toPy, e2])
            rw [← hK] at d1 d2
            obtain ⟨_, r1⟩ := Dp.reads I _ _ _ d1 rx
            obtain ⟨_, r2⟩ := Dp.reads I _ _ _ d2 ry
            exact PySem.W.lt_data r1 r2 (by rw [PySem.W.alike]; exact hz.1) (fun z => nomatch z) (Nat.lt_of_le_of_lt (Nat.add_le_add_left (Nat.le_trans (Nat.min_le_left _ _) (Nat.le_trans hz.2 (by decide : 60 ≤ 64))) _) hu) ⟨.bl _, m.H, I, rfl, out.same q g (.bl _)⟩
          · rw [if_neg hz] at q; exact q.elim
    | _ => exact (show False from q).elim
  | _ => exact (show False from q).elim
theorem op_leD : OpR X (compareOp .LtE) (R2of W leD) := by
  intro pins s σ H x y v u Q I rx ry h
  obtain ⟨E, a, b, m, rfl, g, ha, hb, q⟩ := h
  cases ha with
  | int i =>
    cases hb with
    | int j => exact op_le pins s σ m.H _ _ v u Q I rx ry ⟨i, j, rfl, rfl, out.same (d := .bl (decide (i ≤ j))) q g (.bl _)⟩
    | _ => exact (show False from q).elim
  | str i =>
    cases hb with
    | str j => exact op_le_str pins s σ m.H _ _ v u Q I rx ry ⟨i, j, rfl, rfl, out.same (d := .bl (!decide (j.cps.toList < i.cps.toList))) q g (.bl _)⟩
    | _ => exact (show False from q).elim
  | _ => exact (show False from q).elim
theorem op_gtD : OpR X (compareOp .Gt) (R2of W gtD) := by
  intro pins s σ H x y v u Q I rx ry h
  obtain ⟨E, a, b, m, rfl, g, ha, hb, q⟩ := h
  cases ha with
  | int i =>
    cases hb with
    | int j => exact op_gt pins s σ m.H _ _ v u Q I rx ry ⟨i, j, rfl, rfl, out.same (d := .bl (decide (j < i))) q g (.bl _)⟩
    | _ => exact (show False from q).elim
  | _ => exact (show False from q).elim
theorem op_geD : OpR X (compareOp .GtE) (R2of W geD) := by
  intro pins s σ H x y v u Q I rx ry h
  obtain ⟨E, a, b, m, rfl, g, ha, hb, q⟩ := h
  cases ha with
  | int i =>
    cases hb with
    | int j => exact op_ge pins s σ m.H _ _ v u Q I rx ry ⟨i, j, rfl, rfl, out.same (d := .bl (decide (j ≤ i))) q g (.bl _)⟩
    | _ => exact (show False from q).elim
  | _ => exact (show False from q).elim
theorem flat_den {m : Mem} {d : D} {v : V} (h : Den W m d v) (f : flatD d = true) : v = flatOf d ∧ flatV v = true := by
  cases h with
  | non => exact ⟨rfl, rfl⟩
  | bl b => exact ⟨rfl, rfl⟩
  | int b => exact ⟨rfl, rfl⟩
  | str b => exact ⟨rfl, rfl⟩
  | _ => cases f
theorem flat_dens {m : Mem} : ∀ {ds : List D} {vs : List V}, DenL W m ds vs → ds.all flatD = true → vs = ds.map flatOf ∧ vs.all flatV = true
  | _, _, .nil, _ => ⟨rfl, rfl⟩
  | d :: ds, v :: vs, .cons h t, f => by
    rw [List.all_cons, Bool.and_eq_true] at f
    obtain ⟨h1, h2⟩ := flat_den h f.1
    obtain ⟨h3, h4⟩ := flat_dens t f.2
    exact ⟨by rw [List.map_cons, h1, h3], by rw [List.all_cons, h2, h4]; rfl⟩
theorem op_inN (hK : X.K = W.K) (neg : Bool) : OpR X (compareOp (if neg then .NotIn else .In)) (R2of W (inD neg)) := by
  intro pins s σ H x y v u Q I rx ry h
  obtain ⟨E, a, b, m, rfl, g, ha, hb, q⟩ := h
  have gen : out W m E Q (match asS m.μ b with
    | some xs => if flatD a = true ∧ xs.all flatD = true then .ok (.bl (if neg then !inV (flatOf a) (xs.map flatOf) else inV (flatOf a) (xs.map flatOf))) m.μ else .stuck
    | none => .stuck) → wpAny (model X.prog X.w) X.A (compareOp (if neg then .NotIn else .In) v u) (EP X pins σ Q) X.xe s := by
    intro q
    cases e : asS m.μ b with
    | none => rw [e] at q; exact (show False from q).elim
    | some xs =>
      rw [e] at q
      have q' : out W m E Q (if flatD a = true ∧ xs.all flatD = true then .ok (.bl (if neg then !inV (flatOf a) (xs.map flatOf) else inV (flatOf a) (xs.map flatOf))) m.μ else .stuck) := q
      split at q'
      · rename_i hz
        obtain ⟨p, vs, rfl, h1, l⟩ := asS_den g hb e
        obtain ⟨e1, f1⟩ := flat_den ha hz.1
        obtain ⟨e2, f2⟩ := flat_dens l hz.2
        rw [← e1, ← e2] at q'
        have q2 := out.same q' g (.bl _)
        cases neg with
        | false => exact op_in_seq pins s σ m.H _ _ v u Q I rx ry ⟨p, vs, rfl, by rw [hK]; exact h1, f1, f2, q2⟩
        | true => exact op_notIn_seq pins s σ m.H _ _ v u Q I rx ry ⟨p, vs, rfl, by rw [hK]; exact h1, f1, f2, q2⟩
      · exact (show False from q').elim
  cases ha with
  | str c =>
    cases hb with
    | str z =>
      have q' : out W m E Q (match inSign neg c z with
        | some k => .ok (.bl k) m.μ
        | none => .stuck) := q
      obtain ⟨⟨cl⟩⟩ := c
      match cl, q', rx with
      | [], q', _ => exact (show False from q').elim
      | [n], q', rx =>
        have q2 := out.same (d := .bl (if neg then !decide (n ∈ z.cps.toList) else decide (n ∈ z.cps.toList))) q' g (.bl _)
        cases neg with
        | false => exact op_in_sign pins s σ m.H _ _ v u Q I rx ry ⟨n, z, rfl, rfl, q2⟩
        | true => exact op_notIn_sign pins s σ m.H _ _ v u Q I rx ry ⟨n, z, rfl, rfl, q2⟩
      | _ :: _ :: _, q', _ => exact (show False from q').elim
    | _ => exact gen q
  | _ => exact gen (by cases hb <;> exact q)
def isND (neg : Bool) (a b : D) : M D := fun μ => match a, b with
  | .non, .non => .ok (.bl (!neg)) μ
  | .bl _, .non | .int _, .non | .str _, .non | .tup _, .non | .lst _, .non | .frz _, .non | .dic _, .non | .cell _, .non | .obj _ _, .non => .ok (.bl neg) μ
  | _, _ => .stuck
theorem op_isND (neg : Bool) : OpR X (compareOp (if neg then .IsNot else .Is)) (R2of W (isND neg)) := by
  intro pins s σ H x y v u Q I rx ry h
  obtain ⟨E, a, b, m, rfl, g, ha, hb, q⟩ := h
  have fin : ∀ k : Bool, k = decide (x = .non) → y = .non → out W m E Q (.ok (.bl (if neg then !k else k)) m.μ) → wpAny (model X.prog X.w) X.A (compareOp (if neg then .IsNot else .Is) v u) (EP X pins σ Q) X.xe s := by
    intro k h1 h2 q
    have q2 := out.same q g (.bl _)
    subst h1
    cases neg with
    | false => exact op_isN pins s σ m.H _ _ v u Q I rx ry ⟨h2, q2⟩
    | true => exact op_notN pins s σ m.H _ _ v u Q I rx ry ⟨h2, q2⟩
  cases hb with
  | non =>
    cases ha with
    | non => exact fin true (by simp) rfl (by cases neg <;> exact q)
    | bl _ => exact fin false (by simp) rfl (by cases neg <;> exact q)
    | int _ => exact fin false (by simp) rfl (by cases neg <;> exact q)
    | str _ => exact fin false (by simp) rfl (by cases neg <;> exact q)
    | tup _ _ => exact fin false (by simp) rfl (by cases neg <;> exact q)
    | lst _ _ _ => exact fin false (by simp) rfl (by cases neg <;> exact q)
    | frz _ _ => exact fin false (by simp) rfl (by cases neg <;> exact q)
    | dic _ _ _ => exact fin false (by simp) rfl (by cases neg <;> exact q)
    | cell _ => exact fin false (by simp) rfl (by cases neg <;> exact q)
    | obj _ _ _ => exact fin false (by simp) rfl (by cases neg <;> exact q)
    | _ => exact (show False from q).elim
  | _ => exact (show False from by cases ha <;> exact q).elim
def cmpD : CmpOp → D → D → M D
  | .Eq => eqD false
  | .NotEq => eqD true
  | .Lt => ltD
  | .LtE => leD
  | .Gt => gtD
  | .GtE => geD
  | .In => inD false
  | .NotIn => inD true
  | .Is => isND false
  | .IsNot => isND true
theorem op_cmpD (hK : X.K = W.K) (hu : X.A.units + 64 < cLine) : ∀ op, OpR X (compareOp op) (R2of W (cmpD op))
  | .Eq => op_eqN hK hu
  | .NotEq => op_neN hK hu
  | .Lt => op_ltD hK hu
  | .LtE => op_leD
  | .Gt => op_gtD
  | .GtE => op_geD
  | .In => op_inN hK false
  | .NotIn => op_inN hK true
  | .Is => op_isND false
  | .IsNot => op_isND true

/-! ### built-in functions -/
def lenD (xs : List D) : M D := fun μ => match xs with
  | [.str y] => if y.length ≤ sizeLine then .ok (.int y.length) μ else .stuck
  | [.dic kvs] => .ok (.int kvs.length) μ
  | [d] => match asS μ d with
    | some ys => .ok (.int ys.length) μ
    | none => match asD μ d with
      | some kvs => .ok (.int kvs.length) μ
      | none => .stuck
  | _ => .stuck
theorem DenK.length {m : Mem} : ∀ {ds : List (Key × D)} {vs : List (Key × V)}, DenK W m ds vs → ds.length = vs.length
  | _, _, .nil => rfl
  | _, _, .cons _ t => by rw [List.length_cons, List.length_cons, DenK.length t]
theorem dl1 {m : Mem} {d : D} {xs : List V} (h : DenL W m [d] xs) : ∃ x, xs = [x] ∧ Den W m d x := by
  cases h with
  | cons a b => cases b; exact ⟨_, rfl, a⟩
theorem dl2 {m : Mem} {d e : D} {xs : List V} (h : DenL W m [d, e] xs) : ∃ x y, xs = [x, y] ∧ Den W m d x ∧ Den W m e y := by
  cases h with
  | cons a b => obtain ⟨y, rfl, h2⟩ := dl1 b; exact ⟨_, y, rfl, a, h2⟩
theorem call_lenDn (hK : X.K = W.K) : CallR X (.builtin "len") (RCof W lenD) := by
  intro pins s σ H xs us Q I r h
  obtain ⟨E, ds, m, rfl, g, l, q⟩ := h
  match ds, l, q with
  | [], l, q => exact (show False from q).elim
  | _ :: _ :: _, l, q => exact (show False from by unfold lenD at q; split at q <;> first | (rename_i e; cases e) | exact q).elim
  | [d], l, q =>
    obtain ⟨x, rfl, hd⟩ := dl1 l
    have gen : out W m E Q (match asS m.μ d with
      | some ys => .ok (.int ys.length) m.μ
      | none => match asD m.μ d with
        | some kvs => .ok (.int kvs.length) m.μ
        | none => .stuck) → wpAny (model X.prog X.w) X.A (call (.builtin "len") us) (EP X pins σ Q) X.xe s := by
      intro q
      cases e : asS m.μ d with
      | none =>
        rw [e] at q
        simp only at q
        cases e2 : asD m.μ d with
        | none => rw [e2] at q; exact (show False from q).elim
        | some kvs =>
          rw [e2] at q
          obtain ⟨a, kv, rfl, h1, h3⟩ := asD_den g hd e2
          have q2 := out.same (d := .int kvs.length) q g (.int _)
          rw [h3.length] at q2
          rw [Vals.ref1 r]
          exact d_len I h1 fun t s' I' => ⟨.int kv.length, m.H, I', ⟨t, rfl⟩, q2⟩
      | some ys =>
        rw [e] at q
        obtain ⟨p, vs, rfl, h1, l1⟩ := asS_den g hd e
        have q2 := out.same (d := .int ys.length) q g (.int _)
        rw [l1.length] at q2
        exact call_len_seq pins s σ m.H _ us Q I r ⟨p, vs, rfl, by rw [hK]; exact h1, q2⟩
    cases hd with
    | str y =>
      have q' : out W m E Q (if y.length ≤ sizeLine then .ok (.int y.length) m.μ else .stuck) := q
      split at q'
      · rename_i hz
        exact call_len pins s σ m.H _ us Q I r ⟨.str y, y.length, rfl, ⟨hz, rfl⟩, q'.same g (.int _)⟩
      · exact (show False from q').elim
    | @dic kvs a kv' ob h1 h2 h3 =>
      have q2 := out.same (d := .int kvs.length) q g (.int _)
      rw [h3.length] at q2
      rw [Vals.ref1 r]
      exact d_len I (.inr ⟨ob, h1⟩) fun t s' I' => ⟨.int kv'.length, m.H, I', ⟨t, rfl⟩, q2⟩
    | non => exact gen q
    | bl _ => exact gen q
    | int _ => exact gen q
    | ty _ => exact gen q
    | adr _ => exact gen q
    | cell _ => exact gen q
    | tup _ _ => exact gen q
    | lst _ _ _ => exact gen q
    | frz _ _ => exact gen q
    | obj _ _ _ => exact gen q
end
end Pu

set_option Elab.async false
set_option linter.all false
set_option maxRecDepth 100000
/-! Pu5: built-in functions and types called by name, items, slices, text methods. -/
namespace Pu
open PySem L2
section
variable {W : Wd} {X : Cx}
def absD (xs : List D) : M D := fun μ => match xs with
  | [.int i] => .ok (.int (if i < 0 then -i else i)) μ
  | _ => .stuck
def max2D (xs : List D) : M D := fun μ => match xs with
  | [.int i, .int j] => .ok (.int (if j > i then j else i)) μ
  | _ => .stuck
def min2D (xs : List D) : M D := fun μ => match xs with
  | [.int i, .int j] => .ok (.int (if j < i then j else i)) μ
  | _ => .stuck
def intD (xs : List D) : M D := fun μ => match xs with
  | [.int i] => .ok (.int i) μ
  | [.bl k] => .ok (.int (if k then 1 else 0)) μ
  | _ => .stuck
theorem den_int {m : Mem} {i : Int} {v : V} (h : Den W m (.int i) v) : v = .int i := by cases h; rfl
theorem den_bl {m : Mem} {i : Bool} {v : V} (h : Den W m (.bl i) v) : v = .bl i := by cases h; rfl
theorem den_str {m : Mem} {i : Str} {v : V} (h : Den W m (.str i) v) : v = .str i := by cases h; rfl
theorem den_non {m : Mem} {v : V} (h : Den W m .non v) : v = .non := by cases h; rfl
theorem den_ty {m : Mem} {n : String} {v : V} (h : Den W m (.ty n) v) : v = .ty n := by cases h; rfl
theorem call_absD : CallR X (.builtin "abs") (RCof W absD) := by
  intro pins s σ H xs us Q I r h
  obtain ⟨E, ds, m, rfl, g, l, q⟩ := h
  unfold absD at q
  split at q
  · rename_i i
    obtain ⟨x, rfl, hd⟩ := dl1 l
    cases den_int hd
    exact call_abs pins s σ m.H _ us Q I r ⟨i, rfl, out.same q g (.int _)⟩
  · exact q.elim
theorem call_max2D (hc : X.calm = true) : CallR X (.builtin "max") (RCof W max2D) := by
  intro pins s σ H xs us Q I r h
  obtain ⟨E, ds, m, rfl, g, l, q⟩ := h
  unfold max2D at q
  split at q
  · rename_i i j
    obtain ⟨x, y, rfl, hd, he⟩ := dl2 l
    cases den_int hd
    cases den_int he
    exact call_max2 hc pins s σ m.H _ us Q I r ⟨i, j, rfl, out.same q g (.int _)⟩
  · exact q.elim
theorem call_min2D (hc : X.calm = true) : CallR X (.builtin "min") (RCof W min2D) := by
  intro pins s σ H xs us Q I r h
  obtain ⟨E, ds, m, rfl, g, l, q⟩ := h
  unfold min2D at q
  split at q
  · rename_i i j
    obtain ⟨x, y, rfl, hd, he⟩ := dl2 l
    cases den_int hd
    cases den_int he
    exact call_min2 hc pins s σ m.H _ us Q I r ⟨i, j, rfl, out.same q g (.int _)⟩
  · exact q.elim
theorem call_intD : CallR X (.type "int") (RCof W intD) := by
  intro pins s σ H xs us Q I r h
  obtain ⟨E, ds, m, rfl, g, l, q⟩ := h
  unfold intD at q
  split at q
  · rename_i i
    obtain ⟨x, rfl, hd⟩ := dl1 l
    cases den_int hd
    exact call_int1 pins s σ m.H _ us Q I r (.inl ⟨i, rfl, out.same q g (.int _)⟩)
  · rename_i k
    obtain ⟨x, rfl, hd⟩ := dl1 l
    cases den_bl hd
    exact call_int1 pins s σ m.H _ us Q I r (.inr ⟨k, rfl, out.same q g (.int _)⟩)
  · exact q.elim
/-- a list of truth values -/
def blsOf : List D → Option (List Bool)
  | [] => some []
  | .bl b :: r => (blsOf r).map (b :: ·)
  | _ :: _ => none
theorem blsOf_map : ∀ {ds : List D} {bs : List Bool}, blsOf ds = some bs → ds = bs.map D.bl
  | [], bs, e => by simp [blsOf] at e; subst e; rfl
  | d :: ds, bs, e => by
    cases d with
    | bl b =>
      cases q : blsOf ds with
      | none => simp [blsOf, q] at e
      | some r =>
        simp [blsOf, q] at e
        subst e
        rw [blsOf_map q]
        rfl
    | _ => simp [blsOf] at e
theorem blsOf_of : ∀ bs : List Bool, blsOf (bs.map D.bl) = some bs
  | [] => rfl
  | b :: r => by simp [blsOf, blsOf_of r]
def allD (xs : List D) : M D := fun μ => match xs with
  | [d] => match (asQ μ d).bind blsOf with
    | some bs => .ok (.bl (bs.all id)) μ
    | none => .stuck
  | _ => .stuck
def anyD (xs : List D) : M D := fun μ => match xs with
  | [d] => match (asQ μ d).bind blsOf with
    | some bs => .ok (.bl (bs.any id)) μ
    | none => .stuck
  | _ => .stuck
theorem bls_at {m : Mem} {d : D} {x : V} {bs : List Bool} (g : Okm W m) (hd : Den W m d x) (e : (asQ m.μ d).bind blsOf = some bs) : ∃ a, x = .ref a ∧ SqL W.K m.H a (bs.map V.bl) := by
  cases q : asQ m.μ d with
  | none => rw [q] at e; cases e
  | some ds =>
    rw [q] at e
    obtain ⟨a, vs, rfl, h1, l⟩ := asQ_den g hd q
    have e2 := blsOf_map (show blsOf ds = some bs from e)
    subst e2
    rw [DenL.of_bls l] at h1
    exact ⟨a, rfl, h1⟩
theorem call_allD (hK : X.K = W.K) (hc : X.calm = true) : CallR X (.builtin "all") (RCof W allD) := by
  intro pins s σ H xs us Q I r h
  obtain ⟨E, ds, m, rfl, g, l, q⟩ := h
  unfold allD at q
  split at q
  · rename_i d
    obtain ⟨x, rfl, hd⟩ := dl1 l
    split at q
    · rename_i bs e
      obtain ⟨a, rfl, h1⟩ := bls_at g hd e
      exact cr_all hc pins s σ m.H _ us Q I r ⟨a, bs, rfl, by rw [hK]; exact h1, out.same q g (.bl _)⟩
    · exact q.elim
  · exact q.elim
theorem call_anyD (hK : X.K = W.K) (hc : X.calm = true) : CallR X (.builtin "any") (RCof W anyD) := by
  intro pins s σ H xs us Q I r h
  obtain ⟨E, ds, m, rfl, g, l, q⟩ := h
  unfold anyD at q
  split at q
  · rename_i d
    obtain ⟨x, rfl, hd⟩ := dl1 l
    split at q
    · rename_i bs e
      obtain ⟨a, rfl, h1⟩ := bls_at g hd e
      exact cr_any hc pins s σ m.H _ us Q I r ⟨a, bs, rfl, by rw [hK]; exact h1, out.same q g (.bl _)⟩
    · exact q.elim
  · exact q.elim

/-! ### isinstance of built-in classes -/
def tyD (μ : Sto) : D → Option String
  | .non => some "NoneType"
  | .bl _ => some "bool"
  | .int _ => some "int"
  | .str _ => some "str"
  | .tup _ => some "tuple"
  | .lst _ => some "list"
  | .frz _ => some "list"
  | .dic _ => some "dict"
  | .cell i => match μ[i]? with
    | some (.lst _) => some "list"
    | some (.dic _) => some "dict"
    | _ => none
  | _ => none
def isiB (t c : String) : Bool := t == c || (t == "bool" && c == "int")
def knownC : List String := ["int", "bool", "str", "tuple", "list", "dict"]
def isiD (xs : List D) : M D := fun μ => match xs with
  | [d, .ty c] => match tyD μ d with
    | some t => if c ∈ knownC then .ok (.bl (isiB t c)) μ else .stuck
    | none => .stuck
  | _ => .stuck
theorem kit_known (K : PySem.W.Frag) {c : String} (hc : c ∈ knownC) {t : String} (ht : t ∈ ["NoneType", "bool", "int", "str", "tuple", "list", "dict"]) : PySem.W.kitOne K (.type t) (.type c) = some (isiB t c) := by
  simp only [knownC, List.mem_cons, List.not_mem_nil, or_false] at hc ht
  rcases ht with rfl | rfl | rfl | rfl | rfl | rfl | rfl <;> rcases hc with rfl | rfl | rfl | rfl | rfl | rfl <;> rfl
theorem ty_den {m : Mem} {d : D} {x : V} {t : String} (g : Okm W m) (h : Den W m d x) (e : tyD m.μ d = some t) : TyX W.K m.H x (.type t) ∧ t ∈ ["NoneType", "bool", "int", "str", "tuple", "list", "dict"] := by
  cases h with
  | non => cases e; exact ⟨.base .non, by decide⟩
  | bl b => cases e; exact ⟨.base (.bl b), by decide⟩
  | int b => cases e; exact ⟨.base (.int b), by decide⟩
  | str b => cases e; exact ⟨.base (.str b), by decide⟩
  | @tup ds a vs h1 l =>
    cases e
    refine ⟨?_, by decide⟩
    rcases h1 with ⟨h1 | ⟨o, h1⟩, _⟩ | h1
    · exact .base (.tup h1)
    · exact .fTuple h1
    · rcases h1 (fun _ => none) with (h2 | ⟨o, h2⟩) | ⟨o, its, n, h2, h3, _⟩
      · cases h2
      · cases h2
      · exact .kTuple h2 h3
  | lst h1 n l => cases e; exact ⟨.base (.lst h1), by decide⟩
  | @frz ds a vs h1 l =>
    cases e
    refine ⟨?_, by decide⟩
    rcases h1 with ⟨h1 | ⟨o, h1⟩, _⟩ | h1
    · exact .base (.lst h1)
    · exact .base (.frz h1)
    · rcases h1 (fun _ => none) with (h2 | ⟨o, h2⟩) | ⟨o, its, n, h2, h3, _⟩
      · cases h2
      · cases h2
      · exact .kList h2 h3
  | dic h1 n l => cases e; exact ⟨.fDict h1, by decide⟩
  | @cell i a h1 =>
    simp only [tyD] at e
    cases q : m.μ[i]? with
    | none => rw [q] at e; cases e
    | some o =>
      rw [q] at e
      cases o with
      | lst xs =>
        cases e
        obtain ⟨vs, h2, _⟩ := g.ok i _ a q h1
        exact ⟨.base (.lst h2), by decide⟩
      | dic xs =>
        cases e
        obtain ⟨vs, h2, _⟩ := g.ok i _ a q h1
        exact ⟨.base (.dK h2), by decide⟩
      | _ => cases e
  | _ => cases e
theorem call_isiD (hK : X.K = W.K) : CallR X (.builtin "isinstance") (RCof W isiD) := by
  intro pins s σ H xs us Q I r h
  obtain ⟨E, ds, m, rfl, g, l, q⟩ := h
  unfold isiD at q
  split at q
  · rename_i d c
    obtain ⟨x, y, rfl, hd, he⟩ := dl2 l
    cases den_ty he
    split at q
    · rename_i t e
      split at q
      · rename_i hc
        obtain ⟨h1, h2⟩ := ty_den g hd e
        exact call_isi pins s σ m.H _ us Q I r ⟨x, .ty c, .type t, .type c, isiB t c, rfl, .ty c, by rw [hK]; exact h1, kit_known _ hc h2, out.same q g (.bl _)⟩
      · exact q.elim
    · exact q.elim
  · exact q.elim

/-! ### list(..), tuple(..), sum, sorted of ints -/
def listD (xs : List D) : M D := fun μ => match xs with
  | [.dic kvs] => .ok (.lst (keysD kvs)) μ
  | [d] => match asS μ d with
    | some ys => .ok (.lst ys) μ
    | none => match asD μ d with
      | some kvs => .ok (.lst (keysD kvs)) μ
      | none => match asT μ d with
        | some kvs => .ok (.lst (keysT kvs)) μ
        | none => .stuck
  | _ => .stuck
def tupleD (xs : List D) : M D := fun μ => match xs with
  | [d] => match asS μ d with
    | some ys => .ok (.tup ys) μ
    | none => .stuck
  | _ => .stuck
theorem call_listDn (hK : X.K = W.K) (hc : X.calm = true) : CallR X (.type "list") (RCof W listD) := by
  intro pins s σ H xs us Q I r h
  obtain ⟨E, ds, m, rfl, g, l, q⟩ := h
  unfold listD at q
  split at q
  · rename_i kvs
    obtain ⟨x, rfl, hd⟩ := dl1 l
    cases hd with
    | @dic _ a kv' ob h1 h2 h3 => exact call_listD hc pins s σ m.H _ us Q I r ⟨a, kv', rfl, .inr ⟨ob, h1⟩, fun p hp => q.lst g (den_keys h3) hp⟩
  · rename_i d
    obtain ⟨x, rfl, hd⟩ := dl1 l
    split at q
    · rename_i ys e
      obtain ⟨a, vs, rfl, h1, l1⟩ := asS_den g hd e
      exact call_list_of pins s σ m.H _ us Q I r ⟨a, vs, rfl, by rw [hK]; exact h1, fun p hp => q.lst g l1 hp⟩
    · split at q
      · rename_i kvs e
        obtain ⟨a, kv, rfl, h1, h3⟩ := asD_den g hd e
        exact call_listD hc pins s σ m.H _ us Q I r ⟨a, kv, rfl, h1, fun p hp => q.lst g (den_keys h3) hp⟩
      · split at q
        · rename_i kvs e
          obtain ⟨a, kv, rfl, h1, h3⟩ := asT_den g hd e
          exact call_list_dT hc pins s σ m.H _ us Q I r ⟨a, kv, rfl, .inl h1, fun p bs hp hb => q.lst g (den_keysT g h3 hb) hp⟩
        · exact q.elim
  · exact q.elim
theorem tup_same {m : Mem} {d : D} {a : Addr} {ys : List D} {vs : List V} {E : Ex → Mem → Prop} {Q : VK} (g : Okm W m) (hd : Den W m d (.ref a)) (e : asS m.μ d = some ys) (h1 : SqT W.K m.H a vs) (nl : ∀ ws, ¬ SqL W.K m.H a ws) (q : out W m E Q (.ok (.tup ys) m.μ)) : Q (.ref a) m.H := by
  cases d with
  | tup zs => simp [asS] at e; subst e; exact out.same q g hd
  | _ =>
    obtain ⟨a', vs', e1, h2, _⟩ := asQ_den g hd (by simpa only [asS] using e)
    cases e1
    exact (nl _ h2).elim
end
end Pu

set_option Elab.async false
set_option linter.all false
set_option maxRecDepth 100000
/-! Pu6: tuple(..), items, slices, repr, join. -/
namespace Pu
open PySem L2
section
variable {W : Wd} {X : Cx}
theorem call_tupleDn (hK : X.K = W.K) : CallR X (.type "tuple") (RCof W tupleD) := by
  intro pins s σ H xs us Q I r h
  obtain ⟨E, ds, m, rfl, g, l, q⟩ := h
  unfold tupleD at q
  split at q
  · rename_i d
    obtain ⟨x, rfl, hd⟩ := dl1 l
    split at q
    · rename_i ys e
      cases d with
      | tup zs =>
        simp [asS] at e; subst e
        cases hd with
        | tup h1 l1 => exact call_tuple_of pins s σ m.H _ us Q I r ⟨_, _, rfl, .inr ⟨by rw [hK]; exact h1.sq, out.same q g (.tup h1 l1)⟩⟩
      | _ =>
        obtain ⟨a, vs, rfl, h1, l1⟩ := asQ_den g hd (by simpa only [asS] using e)
        exact call_tuple_of pins s σ m.H _ us Q I r ⟨a, vs, rfl, .inl ⟨by rw [hK]; exact h1, fun p hp => q.tup g l1 hp⟩⟩
    · exact q.elim
  · exact q.elim
/-! ### items -/
theorem DenL.atI {m : Mem} {ds : List D} {vs : List V} {k : Int} {d : D} (l : DenL W m ds vs) (e : L2.atI ds k = some d) : ∃ v, L2.atI vs k = some v ∧ Den W m d v := by
  unfold L2.atI at e ⊢
  rw [← l.length]
  cases q : ixN ds.length k with
  | none => rw [q] at e; cases e
  | some j =>
    rw [q] at e
    obtain ⟨v, h1, h2⟩ := l.get (i := j) (d := d) e
    exact ⟨v, h1, h2⟩
def ixK (a i : D) : M D := fun μ => match a, i with
  | .str z, .int k => if z.length ≤ sizeLine then match L2.atI z.cps.toList k with
      | some c => .ok (.str ⟨#[c]⟩) μ
      | none => .stuck
    else .stuck
  | _, .int k => match (asS μ a).bind fun xs => L2.atI xs k with
    | some d => .ok d μ
    | none => .stuck
  | _, _ => .stuck
def ixD (a i : D) : M D := fun μ => match asD μ a with
  | some kvs => (match keyOf i with
    | some k => (match valD kvs k with
      | some d => .ok d μ
      | none => .stuck)
    | none => .stuck)
  | none => ixK a i μ
theorem ix_K (hK : X.K = W.K) : IxR X (R2of W ixK) := by
  intro value slice pins s σ H x y v u Q I rx ry h hs
  obtain ⟨E, a, b, m, rfl, g, ha, hb, q⟩ := h
  have gen : ∀ k, y = .int k → out W m E Q (match (asS m.μ a).bind fun xs => L2.atI xs k with
    | some d => .ok d m.μ
    | none => .stuck) → wpAny (model X.prog X.w) X.A (PyProof.Rows.subscriptTail value slice v u) (EP X pins σ Q) X.xe s := by
    intro k ey q
    cases e : asS m.μ a with
    | none => rw [e] at q; exact (show False from q).elim
    | some xs =>
      rw [e] at q
      have q' : out W m E Q (match L2.atI xs k with
        | some d => .ok d m.μ
        | none => .stuck) := q
      split at q'
      · rename_i d e2
        obtain ⟨p, vs, rfl, h1, l⟩ := asS_den g ha e
        obtain ⟨w, e3, hw⟩ := l.atI e2
        have q2 := out.same q' g hw
        refine ix_seq value slice pins s σ m.H _ _ v u Q I rx ry ?_ hs
        rcases h1 with h1 | h1
        · exact .inl ⟨p, vs, k, w, rfl, ey, by rw [hK]; exact h1, e3, q2⟩
        · exact .inr (.inl ⟨p, vs, k, w, rfl, ey, by rw [hK]; exact h1, e3, q2⟩)
      · exact (show False from q').elim
  cases hb with
  | int k =>
    cases ha with
    | str z =>
      have q' : out W m E Q (if z.length ≤ sizeLine then match L2.atI z.cps.toList k with
        | some c => .ok (.str ⟨#[c]⟩) m.μ
        | none => .stuck else .stuck) := q
      split at q'
      · rename_i hz
        split at q'
        · rename_i c e
          exact ix_seq value slice pins s σ m.H _ _ v u Q I rx ry (.inr (.inr ⟨z, k, c, rfl, rfl, hz, e, q'.same g (.str _)⟩)) hs
        · exact (show False from q').elim
      · exact (show False from q').elim
    | _ => exact gen k rfl q
  | _ => exact (show False from by cases ha <;> exact q).elim
theorem ix_dict (hu : X.A.units + 1 < cLine) : IxR X (fun x y H Q => ∃ a v, x = .ref a ∧ DGet H a y (some v) ∧ Q v H) := by
  intro value slice pins s σ H x y v u Q I rx ry h hs
  obtain ⟨a, z, rfl, g, q⟩ := h
  obtain rfl : v = Value.ref a := rx
  have hT := dict_typeIs I g
  unfold PyProof.Rows.subscriptTail
  refine wpAny_bind ?_
  rw [getitemInPython_of_ne hT.not_modules]
  refine wpAny_bind (wpAny_specialOf hT PySem.F.slot_dict_getitem.lookup ?_)
  have fin : wpAny (model X.prog X.w) X.A (subscripted slice false (.ref a) u) (fun r s₃ => wpAny (model X.prog X.w) X.A (letTemporaryGo value (.ref a) r >>= fun _ => pure r) (EP X pins σ Q) X.xe s₃) X.xe s := by
    rw [hs]
    exact wpAny_operating (d_getItem hu I g ry fun w' s3 I3 rw' => wpAny_bind (wpAny_letTemporaryGo (wpAny_pure ⟨z, H, I3, rw', q⟩)))
  first
    | exact wpAny_pure (wpAny_bind fin)
    | exact wpAny_bind (wpAny_pure (wpAny_bind fin))
    | exact wpAny_bind fin
theorem ix_D (hK : X.K = W.K) (hu : X.A.units + 64 < cLine) : IxR X (R2of W ixD) := by
  intro value slice pins s σ H x y v u Q I rx ry h hs
  obtain ⟨E, a, b, m, rfl, g, ha, hb, q⟩ := h
  unfold ixD at q
  cases e : asD m.μ a with
  | none => rw [e] at q; exact ix_K hK value slice pins s σ m.H x y v u Q I rx ry ⟨E, a, b, m, rfl, g, ha, hb, q⟩ hs
  | some kvs =>
    rw [e] at q
    simp only at q
    cases e2 : keyOf b with
    | none => rw [e2] at q; exact (show False from q).elim
    | some k =>
      rw [e2] at q
      simp only at q
      cases e3 : valD kvs k with
      | none => rw [e3] at q; exact (show False from q).elim
      | some d =>
        rw [e3] at q
        obtain ⟨p, kv, rfl, h1, h3⟩ := asD_den g ha e
        obtain ⟨z, q1, q2⟩ := (valD_den (k := k) h3).1 d e3
        exact ix_dict (by omega) value slice pins s σ m.H _ y v u Q I rx ry ⟨p, z, rfl, .inl ⟨kv, k, h1, keyOf_den hb e2, q1.symm⟩, out.same q g q2⟩ hs
/-! ### slices -/
def cutL (xs : List D) (lo hi : Option Int) : List D := (xs.drop (HT.sIx xs.length 0 lo)).take (HT.sIx xs.length xs.length hi - HT.sIx xs.length 0 lo)
theorem DenL.cut {m : Mem} {ds : List D} {vs : List V} (l : DenL W m ds vs) (lo hi : Option Int) : DenL W m (cutL ds lo hi) (cutV vs lo hi) := by
  unfold cutL cutV
  rw [← l.length]
  exact (l.drop _).take _
def slD (a : D) (lo hi : Option Int) : M D := fun μ => match a with
  | .str z => if z.length ≤ sizeLine then .ok (.str (cutS z lo hi)) μ else .stuck
  | .tup xs => .ok (.tup (cutL xs lo hi)) μ
  | _ => match asQ μ a with
    | some xs => .ok (.lst (cutL xs lo hi)) μ
    | none => .stuck
theorem sl_D (hK : X.K = W.K) : SlR X (RSof W slD) := by
  intro pins s σ H x v vl vu lo hi sl Q I rx hs pl pu h
  obtain ⟨E, a, m, rfl, g, ha, q⟩ := h
  have gen : out W m E Q (match asQ m.μ a with
    | some xs => .ok (.lst (cutL xs lo hi)) m.μ
    | none => .stuck) → ∃ T id, typeLookup (.type T) "__getitem__" = pure (some (.builtin id)) ∧ s.TypeIs v T ∧ wpAny (model X.prog X.w) X.A (getItem v (.ref sl)) (EP X pins σ Q) X.xe s := by
    intro q
    cases e : asQ m.μ a with
    | none => rw [e] at q; exact (show False from q).elim
    | some xs =>
      rw [e] at q
      obtain ⟨p, vs, rfl, h1, l⟩ := asQ_den g ha e
      exact sl_list pins s σ m.H _ v vl vu lo hi sl Q I rx hs pl pu ⟨p, vs, rfl, by rw [hK]; exact h1, fun c hc => out.lst q g (l.cut lo hi) hc⟩
  cases ha with
  | str z =>
    have q' : out W m E Q (if z.length ≤ sizeLine then .ok (.str (cutS z lo hi)) m.μ else .stuck) := q
    split at q'
    · rename_i hz
      exact sl_str pins s σ m.H _ v vl vu lo hi sl Q I rx hs pl pu ⟨z, rfl, hz, q'.same g (.str _)⟩
    · exact (show False from q').elim
  | @tup xs p vs h1 l =>
    refine sl_tupA pins s σ m.H _ v vl vu lo hi sl Q I rx hs pl pu ⟨p, vs, rfl, by rw [hK]; exact h1.sq, fun e => ?_, fun _ c hc => out.tup (ds := cutL xs lo hi) q g (l.cut lo hi) hc⟩
    refine out.same (d := .tup (cutL xs lo hi)) q g ?_
    have e2 : cutL xs lo hi = xs := by
      unfold cutL
      rw [l.length, e.1, e.2]
      simp only [List.drop_zero, Nat.sub_zero]
      exact List.take_of_length_le (by rw [l.length]; exact Nat.le_refl _)
    rw [e2]
    exact .tup h1 l
  | non => exact gen q
  | bl _ => exact gen q
  | int _ => exact gen q
  | ty _ => exact gen q
  | adr _ => exact gen q
  | cell _ => exact gen q
  | lst _ _ _ => exact gen q
  | frz _ _ => exact gen q
  | dic _ _ _ => exact gen q
  | obj _ _ _ => exact gen q
/-! ### repr -/
def reprD (xs : List D) : M D := fun μ => match xs with
  | [d] => match toPyT μ d with
    | some p => if p.showable = true ∧ p.hasDict = false ∧ p.depth ≤ 60 ∧ p.shown.length ≤ sizeLine then .ok (.str p.shown) μ else .stuck
    | none => .stuck
  | _ => .stuck
theorem call_reprD (hK : X.K = W.K) (hu : X.A.units + 64 < cLine) (gd : X.A.guards = some []) : CallR X (.builtin "repr") (RCof W reprD) := by
  intro pins s σ H xs us Q I r h
  obtain ⟨E, ds, m, rfl, g, l, q⟩ := h
  unfold reprD at q
  split at q
  · rename_i d
    obtain ⟨x, rfl, hd⟩ := dl1 l
    split at q
    · rename_i p e
      split at q
      · rename_i hz
        obtain ⟨h1, h2, h3, h4⟩ := hz
        have q2 := out.same q g (.str _)
        have dp := toPyT_dp g hd e
        rw [← hK] at dp
        obtain ⟨u, rfl, ru⟩ := vals1 r
        obtain ⟨as, rd⟩ := Dp.reads I p x u dp ru
        have obj : ∀ b, u = .ref b → wpAny (model X.prog X.w) X.A (call (.builtin "repr") [u]) (EP X pins σ Q) X.xe s := by
          rintro b rfl
          exact repr_of_reads' rd h1 (PyData.noDict_hsm h2) gd (by omega) (fun _ _ z => z) (fun h' t tk hk => ⟨.str _, m.H, I.kept hk, ⟨_, rfl⟩, q2⟩) h4
        cases rd with
        | none => exact PySem.P.repr_of_none ⟨.str _, m.H, I.tok _, ⟨_, rfl⟩, q2⟩
        | bool b => exact PySem.P.repr_of_bool ⟨.str _, m.H, I.tok _, ⟨_, rfl⟩, by cases b <;> exact q2⟩
        | int i t => exact PySem.P.repr_of_int (of_decide_eq_true h1) ⟨.str _, m.H, I.tok _, ⟨_, rfl⟩, q2⟩
        | str z t => exact PySem.P.repr_of_str ⟨.str _, m.H, I.tok _, ⟨_, rfl⟩, q2⟩ h4
        | list _ _ _ _ => exact obj _ rfl
        | tuple _ _ _ _ => exact obj _ rfl
        | dict _ _ _ _ _ => exact obj _ rfl
      · exact q.elim
    · exact q.elim
  · exact q.elim
end
end Pu

set_option Elab.async false
set_option linter.all false
set_option maxRecDepth 100000
/-! Pu23: what the language calls of an own class: len, str, ==, !=, calls, properties. -/
namespace Pu
open PySem L2
/-- the class and the attributes of an instance -/
def asO (μ : Sto) : D → Option (Str × List (Str × D))
  | .obj C fs => some (C, fs)
  | .cell i => match μ[i]? with
    | some (.obj C fs) => some (C, fs)
    | _ => none
  | _ => none
theorem denF_get {W : Wd} {m : Mem} : ∀ {fs : List (Str × D)} {fv : List (Str × V)}, DenF W m fs fv → ∀ (f : Str), (∀ d, fs.lookup f = some d → ∃ v, fv.lookup f = some v ∧ Den W m d v) ∧ (fs.lookup f = none → fv.lookup f = none)
  | _, _, .nil, f => ⟨(fun d h => nomatch h), fun _ => rfl⟩
  | _, _, .cons (k := k) h t, f => by
    obtain ⟨i1, i2⟩ := denF_get t f
    constructor
    · intro d e
      rw [List.lookup_cons] at e ⊢
      cases q : f == k with
      | true => rw [q] at e; cases e; exact ⟨_, rfl, h⟩
      | false => rw [q] at e; exact i1 d e
    · intro e
      rw [List.lookup_cons] at e ⊢
      cases q : f == k with
      | true => rw [q] at e; cases e
      | false => rw [q] at e; exact i2 e
section
variable {W : Wd}
theorem asO_den {m : Mem} {d : D} {v : V} {C : Str} {fs : List (Str × D)} (g : Okm W m) (h : Den W m d v) (e : asO m.μ d = some (C, fs)) : ∃ a dx fv, v = .ref a ∧ m.H a = some (.ins (W.ca C) dx fv) ∧ DenF W m fs fv := by
  cases h with
  | obj h1 h2 h3 => simp [asO] at e; obtain ⟨rfl, rfl⟩ := e; exact ⟨_, _, _, rfl, h1, h3⟩
  | @cell i a h1 =>
    replace e : (match m.μ[i]? with | some (MO.obj C fs) => some (C, fs) | _ => none) = some (C, fs) := e
    cases q : m.μ[i]? with
    | none => rw [q] at e; cases e
    | some o =>
      rw [q] at e
      cases o with
      | obj C' fs' =>
        simp at e
        obtain ⟨rfl, rfl⟩ := e
        obtain ⟨dx, fv, h2, h3⟩ := g.ok i _ a q h1
        exact ⟨a, dx, fv, rfl, h2, h3⟩
      | _ => cases e
  | _ => simp [asO] at e
end
def noX {α : Type} (x : M α) : M α := fun μ => match x μ with
  | .exc _ _ => .stuck
  | r => r
theorem noX_wp {α : Type} {W : Wd} {m : Mem} {E E' : Ex → Mem → Prop} {Q : α → Mem → Prop} {x : M α} {μ : Sto} (h : wpR W m E Q (noX x μ)) : wpR W m E' Q (x μ) := by
  unfold noX at h
  cases q : x μ with
  | ok a μ' => rw [q] at h; exact h
  | exc e μ' => rw [q] at h; exact (show False from h).elim
  | stuck => rw [q] at h; exact h
section
variable {X : Cx} {W : Wd} {k : Nat} {f C : Addr} {fd : FuncData} {ps : List Str} {sp : Sp} {Z : WX} {G : Ctx} {r : Dn}
/-- a call out of the machine's own code; nothing is raised -/
theorem run_in {A : Around} {pins : List (Addr × Obj)} {σ : St} {H : Hp} {s : Shared} {Q : VK} {E' : Value → Shared → Prop} {us : List Value} {vs : List V} (F : FnG X.prog X.w X.K X.mg X.base k f fd ps sp) (room : Room k A) (gd : A.guards = some []) (e0 : Env0 X.prog X.w X.K X.mg X.base A X.stack s H)
    (bs : Binds X.K fd ps []) (I : Inv X pins σ H s) (r : Vals vs us) (h : sp vs H Q fun _ _ _ => False) : wpAny (model X.prog X.w) A (call (.ref f) us) (EP X pins σ Q) E' s := by
  have n : us.length = ps.length := by rw [← r.length]; exact F.arity _ _ _ _ h
  have bb := bs s us I.kIn (by rw [List.append_nil]; exact n)
  rw [List.append_nil] at bb
  refine wpAny_call (codeAny_mono (F.go A X.stack s H ⟨us, []⟩ us vs Q (fun _ _ _ => False) room gd e0 bb r h) fun res s' q => ?_)
  match res, q with
  | .error err, q => obtain ⟨_, _, _, _, _, _, _, _, _, _, _, _, z⟩ := q; exact z.elim
  | .ok .next, q => exact q.elim
  | .ok .brk, q => exact q.elim
  | .ok .cont, q => exact q.elim
  | .ok (.ret u), q => exact I.after q
/-- the instance itself -/
theorem inst_of {pins : List (Addr × Obj)} {σ : St} {H : Hp} {s : Shared} {a dx : Addr} {fv : List (Str × V)} (I : Inv X pins σ H s) (e : H a = some (.ins C dx fv)) : ∃ ox od, PySem.W.InstAt s.heap a ox C od ∧ ox.data = .plain := by
  obtain ⟨mA, O, _⟩ := ins_get I.hok e
  obtain ⟨od, J, _⟩ := O.look
  exact ⟨_, _, J, rfl⟩
/-! ### len(o) -/
def isLen (d : D) : M D := fun μ => match d with
  | .int i => if 0 ≤ i ∧ i < 2 ^ 63 then .ok d μ else .stuck
  | _ => .stuck
def lenO (G : Ctx) (xs : List D) : M D := fun μ => match xs with
  | [d] => match asO μ d with
    | some (C, _) => match G.dun C "__len__" with
      | some (0, F) => (do let n ← noX (F [d]); isLen n) μ
      | _ => .stuck
    | none => lenD xs μ
  | _ => .stuck
theorem call_lenO (ok : EOk W X Z G) (h4 : G.hot = false) : CallR X (.builtin "len") (RCof W (lenO G)) := by
  intro pins s σ H xs us Q I r h
  obtain ⟨E, ds, m, rfl, g, l, q⟩ := h
  unfold lenO at q
  split at q
  · rename_i d
    split at q
    · rename_i C fs e
      split at q
      · rename_i F hF
        obtain ⟨x, rfl, hd⟩ := dl1 l
        obtain ⟨a, dx, fv, rfl, h1, h3⟩ := asO_den g hd e
        obtain ⟨u, rfl, ru⟩ : ∃ u, us = [u] ∧ RelV (.ref a) u := by
          cases r with
          | cons a b => cases b; exact ⟨_, rfl, a⟩
        cases (show u = Value.ref a from ru)
        obtain ⟨f, fd, ps, j, hj, c, hm, FG, bs, _⟩ := ok.g.ob.dun C "__len__" 0 F hF
        rw [← ok.K] at c hm FG bs
        obtain ⟨ox, od, J, hpl⟩ := inst_of I h1
        obtain ⟨mf, hfr⟩ := I.fr
        have room : Room j X.A.in1 := ((ok.room h4).mono (by omega) : Room (j + 1) X.A).in1
        refine PySem.W.len_K hfr I.ok.mod.kin J hm.at_ hm.fn (wpAny_mono (run_in (Q := fun v H1 => ∃ i, v = .int i ∧ (0 ≤ i ∧ i < 2 ^ 63) ∧ Q v H1) FG room (by exact ok.gd) I.env0.in1 bs I (vs := [V.ref a]) (us := [Value.ref a]) (.cons rfl .nil) ⟨rfl, [d], m, rfl, g, .cons hd .nil, ?_⟩) (fun u s1 hu => ?_) fun _ _ z => z)
        · refine (noX_wp (E' := fun e m' => ∀ cls dx, XDen W m' e cls dx → False) (wpR_bind q)).mono (fun _ _ _ _ z => z) fun n m1 s1 g1 w1 v hv => ?_
          unfold isLen at w1
          cases n with
          | int i =>
            cases den_int hv
            simp only at w1
            by_cases hi : 0 ≤ i ∧ i < 2 ^ 63
            · rw [if_pos hi] at w1
              exact ⟨i, rfl, hi, w1 m1 (Step.refl m1) g1 rfl _ (.int i)⟩
            · rw [if_neg hi] at w1; exact w1.elim
          | _ => exact (show False from w1).elim
        · obtain ⟨v, H1, I1, rv, i, rfl, hi, q1⟩ := hu
          obtain ⟨t, rfl⟩ := (show ∃ t, u = Value.int i t from rv)
          exact ⟨hi, .int i, H1, I1.tok _, ⟨_, rfl⟩, q1⟩
      · exact (show False from q).elim
    · exact call_lenDn ok.K pins s σ m.H xs us Q I r ⟨E, _, m, rfl, g, l, q⟩
  · exact (show False from q).elim
/-! ### str(o) -/
def isTxt (d : D) : M D := fun μ => match d with
  | .str _ => .ok d μ
  | _ => .stuck
def strO (G : Ctx) (xs : List D) : M D := fun μ => match xs with
  | [d] => match asO μ d with
    | some (C, _) => match G.dun C "__str__" with
      | some (0, F) => (do let n ← noX (F [d]); isTxt n) μ
      | _ => .stuck
    | none => .stuck
  | _ => .stuck
theorem call_strO (ok : EOk W X Z G) (h4 : G.hot = false) : CallR X (.type "str") (RCof W (strO G)) := by
  intro pins s σ H xs us Q I r h
  obtain ⟨E, ds, m, rfl, g, l, q⟩ := h
  unfold strO at q
  split at q
  · rename_i d
    split at q
    · rename_i C fs e
      split at q
      · rename_i F hF
        obtain ⟨x, rfl, hd⟩ := dl1 l
        obtain ⟨a, dx, fv, rfl, h1, h3⟩ := asO_den g hd e
        obtain ⟨u, rfl, ru⟩ : ∃ u, us = [u] ∧ RelV (.ref a) u := by
          cases r with
          | cons a b => cases b; exact ⟨_, rfl, a⟩
        cases (show u = Value.ref a from ru)
        obtain ⟨f, fd, ps, j, hj, c, hm, FG, bs, _⟩ := ok.g.ob.dun C "__str__" 0 F hF
        rw [← ok.K] at c hm FG bs
        obtain ⟨ox, od, J, hpl⟩ := inst_of I h1
        have room : Room j X.A.in1.in1 := ((ok.room h4).mono hj : Room (j + 2) X.A).in1.in1
        refine PySem.W.kso_call (by have := room.un; omega) I.kIn J hm.at_ hm.fn (wpAny_mono (run_in (Q := fun v H1 => ∃ i, v = .str i ∧ Q v H1) FG room (by exact ok.gd) I.env0.in1.in1 bs I (vs := [V.ref a]) (us := [Value.ref a]) (.cons rfl .nil) ⟨rfl, [d], m, rfl, g, .cons hd .nil, ?_⟩) (fun u s1 hu => ?_) fun _ _ z => z)
        · refine (noX_wp (E' := fun e m' => ∀ cls dx, XDen W m' e cls dx → False) (wpR_bind q)).mono (fun _ _ _ _ z => z) fun n m1 s1 g1 w1 v hv => ?_
          unfold isTxt at w1
          cases n with
          | str i =>
            cases den_str hv
            exact ⟨i, rfl, w1 m1 (Step.refl m1) g1 rfl _ (.str i)⟩
          | _ => exact (show False from w1).elim
        · obtain ⟨v, H1, I1, rv, i, rfl, q1⟩ := hu
          obtain ⟨t, rfl⟩ := (show ∃ t, u = Value.str i t from rv)
          exact ⟨.str i, H1, I1, ⟨_, rfl⟩, q1⟩
      · exact (show False from q).elim
    · exact (show False from q).elim
  · exact (show False from q).elim
/-! ### o == y, o != y -/
theorem sub_ty {K : PySem.W.Frag} {C : Addr} {t : String} (ht : t ∈ ["NoneType", "bool", "int", "str", "tuple", "list", "dict"]) : PySem.W.subIn K (.type t) (.ref C) = some false := by
  have h : ∀ l, fastBuiltinMro t = some l → l.all (fun v => match v with | .type _ => true | _ => false) = true → PySem.W.subIn K (.type t) (.ref C) = some false := fun l e h => by
    show (fastBuiltinMro t).map (·.contains (.ref C)) = some false
    rw [e]
    show some (l.contains (.ref C)) = some false
    cases z : l.contains (Value.ref C) with
    | false => rfl
    | true => cases List.all_eq_true.mp h _ (List.contains_iff_mem.mp z)
  simp only [List.mem_cons, List.not_mem_nil, or_false] at ht
  rcases ht with rfl | rfl | rfl | rfl | rfl | rfl | rfl
  · exact h [.type "NoneType", .type "object"] (by decide +kernel) rfl
  · exact h [.type "bool", .type "int", .type "object"] (by decide +kernel) rfl
  · exact h [.type "int", .type "object"] (by decide +kernel) rfl
  · exact h [.type "str", .type "object"] (by decide +kernel) rfl
  · exact h [.type "tuple", .type "object"] (by decide +kernel) rfl
  · exact h [.type "list", .type "object"] (by decide +kernel) rfl
  · exact h [.type "dict", .type "object"] (by decide +kernel) rfl
theorem ne_K {prog : Program} {w : World} {A : Around} {E : Value → Shared → Prop} {s : Shared} {K : PySem.W.Frag} {x C f : Addr} {ox : Obj} {od : Option Obj} {b tb : Value} {Q : Value → Shared → Prop} (hu : A.units + 1 < cLine) (X : K.In s.heap) (I : PySem.W.InstAt s.heap x ox C od)
    (hb : PySem.W.Looks (model prog w) s.heap (typeOf b) tb) (hn : PySem.W.notFirst K C tb = true) (hne : PySem.W.findIn K (.ref C) "__ne__" = some (some (.builtin "object.__ne__"))) (hm : PySem.W.mroIn K C (.type "object") = some true)
    (hs : PySem.W.findIn K (.ref C) "__eq__" = some (some (.ref f))) (hf : PySem.W.isFn K (.ref f) = true)
    (h : wpAny (model prog w) A.in1 (call (.ref f) [.ref x, b]) (fun v s' => ∃ c, v = .bool c ∧ Q (.bool (!c)) s') E s) : wpAny (model prog w) A (richCompare .NotEq (.ref x) b) Q E s := by
  have entry : ∀ {P : Fin → Shared → Prop}, wpAny (model prog w) A.in1 (call (.ref f) [.ref x, b]) (fun v s' => ∃ c, v = .bool c ∧ P (.done (.ret (.bool (!c)))) s') E s → wpAny (model prog w) A.in1 (Builtin.«object.__ne__» ⟨[.ref x, b], []⟩) P E s := by
    intro P hc
    unfold Builtin.«object.__ne__»
    refine wpAny_bind (m := slotArgs "__ne__" 1 _) (wpAny_pure ?_)
    refine wpAny_bind (m := cRoomFor _ _) (wpAny_cRoomFor (by show A.units + 1 < cLine; exact hu) ?_)
    refine wpAny_bind (m := callSpecialIfBound? (.ref x) (Str.ofString "__eq__") _) (PySem.W.ifBound_K X I hs hf (wpAny_mono hc (fun r s' hr => ?_) fun _ _ y => y))
    obtain ⟨c, rfl, q⟩ := hr
    exact wpAny_bind (wpAny_truthy_bool (wpAny_pure q))
  have one : wpAny (model prog w) A (tryCompare (.ref x) "__ne__" b) (fun r s' => ∃ v, r = some v ∧ Q v s') E s := by
    unfold tryCompare
    refine wpAny_bind ?_
    simp only [callSpecialIfBound?, bindSpecialIfBound?]
    refine wpAny_holding (wpAny_bind (wpAny_bind (wpAny_bind (I.type.here ((PySem.W.looks_findIn X hne).here ?_)))))
    refine wpAny_bind (wpAny_askSetting (wpAny_ite ?_))
    have fin : ∀ {R : Option Value → Shared → Prop}, (∀ c s', Q (.bool c) s' → R (some (.bool c)) s') → wpAny (model prog w) A (call (.builtin "object.__ne__") ([.ref x] ++ [b]) >>= fun v => pure (some v)) R E s := by
      intro R hR
      refine wpAny_bind (wpAny_call (codeAny_call_builtin PySem.F.cmp_object.ne.plain PySem.F.cmpEntry_ne (PySem.W.check_slot PySem.F.cmpKind_ne PySem.F.cmpSplit_ne (I.type.andThen (PySem.W.looks_mroIn X hm)) (PySem.F.cmpArgs_ne _ _) (entry (wpAny_mono h (fun v s' hv => ?_) fun _ _ y => y)))))
      obtain ⟨c, rfl, q⟩ := hv
      exact ⟨c, rfl, wpAny_pure (hR _ _ q)⟩
    split
    · exact wpAny_bind (wpAny_of_eq (PySem.F.cmp_object.ne.bind _) (wpAny_pure (by exact fin fun c s' q => wpAny_pure ⟨_, rfl, q⟩)))
    · exact wpAny_tryCatch (wpAny_bind (wpAny_of_eq (PySem.F.cmp_object.ne.bind _) (wpAny_pure (by exact fin fun c s' q => wpAny_pure ⟨_, rfl, q⟩))))
  unfold richCompare
  simp only [oneThing_ref]
  refine wpAny_holding (wpAny_bind (wpAny_cRoomFor (Nat.lt_of_succ_lt hu) ?_))
  refine wpAny_bind (I.type.here (wpAny_bind (hb.here ?_)))
  split
  · rename_i q
    have e : PySem.W.subIn K tb (.ref C) = some false := by
      rcases Bool.or_eq_true_iff.mp hn with e | e
      · rw [beq_iff_eq.mp e] at q; simp at q
      · exact beq_iff_eq.mp e
    refine wpAny_bind ((PySem.W.looks_subIn X e).here ?_)
    simp only [Bool.false_eq_true, if_false]
    refine wpAny_bind (wpAny_mono one (fun r s' z => ?_) fun _ _ e => e)
    obtain ⟨v, rfl, hq⟩ := z
    exact wpAny_pure hq
  · refine wpAny_bind (wpAny_pure ?_)
    simp only [Bool.false_eq_true, if_false]
    refine wpAny_bind (wpAny_mono one (fun r s' z => ?_) fun _ _ e => e)
    obtain ⟨v, rfl, hq⟩ := z
    exact wpAny_pure hq
def notB (neg : Bool) (d : D) : M D := fun μ => match d with
  | .bl b => .ok (.bl (if neg then !b else b)) μ
  | _ => .stuck
/-- what an own == may be asked about -/
def eqAsk (μ : Sto) (C : Str) (y : D) : Bool := match asO μ y with
  | some (B, _) => decide (B = C)
  | none => (tyD μ y).isSome
def eqO (G : Ctx) (neg : Bool) (x y : D) : M D := fun μ => match asO μ x with
  | some (C, _) => match G.dun C "__eq__" with
    | some (1, F) => if (neg = false ∨ G.ne C = true) ∧ eqAsk μ C y = true then (do let z ← noX (F [x, y]); notB neg z) μ else .stuck
    | _ => .stuck
  | none => eqD neg x y μ
theorem op_eqO (ok : EOk W X Z G) (h4 : G.hot = false) (neg : Bool) : OpR X (compareOp (if neg then .NotEq else .Eq)) (R2of W (eqO G neg)) := by
  intro pins s σ H x y v u Q I rx ry h
  obtain ⟨E, d, e, m, rfl, g, hd, he, q⟩ := h
  unfold eqO at q
  split at q
  · rename_i C fs e1
    split at q
    · rename_i F hF
      by_cases hc : (neg = false ∨ G.ne C = true) ∧ eqAsk m.μ C e = true
      · rw [if_pos hc] at q
        obtain ⟨a, dx, fv, rfl, h1, h3⟩ := asO_den g hd e1
        cases (show v = Value.ref a from rx)
        obtain ⟨f, fd, ps, j, hj, c, hm, FG, bs, _⟩ := ok.g.ob.dun C "__eq__" 1 F hF
        rw [← ok.K] at c hm FG bs
        obtain ⟨ox, od, J, hpl⟩ := inst_of I h1
        obtain ⟨mf, hfr⟩ := I.fr
        -- the other's type
        obtain ⟨tb, L, nf⟩ : ∃ tb, PySem.W.Looks (model X.prog X.w) s.heap (typeOf u) tb ∧ PySem.W.notFirst X.K (W.ca C) tb = true := by
          have hq := hc.2
          unfold eqAsk at hq
          cases q2 : asO m.μ e with
          | some cf =>
            obtain ⟨B, gs⟩ := cf
            rw [q2] at hq
            have hB : B = C := of_decide_eq_true hq
            subst hB
            obtain ⟨b, dy, fw, rfl, h5, _⟩ := asO_den g he q2
            cases (show u = Value.ref b from ry)
            obtain ⟨oy, oe, J2, _⟩ := inst_of I h5
            exact ⟨_, J2.type, by simp [PySem.W.notFirst]⟩
          | none =>
            rw [q2] at hq
            obtain ⟨t, ht⟩ := Option.isSome_iff_exists.mp hq
            obtain ⟨z1, z2⟩ := ty_den g he ht
            rw [← ok.K] at z1
            obtain ⟨P, Zk, p, _⟩ := kit_of I ry z1
            exact ⟨_, Zk.ty _ _ I.kIn p, by unfold PySem.W.notFirst; rw [sub_ty z2]; simp⟩
        have ask : ∀ {A : Around}, Room j A → A.guards = some [] → Env0 X.prog X.w X.K X.mg X.base A X.stack s m.H → wpAny (model X.prog X.w) A (call (.ref f) [.ref a, u]) (EP X pins σ fun v H1 => ∃ c, v = .bl c ∧ Q (.bl (if neg then !c else c)) H1) X.xe s := by
          intro A room gd e0
          refine run_in FG room gd e0 bs I (vs := [V.ref a, y]) (us := [Value.ref a, u]) (.cons rfl (.cons ry .nil)) ⟨rfl, [d, e], m, rfl, g, .cons hd (.cons he .nil), ?_⟩
          refine (noX_wp (E' := fun e m' => ∀ cls dx, XDen W m' e cls dx → False) (wpR_bind q)).mono (fun _ _ _ _ z => z) fun n m1 s1 g1 w1 v hv => ?_
          unfold notB at w1
          cases n with
          | bl c =>
            cases den_bl hv
            exact ⟨c, rfl, w1 m1 (Step.refl m1) g1 rfl _ (.bl _)⟩
          | _ => exact (show False from w1).elim
        cases neg with
        | false =>
          have room : Room j X.A := (ok.room h4).mono (by omega)
          refine PySem.W.cmp_K (op := .Eq) (tb := tb) (by have := ok.un; omega) hfr I.ok.mod.kin J L nf hm.at_ hm.fn (wpAny_mono (ask room ok.gd I.env0) (fun r s1 hr => ?_) fun _ _ z => z)
          obtain ⟨w, H1, I1, rw1, c, rfl, q1⟩ := hr
          cases (show r = Value.bool c from rw1)
          exact ⟨.bl c, H1, I1, rfl, q1⟩
        | true =>
          have hne := hc.1.resolve_left (fun z => nomatch z)
          obtain ⟨n1, n2⟩ := ok.g.ob.ne C hne
          rw [← ok.K] at n1 n2
          have room : Room j X.A.in1 := ((ok.room h4).mono (by omega) : Room (j + 1) X.A).in1
          refine ne_K (tb := tb) (by have := ok.un; omega) I.kIn J L nf n1 n2 hm.at_ hm.fn (wpAny_mono (ask room ok.gd I.env0.in1) (fun r s1 hr => ?_) fun _ _ z => z)
          obtain ⟨w, H1, I1, rw1, c, rfl, q1⟩ := hr
          cases (show r = Value.bool c from rw1)
          exact ⟨c, rfl, .bl (!c), H1, I1, rfl, q1⟩
      · rw [if_neg hc] at q
        exact (show False from q).elim
    · exact (show False from q).elim
  · have hu : X.A.units + 64 < cLine := ok.un
    cases neg with
    | false => exact op_cmpD ok.K hu .Eq pins s σ m.H x y v u Q I rx ry ⟨E, d, e, m, rfl, g, hd, he, q⟩
    | true => exact op_cmpD ok.K hu .NotEq pins s σ m.H x y v u Q I rx ry ⟨E, d, e, m, rfl, g, hd, he, q⟩
/-- x in o, o's class tells __contains__ -/
def inO (G : Ctx) (neg : Bool) (x y : D) : M D := fun μ => match asO μ y with
  | some (C, _) => match G.dun C "__contains__" with
    | some (1, F) => (do let z ← noX (F [y, x]); notB neg z) μ
    | _ => .stuck
  | none => inD neg x y μ
theorem op_inO (ok : EOk W X Z G) (h4 : G.hot = false) (neg : Bool) : OpR X (compareOp (if neg then .NotIn else .In)) (R2of W (inO G neg)) := by
  intro pins s σ H x y v u Q I rx ry h
  obtain ⟨E, d, e, m, rfl, g, hd, he, q⟩ := h
  unfold inO at q
  split at q
  · rename_i C fs e1
    split at q
    · rename_i F hF
      obtain ⟨a, dx, fv, rfl, h1, h3⟩ := asO_den g he e1
      cases (show u = Value.ref a from ry)
      obtain ⟨f, fd, ps, j, hj, c, hm, FG, bs, _⟩ := ok.g.ob.dun C "__contains__" 1 F hF
      rw [← ok.K] at c hm FG bs
      obtain ⟨ox, od, J, hpl⟩ := inst_of I h1
      obtain ⟨mf, hfr⟩ := I.fr
      have room : Room j X.A := (ok.room h4).mono (by omega)
      have ask : wpAny (model X.prog X.w) X.A (call (.ref f) [.ref a, v]) (EP X pins σ fun v H1 => ∃ c, v = .bl c ∧ Q (.bl (if neg then !c else c)) H1) X.xe s := by
        refine run_in FG room ok.gd I.env0 bs I (vs := [V.ref a, x]) (us := [Value.ref a, v]) (.cons rfl (.cons rx .nil)) ⟨rfl, [e, d], m, rfl, g, .cons he (.cons hd .nil), ?_⟩
        refine (noX_wp (E' := fun e m' => ∀ cls dx, XDen W m' e cls dx → False) (wpR_bind q)).mono (fun _ _ _ _ z => z) fun n m1 s1 g1 w1 v hv => ?_
        unfold notB at w1
        cases n with
        | bl c =>
          cases den_bl hv
          exact ⟨c, rfl, w1 m1 (Step.refl m1) g1 rfl _ (.bl _)⟩
        | _ => exact (show False from w1).elim
      cases neg with
      | false =>
        refine PySem.W.in_K hfr I.ok.mod.kin J hm.at_ hm.fn (wpAny_mono ask (fun r s1 hr => ?_) fun _ _ z => z)
        obtain ⟨w, H1, I1, rw1, c, rfl, q1⟩ := hr
        cases (show r = Value.bool c from rw1)
        exact wpAny_pure ⟨.bl c, H1, I1, rfl, q1⟩
      | true =>
        refine PySem.W.notIn_K hfr I.ok.mod.kin J hm.at_ hm.fn (wpAny_mono ask (fun r s1 hr => ?_) fun _ _ z => z)
        obtain ⟨w, H1, I1, rw1, c, rfl, q1⟩ := hr
        cases (show r = Value.bool c from rw1)
        exact wpAny_pure ⟨.bl (!c), H1, I1, rfl, q1⟩
    · exact (show False from q).elim
  · have hu : X.A.units + 64 < cLine := ok.un
    cases neg with
    | false => exact op_cmpD ok.K hu .In pins s σ m.H x y v u Q I rx ry ⟨E, d, e, m, rfl, g, hd, he, q⟩
    | true => exact op_cmpD ok.K hu .NotIn pins s σ m.H x y v u Q I rx ry ⟨E, d, e, m, rfl, g, hd, he, q⟩
def inG (G : Ctx) (neg : Bool) : D → D → M D := if G.hot = false then inO G neg else inD neg
def eqG (G : Ctx) (neg : Bool) : D → D → M D := if G.hot = false then eqO G neg else eqD neg
def cmpO (G : Ctx) : CmpOp → D → D → M D
  | .Eq => eqG G false
  | .NotEq => eqG G true
  | .In => inG G false
  | .NotIn => inG G true
  | op => cmpD op
theorem op_cmpO (ok : EOk W X Z G) : ∀ op, OpR X (compareOp op) (R2of W (cmpO G op))
  | .Eq => by
    show OpR X _ (R2of W (eqG G false))
    unfold eqG
    by_cases h4 : G.hot = false
    · rw [if_pos h4]; exact op_eqO ok h4 false
    · rw [if_neg h4]; exact op_cmpD ok.K ok.un .Eq
  | .NotEq => by
    show OpR X _ (R2of W (eqG G true))
    unfold eqG
    by_cases h4 : G.hot = false
    · rw [if_pos h4]; exact op_eqO ok h4 true
    · rw [if_neg h4]; exact op_cmpD ok.K ok.un .NotEq
  | .Lt => op_cmpD ok.K ok.un .Lt
  | .LtE => op_cmpD ok.K ok.un .LtE
  | .Gt => op_cmpD ok.K ok.un .Gt
  | .GtE => op_cmpD ok.K ok.un .GtE
  | .In => by
    show OpR X _ (R2of W (inG G false))
    unfold inG
    by_cases h4 : G.hot = false
    · rw [if_pos h4]; exact op_inO ok h4 false
    · rw [if_neg h4]; exact op_cmpD ok.K ok.un .In
  | .NotIn => by
    show OpR X _ (R2of W (inG G true))
    unfold inG
    by_cases h4 : G.hot = false
    · rw [if_pos h4]; exact op_inO ok h4 true
    · rw [if_neg h4]; exact op_cmpD ok.K ok.un .NotIn
  | .Is => op_cmpD ok.K ok.un .Is
  | .IsNot => op_cmpD ok.K ok.un .IsNot
/-! ### isinstance(x, C), C an own class -/
def isiO (G : Ctx) (xs : List D) : M D := fun μ => match xs with
  | [d, .adr B] => match asO μ d with
    | some (C, _) => if G.cls C = true then (match G.sub C B with | some b => .ok (.bl b) μ | none => .stuck) else .stuck
    | none => if G.cls B = true ∧ (tyD μ d).isSome = true then .ok (.bl false) μ else .stuck
  | _ => isiD xs μ
theorem den_adr {m : Mem} {x : Str} {v : V} (h : Den W m (.adr x) v) : v = .ref (W.ca x) := by cases h; rfl
theorem call_isiO (ok : EOk W X Z G) : CallR X (.builtin "isinstance") (RCof W (isiO G)) := by
  intro pins s σ H xs us Q I r h
  obtain ⟨E, ds, m, rfl, g, l, q⟩ := h
  unfold isiO at q
  split at q
  · rename_i d B
    obtain ⟨x, y, rfl, hd, he⟩ := dl2 l
    cases den_adr he
    split at q
    · rename_i C fs e
      by_cases hC : G.cls C = true
      · rw [if_pos hC] at q
        split at q
        · rename_i b hb
          obtain ⟨a, dx, fv, rfl, h1, _⟩ := asO_den g hd e
          obtain ⟨c1, c2, _⟩ := ok.g.ob.cls C hC
          have c3 := ok.g.ob.sub C B b hb
          rw [← ok.K] at c1 c2 c3
          exact call_isi pins s σ m.H _ us Q I r ⟨.ref a, .ref (W.ca B), .ref (W.ca C), .ref (W.ca B), b, rfl, .own _, .base (.ins h1 c1 c2.ha c2.hn c2.htk c2.hm), c3, out.same q g (.bl _)⟩
        · exact (show False from q).elim
      · rw [if_neg hC] at q; exact (show False from q).elim
    · rename_i e
      by_cases hC : G.cls B = true ∧ (tyD m.μ d).isSome = true
      · rw [if_pos hC] at q
        obtain ⟨t, ht⟩ := Option.isSome_iff_exists.mp hC.2
        obtain ⟨z1, z2⟩ := ty_den g hd ht
        obtain ⟨_, _, c3⟩ := ok.g.ob.cls B hC.1
        have c4 := c3 t z2
        rw [← ok.K] at z1 c4
        exact call_isi pins s σ m.H _ us Q I r ⟨x, .ref (W.ca B), .type t, .ref (W.ca B), false, rfl, .own _, z1, c4, out.same q g (.bl _)⟩
      · rw [if_neg hC] at q; exact (show False from q).elim
  · exact call_isiD ok.K pins s σ m.H xs us Q I r ⟨E, _, m, rfl, g, l, q⟩
end
end Pu

set_option Elab.async false
set_option linter.all false
set_option maxRecDepth 100000
/-! Pu24: sorted(xs) of ints, of texts, of tuples of these. -/
namespace Pu
open PySem L2
/-! ### a stable sort -/
section
variable {α β : Type}
def insL (lt : α → α → Bool) (x : α) : List α → List α
  | [] => [x]
  | y :: r => if lt y x = true then y :: insL lt x r else x :: y :: r
def srtL (lt : α → α → Bool) : List α → List α
  | [] => []
  | x :: r => insL lt x (srtL lt r)
theorem ins_mem {lt : α → α → Bool} {x z : α} : ∀ {l : List α}, z ∈ insL lt x l → z = x ∨ z ∈ l
  | [], h => by
    rcases List.mem_cons.mp (show z ∈ [x] from h) with e | e
    · exact .inl e
    · cases e
  | y :: r, h => by
    unfold insL at h
    split at h
    · rcases List.mem_cons.mp h with e | e
      · exact .inr (e ▸ List.mem_cons_self)
      · rcases ins_mem e with e | e
        · exact .inl e
        · exact .inr (List.mem_cons_of_mem _ e)
    · rcases List.mem_cons.mp h with e | e
      · exact .inl e
      · exact .inr e
theorem srt_mem {lt : α → α → Bool} {z : α} : ∀ {l : List α}, z ∈ srtL lt l → z ∈ l
  | [], h => h
  | x :: r, h => by
    rcases ins_mem h with e | e
    · exact e ▸ List.mem_cons_self
    · exact List.mem_cons_of_mem _ (srt_mem e)
theorem ins_srt {lt : α → α → Bool} (O : SrtO.Swo lt) {x : α} : ∀ {l : List α}, SrtO.Srtd lt l → SrtO.Srtd lt (insL lt x l)
  | [], _ => SrtO.srtd_one x
  | y :: r, h => by
    have h1 := List.pairwise_cons.mp h
    unfold insL
    split
    · rename_i q
      refine List.pairwise_cons.mpr ⟨fun z hz => ?_, ins_srt O h1.2⟩
      rcases ins_mem hz with e | e
      · subst e; exact O.asym _ _ q
      · exact h1.1 z e
    · rename_i q
      have q : lt y x = false := by simpa using q
      refine List.pairwise_cons.mpr ⟨fun z hz => ?_, h⟩
      rcases List.mem_cons.mp hz with e | e
      · subst e; exact q
      · exact O.tr _ _ _ q (h1.1 z e)
theorem srt_srt {lt : α → α → Bool} (O : SrtO.Swo lt) : ∀ l : List α, SrtO.Srtd lt (srtL lt l)
  | [] => List.Pairwise.nil
  | x :: r => ins_srt O (srt_srt O r)
theorem ins_stb {lt : α → α → Bool} (O : SrtO.Swo lt) {x : α} : ∀ l : List α, SrtO.Stb lt (insL lt x l) (x :: l)
  | [] => SrtO.Stb.refl _
  | y :: r => by
    unfold insL
    split
    · rename_i q
      have h1 : SrtO.Stb lt ([y] ++ insL lt x r) ([y] ++ (x :: r)) := (SrtO.Stb.refl [y]).app (ins_stb O r)
      have h2 : SrtO.Stb lt (([y] ++ [x]) ++ r) (([x] ++ [y]) ++ r) := (SrtO.Stb.swap O fun a ha b hb => by
        have ea : a = y := by simpa using ha
        have eb : b = x := by simpa using hb
        rw [ea, eb]; exact q).app (SrtO.Stb.refl r)
      exact h1.trans h2
    · exact SrtO.Stb.refl _
theorem srt_stb {lt : α → α → Bool} (O : SrtO.Swo lt) : ∀ l : List α, SrtO.Stb lt (srtL lt l) l
  | [] => SrtO.Stb.refl _
  | x :: r => (ins_stb O (srtL lt r)).trans ((SrtO.Stb.refl [x]).app (srt_stb O r))
theorem ins_map {lt : α → α → Bool} {lt' : β → β → Bool} {f : α → β} {x : α} : ∀ {l : List α}, (∀ y ∈ l, lt y x = lt' (f y) (f x)) → (insL lt x l).map f = insL lt' (f x) (l.map f)
  | [], _ => rfl
  | y :: r, h => by
    rw [List.map_cons]
    unfold insL
    rw [← h y List.mem_cons_self]
    split
    · rw [List.map_cons, ins_map fun z hz => h z (List.mem_cons_of_mem _ hz)]
    · rfl
theorem srt_map {lt : α → α → Bool} {lt' : β → β → Bool} {f : α → β} : ∀ {l : List α}, (∀ y ∈ l, ∀ x ∈ l, lt y x = lt' (f y) (f x)) → (srtL lt l).map f = srtL lt' (l.map f)
  | [], _ => rfl
  | x :: r, h => by
    show (insL lt x (srtL lt r)).map f = insL lt' (f x) (srtL lt' (r.map f))
    rw [ins_map fun y hy => h y (List.mem_cons_of_mem _ (srt_mem hy)) x List.mem_cons_self, srt_map fun y hy z hz => h y (List.mem_cons_of_mem _ hy) z (List.mem_cons_of_mem _ hz)]
end
/-! ### keys -/
abbrev At := Int ⊕ List Nat
abbrev ltAs (a b : List At) : Bool := PyProof.Rows.lexLt PyProof.Rows.itemOrd a b
theorem swo_as : SrtO.Swo ltAs := by
  refine ⟨fun x y h => ?_, fun x y z h1 h2 => ?_⟩
  · cases q : ltAs y x with
    | false => rfl
    | true =>
      have z := PyProof.Rows.lex_trans (O := PyProof.Rows.itemOrd) x y x h q
      rw [PyProof.Rows.lex_irrefl] at z
      cases z
  · cases q : ltAs z x with
    | false => rfl
    | true =>
      rcases PyProof.Rows.lex_negTrans (O := PyProof.Rows.itemOrd) z y x q with e | e
      · rw [show ltAs z y = true from e] at h2; cases h2
      · rw [show ltAs y x = true from e] at h1; cases h1
theorem swo_on {α β : Type} {lt : β → β → Bool} (O : SrtO.Swo lt) (f : α → β) : SrtO.Swo fun x y => lt (f x) (f y) := ⟨fun x y => O.asym _ _, fun x y z => O.tr _ _ _⟩
def atomD : D → List At
  | .int i => [.inl i]
  | .str x => [.inr x.cps.toList]
  | _ => []
def keyD : D → List At
  | .tup ds => ds.flatMap atomD
  | d => atomD d
abbrev ltK (d e : D) : Bool := ltAs (keyD d) (keyD e)
def isIntD : D → Bool
  | .int _ => true
  | _ => false
def isStrD : D → Bool
  | .str _ => true
  | _ => false
/-- at some place a text stands -/
def shapeOf (ds : List D) (i : Nat) : Bool := ds.any fun d => match d with
  | .tup xs => match xs[i]? with
    | some (.str _) => true
    | _ => false
  | _ => false
def fits (sh : Nat → Bool) : Nat → List D → Bool
  | _, [] => true
  | i, .int _ :: r => !sh i && fits sh (i + 1) r
  | i, .str _ :: r => sh i && fits sh (i + 1) r
  | _, _ :: _ => false
def tupFits (sh : Nat → Bool) : D → Bool
  | .tup (x :: r) => fits sh 0 (x :: r)
  | _ => false
def sortable (ds : List D) : Bool := decide (ds.length < 2) || ds.all isIntD || ds.all isStrD || ds.all (tupFits (shapeOf ds))
def sortL (ds : List D) : List D := srtL ltK ds
def sortedD (xs : List D) : M D := fun μ => match xs with
  | [d] => match asS μ d with
    | some ds => if sortable ds = true then .ok (.lst (sortL ds)) μ else .stuck
    | none => .stuck
  | _ => .stuck
theorem sortL_short {ds : List D} (h : ds.length < 2) : sortL ds = ds := by
  match ds, h with
  | [], _ => rfl
  | [x], _ => rfl
  | _ :: _ :: l, h => exact absurd h (by rw [List.length_cons, List.length_cons]; omega)
theorem stb_symm {α : Type} {lt : α → α → Bool} {l m : List α} (h : SrtO.Stb lt l m) : SrtO.Stb lt m l := ⟨h.perm.symm, fun x => (h.cls x).symm⟩
section
variable {W : Wd} {X : Cx}
theorem triples {m : Mem} : ∀ {ds : List D} {vs : List V} {us : List Value}, DenL W m ds vs → Vals vs us → ∃ T : List (D × V × Value), T.map (·.1) = ds ∧ T.map (·.2.1) = vs ∧ T.map (·.2.2) = us ∧ ∀ t ∈ T, Den W m t.1 t.2.1 ∧ RelV t.2.1 t.2.2
  | _, _, _, .nil, .nil => ⟨[], rfl, rfl, rfl, fun t h => nomatch h⟩
  | _, _, _, .cons (d := d) (v := v) h l, .cons (b := u) r rr => by
    obtain ⟨T, e1, e2, e3, q⟩ := triples l rr
    refine ⟨(d, v, u) :: T, by rw [List.map_cons, e1], by rw [List.map_cons, e2], by rw [List.map_cons, e3], fun t ht => ?_⟩
    rcases List.mem_cons.mp ht with rfl | ht
    · exact ⟨h, r⟩
    · exact q t ht
theorem denL_of {m : Mem} : ∀ {T : List (D × V × Value)}, (∀ t ∈ T, Den W m t.1 t.2.1 ∧ RelV t.2.1 t.2.2) → DenL W m (T.map (·.1)) (T.map (·.2.1)) ∧ Vals (T.map (·.2.1)) (T.map (·.2.2))
  | [], _ => ⟨.nil, .nil⟩
  | t :: T, h => by
    obtain ⟨h1, h2⟩ := denL_of (T := T) fun u hu => h u (List.mem_cons_of_mem _ hu)
    exact ⟨.cons (h t List.mem_cons_self).1 h1, .cons (h t List.mem_cons_self).2 h2⟩
/-! ### sorted(t) of a tuple: as of a list -/
section
open PyProof.Rows Srt SrtO
variable {prog : Program} {w : World} {A : Around} {E : Value → Shared → Prop} {s : Shared}
theorem collectT {l : Addr} {o : Obj} {n : Nat} {vs : List Value} {Q : List Value → Shared → Prop} {T : String} (hT : T = "list" ∨ T = "tuple") (go : s.heap.get? l = some o) (gc : o.cls = .type T) (gd : o.data = .seq vs.toArray n)
    (q : Q vs { s with heap := (s.heap.push (seqObj "list" #[] 0)).update s.heap.objs.size (Obj.mapSeq (· ++ vs.toArray)) }) (gz : vs.length ≤ sizeLine) : wpAny (model prog w) A (collect (.ref l)) Q E s := by
  unfold collect
  refine wpAny_bind (wpAny_runValue (codeAny_builtin entry_proto_collect' ?_)); show wpAny _ _ (do again (.builtin "list.__iadd__" ⟨[← newList [], .ref l], []⟩)) _ _ s
  refine wpAny_bind (wpAny_newList (wpAny_pure ⟨Code.quiet_builtin _ (by decide +kernel), codeAny_builtin entry_list_iadd' ?_⟩)); show wpAny _ _ (Builtin.List.listExtendWith (.ref s.heap.objs.size) (.ref l) (.ref s.heap.objs.size)) _ _ { s with heap := s.heap.push (seqObj "list" #[] 0) }
  unfold Builtin.List.listExtendWith
  have go2 : (s.heap.push (seqObj "list" #[] 0)).get? l = some o := Heap.get?_push_of_some _ go
  refine wpAny_bind (wpAny_typeOf (T := T) ⟨o, go2, gc⟩ ?_)
  have tt : ((Value.type T == Value.type "list") || (Value.type T == Value.type "tuple")) = true := by rcases hT with rfl | rfl <;> rfl
  rw [if_pos (by rw [Bool.or_assoc, tt, Bool.or_true])]
  refine wpAny_bind (listItems_at go2 gd (wpAny_bind (listItems_at (xs := #[]) (n := 0) (Heap.get?_push_size _ rfl) rfl ?_)))
  rw [if_neg (by simp)]
  refine wpAny_bind (listUpdate_at (xs := #[]) (n := 0) (Heap.get?_push_size _ rfl) rfl (wpAny_pure ?_) (Nat.zero_le _) (by show (#[] ++ vs.toArray).size ≤ sizeLine + 1; simp only [Array.size_append, List.size_toArray, List.length_nil]; omega))
  show wpAny (model prog w) A (do
      let o ← load s.heap.objs.size
      match o.data with
      | .seq xs _ => pure xs.toList
      | _ => unsupported "internal:collect") Q E { s with heap := (s.heap.push (seqObj "list" #[] 0)).update s.heap.objs.size (Obj.mapSeq (· ++ vs.toArray)) }
  refine wpAny_bind (wpAny_load (get?_update_seq (Heap.get?_push_size _ rfl) _) ?_); show wpAny _ _ (pure ((#[] : Array Value) ++ vs.toArray).toList) Q E _
  rw [show ((#[] : Array Value) ++ vs.toArray).toList = vs by simp]; exact wpAny_pure q
theorem sorted_ordT {l : Addr} {o : Obj} {n : Nat} {T : String} {vs : List Value} {ltv : Value → Value → Bool} {Q : Value → Shared → Prop} (O : SrtO.Swo ltv) (hT : T = "list" ∨ T = "tuple") (go : s.heap.get? l = some o) (gc : o.cls = .type T) (gd : o.data = .seq vs.toArray n) (gz : vs.length ≤ sizeLine)
    (gS : 2 ≤ vs.length → ∀ (h₁ : Heap) (a : Addr), h₁.get? a = some (seqObj "list" vs.toArray 0) → (∀ b o, s.heap.get? b = some o → b ≠ a ∧ h₁.get? b = some o) → SortableO prog w A.in1.in1 { s with heap := h₁ } a vs ltv)
    (q : ∀ out : List Value, SrtO.Srtd ltv out → SrtO.Stb ltv out vs → Q (.ref (s.heap.objs.size + 1)) { s with heap := sortedAll s.heap vs out.toArray }) : wpAny (model prog w) A (call (.builtin "sorted") [.ref l]) Q E s := by
  refine Calls.call_function_entry kind_sorted plain_sorted entry_sorted (args_sorted1 _) ?_; unfold Builtin.«sorted»
  refine wpAny_bind (m := checkCount "sorted" 1 1 _) (wpAny_pure (wpAny_bind (collectT hT go gc gd (wpAny_bind (wpAny_newList ?_ gz)) gz)))
  have sz : ((s.heap.push (seqObj "list" #[] 0)).update s.heap.objs.size (Obj.mapSeq (· ++ vs.toArray))).objs.size = s.heap.objs.size + 1 := by rw [Heap.size_update, size_push']
  have hoL : (((s.heap.push (seqObj "list" #[] 0)).update s.heap.objs.size (Obj.mapSeq (· ++ vs.toArray))).push (seqObj "list" vs.toArray 0)).get? (s.heap.objs.size + 1) = some (seqObj "list" vs.toArray 0) := by rw [← sz]; exact Heap.get?_push_size _ rfl
  have kp : ∀ b o, s.heap.get? b = some o → b ≠ s.heap.objs.size + 1 ∧ (((s.heap.push (seqObj "list" #[] 0)).update s.heap.objs.size (Obj.mapSeq (· ++ vs.toArray))).push (seqObj "list" vs.toArray 0)).get? b = some o := fun b o z => by
    have lt : b < s.heap.objs.size := Heap.lt_size z
    exact ⟨Nat.ne_of_lt (Nat.lt_succ_of_lt lt), Heap.get?_push_of_some _ (by rw [Heap.get?_update_ne _ _ _ _ (Nat.ne_of_lt lt)]; exact Heap.get?_push_of_some _ z)⟩
  show wpAny _ _ _ _ _ { s with heap := ((s.heap.push (seqObj "list" #[] 0)).update s.heap.objs.size (Obj.mapSeq (· ++ vs.toArray))).push (seqObj "list" vs.toArray 0) }; rw [sz]
  refine wpAny_bind (wpAny_holding (wpAny_call_entry slot_list_sort ⟨_, hoL, rfl⟩ entry_list_sort (list_sort_ord O hoL gz (fun h2 => gS h2 _ _ hoL kp) fun out a1 a2 => ⟨_, rfl, wpAny_pure ⟨_, rfl, q out a1 a2⟩⟩) (args_list_sort _)))
end
/-! ### sum(xs) of ints -/
def intsOf : List D → Option (List Int)
  | [] => some []
  | .int b :: r => (intsOf r).map (b :: ·)
  | _ :: _ => none
theorem intsOf_map : ∀ {ds : List D} {bs : List Int}, intsOf ds = some bs → ds = bs.map D.int
  | [], bs, e => by simp [intsOf] at e; subst e; rfl
  | d :: ds, bs, e => by
    cases d with
    | int b =>
      cases q : intsOf ds with
      | none => simp [intsOf, q] at e
      | some r =>
        simp [intsOf, q] at e
        subst e
        rw [intsOf_map q]
        rfl
    | _ => simp [intsOf] at e
theorem intsOf_of : ∀ bs : List Int, intsOf (bs.map D.int) = some bs
  | [] => rfl
  | b :: r => by simp [intsOf, intsOf_of r]
def sumD (xs : List D) : M D := fun μ => match xs with
  | [d] => match (asQ μ d).bind intsOf with
    | some bs => .ok (.int bs.sum) μ
    | none => .stuck
  | _ => .stuck
theorem call_sumD (hK : X.K = W.K) (hc : X.calm = true) : CallR X (.builtin "sum") (RCof W sumD) := by
  intro pins s σ H xs us Q I r h
  obtain ⟨E, ds, m, rfl, g, l, q⟩ := h
  unfold sumD at q
  split at q
  · rename_i d
    obtain ⟨x, rfl, hd⟩ := dl1 l
    split at q
    · rename_i bs e
      cases q2 : asQ m.μ d with
      | none => rw [q2] at e; cases e
      | some ds =>
        rw [q2] at e
        obtain ⟨a, vs, rfl, h1, l1⟩ := asQ_den g hd q2
        have e2 := intsOf_map (show intsOf ds = some bs from e)
        subst e2
        rw [DenL.of_ints l1] at h1
        exact cr_sum hc pins s σ m.H _ us Q I r ⟨a, bs, rfl, by rw [hK]; exact h1, out.same q g (.int _)⟩
    · exact q.elim
  · exact q.elim
def kA : Value → List At
  | .int i _ => [.inl i]
  | .str x _ => [.inr x.cps.toList]
  | _ => []
theorem tupItems_of {m : Mem} {sh : Nat → Bool} : ∀ {xs : List D} {ws : List V} {its : List Value} {i : Nat}, DenL W m xs ws → Vals ws its → fits sh i xs = true → PyProof.Rows.tupItems sh i its = some (xs.flatMap atomD)
  | _, _, _, _, .nil, .nil, _ => rfl
  | _, _, _, i, .cons (d := d) h l, .cons r rr, f => by
    cases d with
    | int k =>
      cases h
      obtain ⟨t, rfl⟩ := r
      simp only [fits, Bool.and_eq_true, Bool.not_eq_true'] at f
      have ih := tupItems_of l rr f.2
      show (if sh i = true then none else (PyProof.Rows.tupItems sh (i + 1) _).map (Sum.inl k :: ·)) = _
      rw [if_neg (by rw [f.1]; exact Bool.false_ne_true), ih]
      rfl
    | str k =>
      cases h
      obtain ⟨t, rfl⟩ := r
      simp only [fits, Bool.and_eq_true] at f
      have ih := tupItems_of l rr f.2
      show (if sh i = true then (PyProof.Rows.tupItems sh (i + 1) _).map (Sum.inr k.cps.toList :: ·) else none) = _
      rw [if_pos f.1, ih]
      rfl
    | _ => simp [fits] at f
theorem lt1_int (a b : Int) : ltAs [.inl a] [.inl b] = decide (a < b) := by
  show (decide (a < b) || (!decide (b < a) && false)) = decide (a < b)
  simp
theorem lt1_str (a b : Str) : ltAs [.inr a.cps.toList] [.inr b.cps.toList] = decide (a.cps.toList < b.cps.toList) := by
  show (PyProof.Rows.strKind.blt a.cps.toList b.cps.toList || (!PyProof.Rows.strKind.blt b.cps.toList a.cps.toList && false)) = decide (a.cps.toList < b.cps.toList)
  rw [Bool.and_false, Bool.or_false]
theorem strs_are : ∀ {us : List Value}, (∀ u ∈ us, ∃ x t, u = Value.str x t) → ∃ ss, PyProof.Rows.StrsAre us ss
  | [], _ => ⟨[], .nil⟩
  | u :: us, h => by
    obtain ⟨ss, q⟩ := strs_are (us := us) fun v hv => h v (List.mem_cons_of_mem _ hv)
    obtain ⟨x, t, rfl⟩ := h u List.mem_cons_self
    exact ⟨_, .cons x t q⟩
theorem tups_of {h : Heap} {sh : Nat → Bool} : ∀ {us : List Value}, (∀ u ∈ us, ∃ f, PyProof.Rows.TupOf h sh u f) → ∃ fs, PyProof.Rows.TupsOf h sh us fs ∧ fs.length = us.length
  | [], _ => ⟨[], .nil, rfl⟩
  | u :: us, q => by
    obtain ⟨fs, h1, h2⟩ := tups_of (us := us) fun v hv => q v (List.mem_cons_of_mem _ hv)
    obtain ⟨f, hf⟩ := q u List.mem_cons_self
    exact ⟨f :: fs, .cons hf h1, by rw [List.length_cons, List.length_cons, h2]⟩
theorem call_sortedD (hK : X.K = W.K) : CallR X (.builtin "sorted") (RCof W sortedD) := by
  intro pins s σ H xs us Q I r h
  obtain ⟨E, ds0, m, rfl, g, l, q⟩ := h
  unfold sortedD at q
  split at q
  case h_2 => exact (show False from q).elim
  rename_i d
  obtain ⟨x, rfl, hd⟩ := dl1 l
  split at q
  case h_2 => exact (show False from q).elim
  rename_i ds e
  by_cases hs : sortable ds = true
  case neg => rw [if_neg hs] at q; exact (show False from q).elim
  rw [if_pos hs] at q
  obtain ⟨a, vs, rfl, h1, l1⟩ := asS_den g hd e
  rw [← hK] at h1
  obtain ⟨its, T0, o0, n0, rv, hT0, go, gc, gd, hz⟩ : ∃ (its : List Value) (T0 : String) (o0 : Obj) (n0 : Nat), Vals vs its ∧ (T0 = "list" ∨ T0 = "tuple") ∧ s.heap.get? a = some o0 ∧ o0.cls = .type T0 ∧ o0.data = .seq its.toArray n0 ∧ vs.length ≤ sizeLine := by
    rcases h1 with h1 | h1
    · obtain ⟨its, rv, ⟨o, n, e1, e2, e3, e4⟩, hz⟩ := I.list h1
      exact ⟨its, "list", o, n, rv, .inl rfl, e1, e2, e4, hz⟩
    · obtain ⟨its, rv, ⟨o, e1, e2, n, e3⟩, hz⟩ := I.tuple h1
      exact ⟨its, "tuple", o, n, rv, .inr rfl, e1, e2, e3, hz⟩
  rw [Vals.ref1 r]
  obtain ⟨T, e1, e2, e3, hT⟩ := triples l1 rv
  -- the end, once the order is told
  have fin : ∀ ltv : Value → Value → Bool, SrtO.Swo ltv → (∀ t ∈ T, ∀ t' ∈ T, ltv t.2.2 t'.2.2 = ltK t.1 t'.1) → (2 ≤ its.length → ∀ (h₁ : Heap) (a : Addr), h₁.get? a = some (PyProof.Rows.seqObj "list" its.toArray 0) → (∀ b o, s.heap.get? b = some o → b ≠ a ∧ h₁.get? b = some o) → SrtO.SortableO X.prog X.w X.A.in1.in1 { s with heap := h₁ } a its ltv) →
      wpAny (model X.prog X.w) X.A (call (.builtin "sorted") [.ref a]) (EP X pins σ Q) X.xe s := by
    intro ltv O hk hS
    refine sorted_ordT O hT0 go gc gd (by rw [← rv.length]; exact hz) hS fun ov k1 k2 => ?_
    let T' := srtL (fun t t' : D × V × Value => ltv t.2.2 t'.2.2) T
    have O' : SrtO.Swo (fun t t' : D × V × Value => ltv t.2.2 t'.2.2) := swo_on O (fun t : D × V × Value => t.2.2)
    have k3 : SrtO.Stb ltv (T'.map (·.2.2)) its := by
      rw [← e3]
      exact SrtO.Stb.map O (fun t : D × V × Value => t.2.2) (srt_stb O' T)
    have k4 : ov = T'.map (·.2.2) := SrtO.stb_uniq O k1 (SrtO.srtd_map (srt_srt O' T)) (k2.trans (stb_symm k3))
    have k5 : sortL ds = T'.map (·.1) := by
      rw [← e1]
      exact (srt_map hk).symm
    obtain ⟨k6, k7⟩ := denL_of (W := W) (m := m) (T := T') fun t ht => hT t (srt_mem ht)
    obtain ⟨ep, he'⟩ := PyProof.Rows.sortedAll_at s.heap its ov.toArray
    have hlen : (T'.map (·.2.1)).length ≤ sizeLine := by
      have z := k3.len
      rw [List.length_map] at z
      rw [List.length_map, z, ← rv.length]
      exact hz
    rw [k5] at q
    have hfr : m.H (s.heap.objs.size + 1) = none := I.hok.fresh (Nat.le_succ _)
    exact ⟨.ref _, upd m.H (s.heap.objs.size + 1) (.lst (T'.map (·.2.1))), I.laid (t' := s.toks) (fun _ _ => PyProof.Rows.sortedAll_old) (Nat.le_succ _) ⟨hlen, ov, ep, by rw [k4]; exact k7, he'⟩, rfl, q.lst g k6 hfr⟩
  have len : its.length = ds.length := by rw [← e3, ← e1, List.length_map, List.length_map]
  by_cases h2 : ds.length < 2
  · refine fin (fun u v => false) ⟨(fun _ _ z => rfl), (fun _ _ _ _ _ => rfl)⟩ (fun t ht t' ht' => ?_) fun z => absurd z (by omega)
    have hl2 : T.length < 2 := by rw [← e1, List.length_map] at h2; exact h2
    have : t = t' := by
      match T, hl2, ht, ht' with
      | [y], _, ht, ht' => rw [List.mem_singleton.mp ht, List.mem_singleton.mp ht']
      | _ :: _ :: _, hl2, _, _ => exact absurd hl2 (by rw [List.length_cons, List.length_cons]; omega)
    subst this
    exact (swo_as.refl (keyD t.1)).symm
  have hs' : ds.all isIntD = true ∨ ds.all isStrD = true ∨ ds.all (tupFits (shapeOf ds)) = true := by
    unfold sortable at hs
    rw [decide_eq_false h2] at hs
    simp only [Bool.false_or, Bool.or_eq_true] at hs
    rcases hs with (z | z) | z
    · exact .inl z
    · exact .inr (.inl z)
    · exact .inr (.inr z)
  have mem1 : ∀ t ∈ T, t.1 ∈ ds := fun t ht => by rw [← e1]; exact List.mem_map.mpr ⟨t, ht, rfl⟩
  have mem3 : ∀ u ∈ its, ∃ t ∈ T, t.2.2 = u := fun u hu => by rw [← e3] at hu; exact List.mem_map.mp hu
  rcases hs' with hi | hi | hi
  · have hv : ∀ t ∈ T, ∃ i k, t.1 = D.int i ∧ t.2.2 = Value.int i k := fun t ht => by
      have z := List.all_eq_true.mp hi _ (mem1 t ht)
      obtain ⟨z1, z2⟩ := hT t ht
      obtain ⟨d1, v1, u1⟩ := t
      cases d1 with
      | int i => cases z1; obtain ⟨k, rfl⟩ := z2; exact ⟨i, k, rfl, rfl⟩
      | _ => cases z
    refine fin (fun u v => ltAs (kA u) (kA v)) (swo_on swo_as kA) (fun t ht t' ht' => ?_) fun hz2 h₁ a' _ _ h' _ => ⟨PyProof.Rows.oneType', fun Q E hq => ?_, fun p p' hp hp' => ?_⟩
    · obtain ⟨i, k, z1, z2⟩ := hv t ht
      obtain ⟨i', k', z1', z2'⟩ := hv t' ht'
      rw [z1, z1', z2, z2']
      rfl
    · have hI := SrtO.ints_iv (vs := its) fun u hu => by
        obtain ⟨t, ht, rfl⟩ := mem3 u hu
        obtain ⟨i, k, _, z⟩ := hv t ht
        exact ⟨i, k, z⟩
      match its, hI, hz2 with
      | v1 :: v2 :: rest, hI, _ => rw [PyProof.Rows.keyKind_ints hI]; exact wpAny_pure hq
      | [], _, h => exact absurd h (by decide)
      | [v], _, h => exact absurd h (by simp)
    · obtain ⟨t, ht, z1⟩ := mem3 _ hp
      obtain ⟨t', ht', z1'⟩ := mem3 _ hp'
      obtain ⟨i, k, _, z⟩ := hv t ht
      obtain ⟨i', k', _, z'⟩ := hv t' ht'
      have y1 := z1.symm.trans z
      have y2 := z1'.symm.trans z'
      show wpAny (model X.prog X.w) X.A.in1.in1 (PyProof.Rows.keyLt' PyProof.Rows.oneType' p.1 p'.1) (fun r s' => s' = _ ∧ r = ltAs (kA p.1) (kA p'.1)) (fun _ _ => False) _
      rw [y1, y2, PyProof.Rows.keyLt'_oneType]
      exact PyProof.Rows.oneLt_int ⟨rfl, (lt1_int i i').symm⟩
  · have hv : ∀ t ∈ T, ∃ i k, t.1 = D.str i ∧ t.2.2 = Value.str i k := fun t ht => by
      have z := List.all_eq_true.mp hi _ (mem1 t ht)
      obtain ⟨z1, z2⟩ := hT t ht
      obtain ⟨d1, v1, u1⟩ := t
      cases d1 with
      | str i => cases z1; obtain ⟨k, rfl⟩ := z2; exact ⟨i, k, rfl, rfl⟩
      | _ => cases z
    refine fin (fun u v => ltAs (kA u) (kA v)) (swo_on swo_as kA) (fun t ht t' ht' => ?_) fun hz2 h₁ a' _ _ h' _ => ⟨PyProof.Rows.oneType', fun Q E hq => ?_, fun p p' hp hp' => ?_⟩
    · obtain ⟨i, k, z1, z2⟩ := hv t ht
      obtain ⟨i', k', z1', z2'⟩ := hv t' ht'
      rw [z1, z1', z2, z2']
      rfl
    · obtain ⟨ss, hI⟩ := strs_are (us := its) fun u hu => by
        obtain ⟨t, ht, rfl⟩ := mem3 u hu
        obtain ⟨i, k, _, z⟩ := hv t ht
        exact ⟨i, k, z⟩
      match its, hI, hz2 with
      | v1 :: v2 :: rest, hI, _ => rw [PyProof.Rows.keyKind_strs hI]; exact wpAny_pure hq
      | [], _, h => exact absurd h (by decide)
      | [v], _, h => exact absurd h (by simp)
    · obtain ⟨t, ht, z1⟩ := mem3 _ hp
      obtain ⟨t', ht', z1'⟩ := mem3 _ hp'
      obtain ⟨i, k, _, z⟩ := hv t ht
      obtain ⟨i', k', _, z'⟩ := hv t' ht'
      have y1 := z1.symm.trans z
      have y2 := z1'.symm.trans z'
      show wpAny (model X.prog X.w) X.A.in1.in1 (PyProof.Rows.keyLt' PyProof.Rows.oneType' p.1 p'.1) (fun r s' => s' = _ ∧ r = ltAs (kA p.1) (kA p'.1)) (fun _ _ => False) _
      rw [y1, y2, PyProof.Rows.keyLt'_oneType]
      exact PyProof.Rows.oneLt_str ⟨rfl, (lt1_str i i').symm⟩
  · generalize hsh : shapeOf ds = sh at hi
    have hv : ∀ t ∈ T, ∃ b o its' n, t.2.2 = Value.ref b ∧ s.heap.get? b = some o ∧ o.cls = .type "tuple" ∧ o.data = .seq (List.toArray its') n ∧ PyProof.Rows.tupItems sh 0 its' = some (keyD t.1) ∧ ∃ f, its'[0]? = some f ∧ (sh 0 = false → ∃ k t, f = .int k t) ∧ (sh 0 = true → ∃ x t, f = .str x t) := fun t ht => by
      have z := List.all_eq_true.mp hi _ (mem1 t ht)
      obtain ⟨z1, z2⟩ := hT t ht
      obtain ⟨d1, v1, u1⟩ := t
      cases d1 with
      | tup ys =>
        cases ys with
        | nil => cases z
        | cons y ys =>
          cases z1 with
          | @tup _ b ws hp lw =>
            cases (show u1 = Value.ref b from z2)
            have hsq : SqT X.K m.H b ws := by rw [hK]; exact hp.sq
            obtain ⟨its', rw', ⟨o, ho, hc, n, hdt⟩, _⟩ := I.tuple hsq
            have hti := tupItems_of lw rw' (show fits sh 0 (y :: ys) = true from z)
            refine ⟨b, o, its', n, rfl, ho, hc, hdt, hti, ?_⟩
            cases rw' with
            | nil => cases lw
            | @cons _ f _ us' rf rr =>
              refine ⟨f, rfl, ?_⟩
              cases lw with
              | cons hy ly =>
                cases y with
                | int k =>
                  cases hy
                  obtain ⟨tk, rfl⟩ := rf
                  simp only [tupFits, fits, Bool.and_eq_true, Bool.not_eq_true'] at z
                  exact ⟨fun _ => ⟨k, tk, rfl⟩, fun w => by rw [z.1] at w; cases w⟩
                | str k =>
                  cases hy
                  obtain ⟨tk, rfl⟩ := rf
                  simp only [tupFits, fits, Bool.and_eq_true] at z
                  exact ⟨(fun w => by rw [z.1] at w; cases w), fun _ => ⟨k, tk, rfl⟩⟩
                | _ => simp [tupFits, fits] at z
      | _ => cases z
    have key : ∀ {h : Heap}, (∀ b o, s.heap.get? b = some o → o.cls = .type "tuple" → h.get? b = some o) → ∀ t ∈ T, PyProof.Rows.tupKey h sh t.2.2 = some (keyD t.1) := fun {h} hk t ht => by
      obtain ⟨b, o, its', n, z, ho, hc, hdt, hti, _⟩ := hv t ht
      rw [z]
      show (match h.get? b with | some o => (match o.data with | .seq xs _ => PyProof.Rows.tupItems sh 0 xs.toList | _ => none) | none => none) = _
      rw [hk b o ho hc]
      simp only [hdt]
      exact hti
    refine fin (fun u v => ltAs ((PyProof.Rows.tupKey s.heap sh u).getD []) ((PyProof.Rows.tupKey s.heap sh v).getD [])) (swo_on swo_as fun u => (PyProof.Rows.tupKey s.heap sh u).getD []) (fun t ht t' ht' => ?_) fun hz2 h₁ a' ha' kk h' keep => ⟨PyProof.Rows.tuples' true, fun Q E hq => ?_, fun p p' hp hp' => ?_⟩
    · rw [key (fun _ _ z _ => z) t ht, key (fun _ _ z _ => z) t' ht']
      rfl
    · have kk' : ∀ b o, s.heap.get? b = some o → h'.get? b = some o := fun b o z => keep b o (kk b o z).1 (kk b o z).2
      obtain ⟨fs, hfs, hfl⟩ := tups_of (h := h') (sh := sh) (us := its) fun u hu => by
        obtain ⟨t, ht, rfl⟩ := mem3 u hu
        obtain ⟨b, o, its', n, z, ho, hc, hdt, hti, f, hf, hf1, hf2⟩ := hv t ht
        exact ⟨f, b, o, its'.toArray, n, z, kk' b o ho, hc, hdt, by simpa using hf, hf1, hf2⟩
      exact PyProof.Rows.tup_kind (s := { s with heap := h' }) (by omega) hfs hq
    · have kk' : ∀ b o, s.heap.get? b = some o → h'.get? b = some o := fun b o z => keep b o (kk b o z).1 (kk b o z).2
      obtain ⟨t, ht, z1⟩ := mem3 _ hp
      obtain ⟨t', ht', z1'⟩ := mem3 _ hp'
      show wpAny (model X.prog X.w) X.A.in1.in1 (PyProof.Rows.keyLt' (PyProof.Rows.tuples' true) p.1 p'.1) (fun r s' => s' = _ ∧ r = ltAs ((PyProof.Rows.tupKey s.heap sh p.1).getD []) ((PyProof.Rows.tupKey s.heap sh p'.1).getD [])) (fun _ _ => False) _
      rw [← z1, ← z1', key (fun _ _ z _ => z) t ht, key (fun _ _ z _ => z) t' ht']
      exact PyProof.Rows.tup_ltAt (s := { s with heap := h' }) true _ _ t.2.2 t'.2.2 (keyD t.1) (keyD t'.1) (key (fun b o z _ => kk' b o z) t ht) (key (fun b o z _ => kk' b o z) t' ht') ⟨rfl, rfl⟩
end
end Pu

set_option Elab.async false
set_option linter.all false
set_option maxRecDepth 100000
/-! Pu7: the den of expressions and statements. -/
namespace Pu
open PySem L2

structure Dn where
  e : Ctx → Expr → Sl → M D
  t : Ctx → Expr → Sl → M Bool
  s : Ctx → List Stmt → Sl → M Fl

/-! ### names -/
def Ctx.ix (G : Ctx) (x : Str) : Option Nat := if G.N[G.N.idxOf x]? = some x then some (G.N.idxOf x) else none
theorem Ctx.ix_at {G : Ctx} {x : Str} {i : Nat} (h : G.ix x = some i) : G.N[i]? = some x := by
  unfold Ctx.ix at h
  split at h
  · rename_i e; cases h; exact e
  · cases h
def visB (sc : Scope) (x : Str) : Bool := match sc.names.lookup x with
  | some .local => true
  | some .cell => true
  | some .free => true
  | _ => false
theorem visB_vis {sc : Scope} {x : Str} (h : visB sc x = true) : Vis sc x := by
  unfold visB at h
  split at h
  · rename_i e; exact .inl e
  · rename_i e; exact .inr (.inl e)
  · rename_i e; exact .inr (.inr e)
  · cases h
def okName (x : Str) : Bool := !(x == ("__debug__" : Str)) && !(x == ("__classdict__" : Str)) && !(x == ("__name__" : Str))
theorem okName_1 {x : Str} (h : okName x = true) : (x == ("__debug__" : Str)) = false := by
  unfold okName at h
  simp only [Bool.and_eq_true, Bool.not_eq_true'] at h
  exact h.1.1
theorem okName_2 {x : Str} (h : okName x = true) : (x == ("__classdict__" : Str)) = false := by
  unfold okName at h
  simp only [Bool.and_eq_true, Bool.not_eq_true'] at h
  exact h.1.2
theorem okName_3 {x : Str} (h : okName x = true) : x ≠ "__name__" := by
  unfold okName at h
  simp only [Bool.and_eq_true, Bool.not_eq_true'] at h
  exact fun e => by have := h.2; rw [e] at this; exact absurd this (by decide +kernel)
def glB (sc : Scope) (x : Str) : Bool := sc.names.lookup x == some .globalImplicit
def slot (i : Nat) (ρ : Sl) : M D := fun μ => match ρ[i]? with
  | some (some d) => .ok d μ
  | _ => .stuck
/-- a cell that changes no more becomes plain -/
def frzD (d : D) : M D := fun μ => match d with
  | .cell i => match μ[i]? with
    | some (.lst ds) => .ok (.lst ds) (μ.set i .dead)
    | some (.dic kvs) => .ok (.dic kvs) (μ.set i .dead)
    | _ => .stuck
  | d => .ok d μ
def tyOf (x : Str) : Option String :=
  if x = "int" then some "int" else if x = "bool" then some "bool" else if x = "str" then some "str" else if x = "tuple" then some "tuple" else if x = "list" then some "list" else if x = "dict" then some "dict" else none
theorem tyOf_boot {x : Str} {n : String} (h : tyOf x = some n) : bootBuiltins x = some (.type n) := by
  unfold tyOf at h
  repeat' split at h
  all_goals first
    | (rename_i e; subst e; cases h; decide +kernel)
    | (cases h)
    | skip
  all_goals (subst_vars; decide +kernel)
def nameD (G : Ctx) (x : Str) (pos : Pos) (ρ : Sl) : M D :=
  if okName x = true then
    if visB G.sc x = true then
      match G.ix x with
      | some i => if G.hint pos = 2 then (do let d ← slot i ρ; frzD d) else slot i ρ
      | none => stuck
    else if glB G.sc x = true then
      match G.glob x with
      | some d => yes d
      | none => match tyOf x with
        | some n => if G.isB x = true then yes (.ty n) else stuck
        | none => stuck
    else stuck
  else stuck
def constD : Const → M D
  | .none => yes .non
  | .bool b => yes (.bl b)
  | .int i => yes (.int i)
  | .str s => yes (.str s)
  | _ => stuck

/-! ### shapes -/
def noStar : List Expr → Bool
  | [] => true
  | .Starred _ _ :: _ => false
  | _ :: r => noStar r
theorem star_cons {e : Expr} {es : List Expr} {env : Env} (h : noStar (e :: es) = true) : starEach (e :: es) env = (false, eval e env) :: starEach es env ∧ noStar es = true := by
  cases e <;> first | exact ⟨rfl, h⟩ | cases h
theorem star_any {pos : Pos} {env : Env} : ∀ {es : List Expr}, noStar es = true → (backTo pos (starEach es env)).any (·.1) = false
  | [], _ => rfl
  | e :: es, h => by
    obtain ⟨h1, h2⟩ := star_cons (env := env) h
    rw [h1]
    have ih := star_any (pos := pos) (env := env) h2
    unfold backTo at ih ⊢
    first
      | (rw [List.map_cons, List.any_cons]; rw [ih]; rfl)
      | (simp only [List.any_cons, Bool.false_or] at ih ⊢; exact ih)
      | (simp at ih ⊢; exact ih)

/-! ### a new list; the pieces of a step -/
def newL (n : Nat) (ds : List D) : M D := fun μ => if ds.length ≤ sizeLine then (if n = 1 then .ok (.cell μ.length) (μ ++ [.lst ds]) else .ok (.lst ds) μ) else .stuck
def aD (r : Dn) (G : Ctx) : List Expr → Sl → M (List D)
  | [], _ => yes []
  | e :: es, ρ => do let d ← r.e G e ρ; let ds ← aD r G es ρ; yes (d :: ds)
def partD (r : Dn) (G : Ctx) : Option Expr → Sl → M (Option Int)
  | none, _ => yes none
  | some e, ρ => do
    let d ← r.e G e ρ
    fun μ => match d with
      | .int i => .ok (some i) μ
      | _ => .stuck
inductive Prim where
  | b (id : String) (p : List D → M D)
  | t (T : String) (p : List D → M D)
def primOf (G : Ctx) (x : Str) : Option Prim :=
  if x = "len" then some (.b "len" (lenO G)) else if x = "abs" then some (.b "abs" absD) else if x = "max" then some (.b "max" max2D) else if x = "min" then some (.b "min" min2D) else
  if x = "int" then some (.t "int" intD) else if x = "all" then some (.b "all" allD) else if x = "any" then some (.b "any" anyD) else if x = "isinstance" then some (.b "isinstance" (isiO G)) else
  if x = "list" then some (.t "list" listD) else if x = "tuple" then some (.t "tuple" tupleD) else if x = "repr" then some (.b "repr" reprD) else if x = "sorted" then some (.b "sorted" sortedD) else if x = "sum" then some (.b "sum" sumD) else if x = "str" then some (.t "str" (strO G)) else none
def callD (r : Dn) (G : Ctx) (f : Str) (es : List Expr) (ρ : Sl) : M D :=
  if okName f = true ∧ noStar es = true ∧ glB G.sc f = true ∧ G.hot = false then
    match G.fn f with
    | some (n, F) => do
      let ds ← aD r G es ρ
      if ds.length = n then F ds else stuck
    | none => match primOf G f with
      | some (.b _ p) => if G.isB f = true ∧ es ≠ [] then (do let ds ← aD r G es ρ; p ds) else stuck
      | some (.t _ p) => if G.isB f = true ∧ es ≠ [] then (do let ds ← aD r G es ρ; p ds) else stuck
      | none => stuck
  else stuck
/-- ''.join(xs) -/
def strsOf : List D → Option (List Str)
  | [] => some []
  | .str b :: r => (strsOf r).map (b :: ·)
  | _ :: _ => none
theorem strsOf_map : ∀ {ds : List D} {bs : List Str}, strsOf ds = some bs → ds = bs.map D.str
  | [], bs, e => by simp [strsOf] at e; subst e; rfl
  | d :: ds, bs, e => by
    cases d with
    | str b =>
      cases q : strsOf ds with
      | none => simp [strsOf, q] at e
      | some r =>
        simp [strsOf, q] at e
        subst e
        rw [strsOf_map q]
        rfl
    | _ => simp [strsOf] at e
theorem strsOf_of : ∀ bs : List Str, strsOf (bs.map D.str) = some bs
  | [] => rfl
  | b :: r => by simp [strsOf, strsOf_of r]
def isStr (a : D) : M Str := fun μ => match a with
  | .str z => .ok z μ
  | _ => .stuck
def joinD (z : Str) (x : D) : M D := fun μ => match (asS μ x).bind strsOf with
  | some ys => if (ys.map (·.length)).sum + ys.length * z.length ≤ 16777216 then .ok (.str (Txt.join z ys)) μ else .stuck
  | none => .stuck
/-- the base of an attribute that is no super() -/
def plainO : Expr → Bool
  | .Call (.Name _ _) [] [] _ => false
  | _ => true
theorem plainO_base {o : Expr} (h : plainO o = true) (m : Str) (env : Env) : attributeBase o m env (eval o env) = eval o env := by
  unfold attributeBase
  split
  · cases h
  · rfl
def methD (r : Dn) (G : Ctx) (o : Expr) (m : Str) (es : List Expr) (ok : Bool) (ρ : Sl) : M D :=
  if plainO o = true ∧ noStar es = true ∧ ok = true ∧ G.hot = false then
    match es with
    | [e] => if m = "join" then (do let x ← r.e G o ρ; let z ← isStr x; let y ← r.e G e ρ; joinD z y) else stuck
    | _ => stuck
  else stuck

/-! ### what is walked -/
def rangeL (lo : Int) (n : Nat) : List D := (List.range n).map fun (i : Nat) => .int (lo + i)
def signsL (z : Str) : List D := z.cps.toList.map fun c => .str ⟨#[c]⟩
def itemsD (d : D) : M (List D) := fun μ => match d with
  | .str z => .ok (signsL z) μ
  | .tup ds => .ok ds μ
  | .lst ds => .ok ds μ
  | .frz ds => .ok ds μ
  | .dic kvs => .ok (keysD kvs) μ
  | _ => .stuck
inductive IShape where
  | rng1 (a : Expr) | rng2 (a b : Expr) | zip (a b : Expr) | itm (o : Expr) (ok : Bool) | other
def ishape : Expr → Expr → IShape
  | _, .Call (.Name x _) [a] [] _ => if x = "range" then .rng1 a else .other
  | .Tuple _ _ _, .Call (.Name x _) [a, b] [] _ => if x = "range" then .rng2 a b else if x = "zip" then .zip a b else .other
  | _, .Call (.Name x _) [a, b] [] _ => if x = "range" then .rng2 a b else .other
  | .Tuple _ _ _, .Call (.Attribute o f ap) [] [] pos => if f = "items" then .itm o (ap.endLine == pos.line) else .other
  | _, _ => .other
def zipD (x y : D) : M (List D) := fun μ => match x, y with
  | .str a, .str b => .ok (List.zipWith (fun p q => .tup [p, q]) (signsL a) (signsL b)) μ
  | .tup a, .tup b => .ok (List.zipWith (fun p q => .tup [p, q]) a b) μ
  | .lst a, .lst b => .ok (List.zipWith (fun p q => .tup [p, q]) a b) μ
  | .lst a, .tup b => .ok (List.zipWith (fun p q => .tup [p, q]) a b) μ
  | _, _ => .stuck
def pairsOf (kvs : List (Key × D)) : List D := kvs.map fun kv => .tup [keyAs kv.1, kv.2]
def iD (r : Dn) (G : Ctx) (tg iter : Expr) (ρ : Sl) : M (List D) :=
  match ishape tg iter with
  | .rng1 a => if glB G.sc "range" = true ∧ G.isB "range" = true ∧ noStar [a] = true then (do
      let d ← r.e G a ρ
      fun μ => match d with
        | .int j => if -(2 ^ 62) ≤ j ∧ j < 2 ^ 62 then .ok (rangeL 0 j.toNat) μ else .stuck
        | _ => .stuck) else stuck
  | .rng2 a b => if glB G.sc "range" = true ∧ G.isB "range" = true ∧ noStar [a, b] = true then (do
      let d ← r.e G a ρ
      let e ← r.e G b ρ
      fun μ => match d, e with
        | .int i, .int j => if -(2 ^ 62) ≤ i ∧ i < 2 ^ 62 ∧ -(2 ^ 62) ≤ j ∧ j < 2 ^ 62 then .ok (rangeL i (j - i).toNat) μ else .stuck
        | _, _ => .stuck) else stuck
  | .zip a b => if glB G.sc "zip" = true ∧ G.isB "zip" = true ∧ noStar [a, b] = true then (do
      let d ← r.e G a ρ
      let e ← r.e G b ρ
      zipD d e) else stuck
  | .itm o ok => if plainO o = true ∧ ok = true then (do
      let d ← r.e G o ρ
      fun μ => match d with
        | .dic kvs => .ok (pairsOf kvs) μ
        | _ => .stuck) else stuck
  | .other => do
    let d ← r.e G iter ρ
    itemsD d

/-! ### targets: names and tuples of names -/
def gN (G : Ctx) (x : Str) (d : D) (ρ : Sl) : Option Sl := match G.ix x with
  | some i => if G.sc.names.lookup x = some .local ∨ (G.sc.names.lookup x = some .cell ∧ G.own x = true) then some (ρ.set i (some d)) else none
  | none => none
def gNs (G : Ctx) : List Expr → List D → Sl → Option Sl
  | [], [], ρ => some ρ
  | .Name x _ :: es, d :: ds, ρ => (gN G x d ρ).bind fun ρ' => gNs G es ds ρ'
  | _, _, _ => none
/-- the slots of names that are stored to -/
def gIx (G : Ctx) : Expr → Option Nat
  | .Name x _ => match G.ix x with
    | some i => if G.sc.names.lookup x = some .local ∨ (G.sc.names.lookup x = some .cell ∧ G.own x = true) then some i else none
    | none => none
  | _ => none
def gIxs (G : Ctx) : List Expr → Option (List Nat)
  | [] => some []
  | e :: es => match gIx G e, gIxs G es with
    | some i, some is => some (i :: is)
    | _, _ => none
def uNs : List Nat → List D → Sl → Option Sl
  | [], [], ρ => some ρ
  | i :: is, d :: ds, ρ => uNs is ds (ρ.set i (some d))
  | _, _, _ => none
def uT (o : Option (List Nat)) (d : D) (ρ : Sl) : Option Sl := match o with
  | some is => (match d with
    | .tup ds => uNs is ds ρ
    | .lst ds => uNs is ds ρ
    | _ => none)
  | none => none
theorem gNs_uT {G : Ctx} : ∀ (es : List Expr) (ds : List D) (ρ : Sl), gNs G es ds ρ = uT (gIxs G es) (.tup ds) ρ
  | [], [], ρ => rfl
  | [], _ :: _, ρ => rfl
  | e :: es, ds, ρ => by
    have bad : gIx G e = none → gNs G (e :: es) ds ρ = none := fun z => by
      cases ds with
      | nil => cases e <;> rfl
      | cons d ds =>
        cases e with
        | Name x p =>
          show (gN G x d ρ).bind _ = none
          have z : (match G.ix x with
            | some i => if G.sc.names.lookup x = some .local ∨ (G.sc.names.lookup x = some .cell ∧ G.own x = true) then some i else none
            | none => none) = none := z
          unfold gN
          cases q : G.ix x with
          | none => rfl
          | some i =>
            rw [q] at z
            have z : (if G.sc.names.lookup x = some .local ∨ (G.sc.names.lookup x = some .cell ∧ G.own x = true) then some i else none) = none := z
            by_cases h : G.sc.names.lookup x = some .local ∨ (G.sc.names.lookup x = some .cell ∧ G.own x = true)
            · rw [if_pos h] at z; cases z
            · show (if _ then _ else _ : Option Sl).bind _ = none
              rw [if_neg h]; rfl
        | _ => rfl
    have e0 : gIxs G (e :: es) = match gIx G e, gIxs G es with
      | some i, some is => some (i :: is)
      | _, _ => none := rfl
    cases q1 : gIx G e with
    | none =>
      rw [bad q1, e0, q1]
      rfl
    | some i =>
      have ih := fun ds ρ => gNs_uT (G := G) es ds ρ
      cases e with
      | Name x p =>
        have z : (match G.ix x with
          | some i => if G.sc.names.lookup x = some .local ∨ (G.sc.names.lookup x = some .cell ∧ G.own x = true) then some i else none
          | none => none) = some i := q1
        cases ds with
        | nil =>
          rw [e0, q1]
          cases gIxs G es <;> rfl
        | cons d ds =>
          have hg : gN G x d ρ = some (ρ.set i (some d)) := by
            unfold gN
            cases q : G.ix x with
            | none => rw [q] at z; cases z
            | some j =>
              rw [q] at z
              have z : (if G.sc.names.lookup x = some .local ∨ (G.sc.names.lookup x = some .cell ∧ G.own x = true) then some j else none) = some i := z
              by_cases h : G.sc.names.lookup x = some .local ∨ (G.sc.names.lookup x = some .cell ∧ G.own x = true)
              · rw [if_pos h] at z; cases z; show (if _ then _ else _ : Option Sl) = _; rw [if_pos h]
              · rw [if_neg h] at z; cases z
          show (gN G x d ρ).bind (fun ρ' => gNs G es ds ρ') = _
          rw [hg, e0, q1]
          show gNs G es ds (ρ.set i (some d)) = _
          rw [ih]
          cases gIxs G es <;> rfl
      | _ => cases q1
def gD (G : Ctx) : Expr → D → Sl → Option Sl
  | .Name x _, d, ρ => gN G x d ρ
  | .Tuple es _ _, d, ρ => uT (gIxs G es) d ρ
  | _, _, _ => none
theorem gD_tup {G : Ctx} {es : List Expr} {k : Nat} {p : Pos} {ds : List D} {ρ : Sl} : gD G (.Tuple es k p) (.tup ds) ρ = gNs G es ds ρ := (gNs_uT es ds ρ).symm
theorem gD_tupE {G : Ctx} {es : List Expr} {k : Nat} {p : Pos} {d : D} {ρ : Sl} : gD G (.Tuple es k p) d ρ = uT (gIxs G es) d ρ := rfl
theorem uT_lst {o : Option (List Nat)} {ds : List D} {ρ : Sl} : uT o (.lst ds) ρ = uT o (.tup ds) ρ := by cases o <;> rfl
theorem gD_lst {G : Ctx} {es : List Expr} {k : Nat} {p : Pos} {ds : List D} {ρ : Sl} : gD G (.Tuple es k p) (.lst ds) ρ = gNs G es ds ρ := by rw [gD_tupE, uT_lst, gNs_uT]
theorem uT_none {o : Option (List Nat)} {d : D} {ρ : Sl} (h : ∀ ds, d ≠ .tup ds) (h2 : ∀ ds, d ≠ .lst ds) : uT o d ρ = none := by
  cases o with
  | none => rfl
  | some is => cases d <;> first | rfl | exact absurd rfl (h _) | exact absurd rfl (h2 _)
def nslot (G : Ctx) : Expr → Nat
  | .Name x _ => G.N.idxOf x
  | _ => 0
def gslots (G : Ctx) : Expr → List Nat
  | .Name x _ => [G.N.idxOf x]
  | .Tuple es _ _ => es.map (nslot G)
  | _ => []

/-! ### comprehensions -/
def ownOf (N : List Str) (sc : Scope) : List (Str × Nat) := sc.names.filterMap fun (x, k) => if (k == .local || k == .cell) = true ∧ N[N.idxOf x]? = some x then some (x, N.idxOf x) else none
def testsD (r : Dn) (G : Ctx) : List Expr → Sl → M Bool
  | [], _ => yes true
  | [c], ρ => r.t G c ρ
  | _, _ => stuck
def compL (f : D → M (Option D)) : List D → List D → M (List D)
  | [], acc => yes acc
  | d :: ds, acc => do
    let y ← f d
    match y with
    | some z => if acc.length < sizeLine then compL f ds (acc ++ [z]) else stuck
    | none => compL f ds acc
def turnD (r : Dn) (G : Ctx) (elt tg : Expr) (ifs : List Expr) (ρ : Sl) (d : D) : M (Option D) := match gD G tg d ρ with
  | some ρ' => do
    let b ← testsD r G ifs ρ'
    if b then (do let y ← r.e G elt ρ'; yes (some y)) else yes none
  | none => stuck
def fixL (n : Nat) (ds : List D) : M D := fun μ => if n = 1 then .ok (.cell μ.length) (μ ++ [.lst ds]) else .ok (.lst ds) μ
def notSet : Expr → Bool
  | .Set _ _ _ => false
  | _ => true
/-- the context of a comprehension's block -/
def blkG (G : Ctx) (sc : Scope) : Ctx := { G with sc := relS sc G.sc, own := fun x => sc.names.lookup x == some .cell }
def compD (r : Dn) (G : Ctx) (elt tg iter : Expr) (ifs : List Expr) (sc : Scope) (pos : Pos) (ρ : Sl) : M D :=
  if G.hot = false ∧ blkC G.N G.sc sc (ownOf G.N sc) = true ∧ (∀ i ∈ gslots G tg, i ∈ (ownOf G.N sc).map (·.2)) ∧ notSet iter = true then (do
    let ds ← iD r G tg iter ρ
    let ys ← noX (compL (turnD r (blkG G sc) elt tg ifs (wipeL ρ ((ownOf G.N sc).map (·.2)))) ds [])
    fixL (G.hint pos) ys) else stuck

/-! ### a display of a dict -/
def pairsD (r : Dn) (G : Ctx) : List (Option Expr) → List Expr → Sl → M (List (Key × D))
  | [], [], _ => yes []
  | some k :: ks, v :: vs, ρ => do
    let x ← r.e G k ρ
    let y ← r.e G v ρ
    let l ← pairsD r G ks vs ρ
    fun μ => match keyOf x with
      | some q => .ok ((q, y) :: l) μ
      | none => .stuck
  | _, _, _ => stuck
def putD (kvs : List (Key × D)) (k : Key) (v : D) : List (Key × D) :=
  if (kvs.any fun kv => decide (kv.1 = k)) = true then kvs.map (fun kv => if kv.1 = k then (kv.1, v) else kv) else kvs ++ [(k, v)]
def mergeD (kvs more : List (Key × D)) : List (Key × D) := more.foldl (fun acc kv => putD acc kv.1 kv.2) kvs
def dispE (r : Dn) (G : Ctx) (ks : List (Option Expr)) (vs : List Expr) (ρ : Sl) : M D :=
  if ks.all (·.isSome) = true ∧ ks.length = vs.length ∧ ks.length ≤ 15 then (do let l ← noX (pairsD r G ks vs ρ); yes (.dic (mergeD [] l))) else stuck
/-! ### one step of an expression -/
def isSlice : Expr → Bool
  | .Slice _ _ _ _ => true
  | _ => false
def notD (d : D) : M D := do
  let b ← truthD d
  yes (.bl (!b))
def chainD (G : Ctx) (op op' : CmpOp) (x y : D) (c : M D) : M D := do
  let z ← cmpO G op x y
  match z with
  | .bl true => do let w ← c; cmpO G op' y w
  | .bl false => yes (.bl false)
  | _ => stuck
def cmpE (r : Dn) (G : Ctx) (a : Expr) (ops : List CmpOp) (cs : List Expr) (ρ : Sl) : M D := match ops, cs with
  | [op], [b] => if notSet b = true then (do let x ← r.e G a ρ; let y ← r.e G b ρ; cmpO G op x y) else stuck
  | [op, op'], [b, c] => if notSet c = true then (do let x ← r.e G a ρ; let y ← r.e G b ρ; chainD G op op' x y (r.e G c ρ)) else stuck
  | _, _ => stuck
def boolE (r : Dn) (G : Ctx) (op : BoolOp) (vs : List Expr) (pos : Pos) (ρ : Sl) : M D := match vs with
  | [] => stuck
  | [a] => r.e G a ρ
  | a :: b :: rest => do
    let x ← r.e G a ρ
    let k ← truthD x
    match op, k with
    | .And, true => r.e G (.BoolOp .And (b :: rest) pos) ρ
    | .And, false => yes x
    | .Or, true => yes x
    | .Or, false => r.e G (.BoolOp .Or (b :: rest) pos) ρ
def tupL (ds : List D) : M D := fun μ => if ds.length ≤ sizeLine then .ok (.tup ds) μ else .stuck
def tupE (r : Dn) (G : Ctx) (es : List Expr) (ρ : Sl) : M D := if noStar es = true then (do let ds ← aD r G es ρ; tupL ds) else stuck
def lstE (r : Dn) (G : Ctx) (es : List Expr) (pos : Pos) (ρ : Sl) : M D := if noStar es = true then (do let ds ← aD r G es ρ; newL (G.hint pos) ds) else stuck
def subE (r : Dn) (G : Ctx) (a b : Expr) (ρ : Sl) : M D := match b with
  | .Slice lo hi none _ => do let x ← r.e G a ρ; let l ← partD r G lo ρ; let h ← partD r G hi ρ; slD x l h
  | .Slice _ _ (some _) _ => stuck
  | b => do let x ← r.e G a ρ; let y ← r.e G b ρ; ixD x y
def lcE (r : Dn) (G : Ctx) (elt : Expr) (gs : List Comprehension) (sc : Scope) (pos : Pos) (ρ : Sl) : M D := match gs with
  | [c] => if c.is_async = 0 then compD r G elt c.target c.iter c.ifs sc pos ρ else stuck
  | _ => stuck
def cllE (r : Dn) (G : Ctx) (f : Expr) (es : List Expr) (kws : List Keyword) (pos : Pos) (ρ : Sl) : M D := match kws with
  | [] => match f with
    | .Name x _ => callD r G x es ρ
    | .Attribute o m ap => methD r G o m es (ap.endLine == pos.line) ρ
    | _ => stuck
  | _ :: _ => stuck
def unE (r : Dn) (G : Ctx) (op : UnaryOp) (a : Expr) (ρ : Sl) : M D := match op with
  | .USub => do let x ← r.e G a ρ; negD x
  | .Not => do let x ← r.e G a ρ; notD x
  | _ => stuck
def ifE (r : Dn) (G : Ctx) (c a b : Expr) (ρ : Sl) : M D := do
  let k ← r.t G c ρ
  match k with
  | true => r.e G a ρ
  | false => r.e G b ρ
def stepE (r : Dn) (G : Ctx) (e : Expr) (ρ : Sl) : M D := match e with
  | .Constant c _ _ => constD c
  | .Name x pos => nameD G x pos ρ
  | .BinOp a op b _ => do let x ← r.e G a ρ; let y ← r.e G b ρ; binD op x y
  | .UnaryOp op a _ => unE r G op a ρ
  | .BoolOp op vs pos => boolE r G op vs pos ρ
  | .Compare a ops cs _ => cmpE r G a ops cs ρ
  | .IfExp c a b _ => ifE r G c a b ρ
  | .Tuple es _ _ => tupE r G es ρ
  | .List es pos => lstE r G es pos ρ
  | .Subscript a b _ => subE r G a b ρ
  | .Call f es kws pos => cllE r G f es kws pos ρ
  | .ListComp elt gs sc pos => lcE r G elt gs sc pos ρ
  | .Dict ks vs _ => dispE r G ks vs ρ
  | _ => stuck
/-! ### one step of a test -/
def tplain : Expr → Bool
  | .UnaryOp .Not _ _ => false
  | .BoolOp _ _ _ => false
  | .IfExp _ _ _ _ => false
  | .Compare _ _ _ _ => false
  | _ => true
def asB (d : D) : M Bool := fun μ => match d with
  | .bl b => .ok b μ
  | _ => .stuck
def notT (r : Dn) (G : Ctx) (op : UnaryOp) (a : Expr) (pos : Pos) (ρ : Sl) : M Bool := match op with
  | .Not => do let b ← r.t G a ρ; yes (!b)
  | op => do let x ← r.e G (.UnaryOp op a pos) ρ; truthD x
def boolT (r : Dn) (G : Ctx) (op : BoolOp) (vs : List Expr) (pos : Pos) (ρ : Sl) : M Bool := match vs with
  | [] => stuck
  | [a] => r.t G a ρ
  | a :: b :: rest => do
    let k ← r.t G a ρ
    match op, k with
    | .And, true => r.t G (.BoolOp .And (b :: rest) pos) ρ
    | .And, false => yes false
    | .Or, true => yes true
    | .Or, false => r.t G (.BoolOp .Or (b :: rest) pos) ρ
def cmpT (r : Dn) (G : Ctx) (a : Expr) (ops : List CmpOp) (cs : List Expr) (ρ : Sl) : M Bool := do
  let z ← cmpE r G a ops cs ρ
  asB z
def stepT (r : Dn) (G : Ctx) (e : Expr) (ρ : Sl) : M Bool := match e with
  | .UnaryOp op a pos => notT r G op a pos ρ
  | .BoolOp op vs pos => boolT r G op vs pos ρ
  | .Compare a ops cs _ => cmpT r G a ops cs ρ
  | .IfExp _ _ _ _ => stuck
  | e => do let x ← r.e G e ρ; truthD x
end Pu

set_option Elab.async false
set_option linter.all false
set_option maxRecDepth 100000
/-! Pu8: the steps of expressions and tests are kept by the model. -/
namespace Pu
open PySem L2

structure EnOk (W : Wd) (r : Dn) : Prop where
  e : ∀ {X : Cx} {Z : WX} {G : Ctx}, EOk W X Z G → ∀ ex : Expr, PE X ex (TEof W Z (r.e G ex))
  t : ∀ {X : Cx} {Z : WX} {G : Ctx}, EOk W X Z G → ∀ ex : Expr, PT X ex (TTof W Z (r.t G ex))

section
variable {W : Wd} {Z : WX} {X : Cx} {G : Ctx} {σ : St} {H : Hp} {Q : VK}
theorem te_none {f : Sl → M D} (e : ∀ ρ, f ρ = stuck) : ∀ {σ H Q}, TEof W Z f σ H Q → False := fun ⟨ρ, m, _, _, _, w⟩ => by rw [e] at w; exact w
theorem te_op {fa fb : Sl → M D} {p : D → D → M D} (h : TEof W Z (fun ρ => do let x ← fa ρ; let y ← fb ρ; p x y) σ H Q) : tOp (R2of W p) (TEof W Z fa) (TEof W Z fb) σ H Q := by
  obtain ⟨ρ, m, e, g, r, w⟩ := h
  refine ⟨ρ, m, e, g, r, (wpR_bind w).mono (fun _ _ _ _ z => z) fun x m1 s1 g1 w1 v hv => ?_⟩
  refine ⟨ρ, m1, rfl, g1, r.mono s1, (wpR_bind w1).mono (fun _ _ _ _ z => z) fun y m2 s2 g2 w2 u hu => ?_⟩
  exact ⟨_, x, y, m2, rfl, g2, hv.mono s2, hu, w2⟩
theorem te_un {fa : Sl → M D} {p : D → M D} (h : TEof W Z (fun ρ => do let x ← fa ρ; p x) σ H Q) : tUn (R1of W p) (TEof W Z fa) σ H Q := by
  obtain ⟨ρ, m, e, g, r, w⟩ := h
  refine ⟨ρ, m, e, g, r, (wpR_bind w).mono (fun _ _ _ _ z => z) fun x m1 s1 g1 w1 v hv => ?_⟩
  exact ⟨_, x, m1, rfl, g1, hv, w1⟩
/-- behind a first value -/
theorem te_bind {fa : Sl → M D} {f : D → Sl → M D} (h : TEof W Z (fun ρ => do let x ← fa ρ; f x ρ) σ H Q) :
    TEof W Z fa σ H fun v H1 => ∃ ρ m d, m.H = H1 ∧ Okm W m ∧ EnvOk W m ρ σ ∧ Den W m d v ∧ wpR W m (EWish W Z σ) (fun d m' => ∀ v, Den W m' d v → Q v m'.H) (f d ρ m.μ) := by
  obtain ⟨ρ, m, e, g, r, w⟩ := h
  exact ⟨ρ, m, e, g, r, (wpR_bind w).mono (fun _ _ _ _ z => z) fun x m1 s1 g1 w1 v hv => ⟨ρ, m1, x, rfl, g1, r.mono s1, hv, w1⟩⟩
/-- truth, then one of two ways -/
theorem te_truth {m : Mem} {d : D} {v : V} {K : PySem.W.Frag} (hK : K = W.K) {f : Bool → M D} (g : Okm W m) (hv : Den W m d v) (w : wpR W m (EWish W Z σ) (fun d m' => ∀ v, Den W m' d v → Q v m'.H) ((do let k ← truthD d; f k) m.μ)) :
    ∃ k, TruV K v m.H k ∧ wpR W m (EWish W Z σ) (fun d m' => ∀ v, Den W m' d v → Q v m'.H) (f k m.μ) := by
  have w' : wpR W m (EWish W Z σ) (fun d m' => ∀ v, Den W m' d v → Q v m'.H) (M.bind (truthD d) f m.μ) := w
  unfold M.bind at w'
  cases e : truthD d m.μ with
  | ok k μ' =>
    rw [e] at w'
    obtain ⟨rfl, h2⟩ := truth_den g hv e
    exact ⟨k, by rw [hK]; exact h2, w'⟩
  | exc x μ' =>
    exfalso
    unfold truthD at e
    repeat' split at e
    all_goals cases e
  | stuck => rw [e] at w'; exact w'.elim

/-! ### names, constants -/
theorem pe_const (ok : EOk W X Z G) (c : Const) (k : Nat) (pos : Pos) : PE X (.Constant c k pos) (TEof W Z (fun _ => constD c)) := by
  cases c with
  | none => exact PE.weak pe_non fun σ H Q ⟨ρ, m, e, g, r, w⟩ => e ▸ out.same (d := .non) (E := EWish W Z σ) w g .non
  | bool b => exact PE.weak pe_bl fun σ H Q ⟨ρ, m, e, g, r, w⟩ => e ▸ out.same (d := .bl b) (E := EWish W Z σ) w g (.bl b)
  | int b => exact PE.weak pe_int fun σ H Q ⟨ρ, m, e, g, r, w⟩ => e ▸ out.same (d := .int b) (E := EWish W Z σ) w g (.int b)
  | str b => exact PE.weak pe_str fun σ H Q ⟨ρ, m, e, g, r, w⟩ => e ▸ out.same (d := .str b) (E := EWish W Z σ) w g (.str b)
  | _ => exact PE.weak PE.any fun σ H Q h => (te_none (f := fun _ => stuck) (fun _ => rfl) h).elim
theorem slot_get {m : Mem} {ρ : Sl} {i : Nat} {E : Ex → Mem → Prop} {P : D → Mem → Prop} (g : Okm W m) (r : EnvOk W m ρ σ) (w : wpR W m E P (slot i ρ m.μ)) : ∃ d v, σ[i]? = some (some v) ∧ Den W m d v ∧ ρ[i]? = some (some d) ∧ P d m := by
  have w' : wpR W m E P (match ρ[i]? with
    | some (some d) => .ok d m.μ
    | _ => .stuck) := w
  clear w
  split at w'
  · rename_i d e
    have w := w'
    obtain ⟨v, h1, h2⟩ := r.get i d e
    exact ⟨d, v, h1, h2, e, w m (Step.refl m) g rfl⟩
  · exact w'.elim
/-- what an expression leaves may be locked -/
theorem pe_lk {e : Expr} {t : TE} (h : PE X e t) : PE X e (fun σ H Q => t σ H fun x H1 => Q x H1 ∨ ∃ d u, H1 d = some u ∧ Mut (some u) ∧ ∀ od, Q x (upd H1 d (.frz od u))) := by
  refine ⟨fun pins s σ H Q I q => thn (h.run pins s σ H _ I q) fun v s1 ⟨x, H1, I1, rx, q1⟩ => ?_⟩
  rcases q1 with q1 | ⟨d, u, e, mu, q1⟩
  · exact ⟨x, H1, I1, rx, q1⟩
  · obtain ⟨od, I2⟩ := I1.lock e mu
    exact ⟨x, _, I2, rx, q1 od⟩
theorem wr_dead {m : Mem} {i : Nat} {a : Addr} {o : HO} (g : Okm W m) (hi : m.as[i]? = some a) : ¬ (m.wr i a o .dead).live a := by
  rintro (⟨j, u, e1, e2, n⟩ | l)
  · have e1' : m.as[j]? = some a := e1
    have e2' : (m.μ.set i .dead)[j]? = some u := e2
    have hij : i = j := by
      obtain ⟨h1, z1⟩ := List.getElem?_eq_some_iff.mp hi
      obtain ⟨h2, z2⟩ := List.getElem?_eq_some_iff.mp e1'
      exact (List.getElem_inj g.nd).mp (z1.trans z2.symm)
    subst hij
    have hlt : i < m.μ.length := by rw [← g.len]; exact (List.getElem?_eq_some_iff.mp hi).1
    rw [List.getElem?_set_self hlt] at e2'
    exact n (Option.some.inj e2').symm
  · exact (g.pvt a l).2 (List.mem_of_getElem? hi)
theorem frz_out {m : Mem} {d : D} {v : V} {E : Ex → Mem → Prop} (g : Okm W m) (hv : Den W m d v) (w : out W m E Q (frzD d m.μ)) : Q v m.H ∨ ∃ a u, m.H a = some u ∧ Mut (some u) ∧ ∀ od, Q v (upd m.H a (.frz od u)) := by
  cases d with
  | cell i =>
    cases hv with
    | @cell _ a h1 =>
      have w' : out W m E Q (match m.μ[i]? with
        | some (.lst ds) => .ok (.lst ds) (m.μ.set i .dead)
        | some (.dic kvs) => .ok (.dic kvs) (m.μ.set i .dead)
        | _ => .stuck) := w
      split at w'
      · rename_i ds e
        obtain ⟨vs, h2, h3⟩ := g.ok i _ a e h1
        exact .inl (w' (m.die i) step_die (good_die g) rfl _ (.lst h2 (die_live g h1) (h3.mono step_die)))
      · rename_i kvs e
        obtain ⟨kv, h2, h3⟩ := g.ok i _ a e h1
        have lv : m.live a := .inl ⟨i, _, h1, e, fun z => nomatch z⟩
        refine .inr ⟨a, _, h2, True.intro, fun od => ?_⟩
        have st : Step m (m.wr i a (.frz od (.dK kv)) .dead) := step_wr g h1 lv
        exact w' (m.wr i a (.frz od (.dK kv)) .dead) st (good_wr g h1 lv True.intro) rfl _ (.dic upd_same (wr_dead g h1) (h3.mono st))
      · exact w'.elim
  | _ => exact .inl (out.same (W := W) (E := E) w g hv)
theorem pe_name (ok : EOk W X Z G) (x : Str) (pos : Pos) : PE X (.Name x pos) (TEof W Z (nameD G x pos)) := by
  by_cases h1 : okName x = true
  · by_cases h2 : visB G.sc x = true
    · cases h3 : G.ix x with
      | none =>
        refine PE.weak PE.any fun σ H Q h => te_none (f := nameD G x pos) (fun ρ => ?_) h
        unfold nameD
        rw [if_pos h1, if_pos h2, h3]
      | some i =>
        refine PE.weak (pe_lk (pe_var (i := i) (by rw [ok.N]; exact Ctx.ix_at h3) (by rw [ok.sc]; exact visB_vis h2) (okName_1 h1) (okName_2 h1))) ?_
        rintro σ H Q ⟨ρ, m, e, g, r, w⟩
        subst e
        unfold nameD at w
        rw [if_pos h1, if_pos h2, h3] at w
        simp only at w
        split at w
        · obtain ⟨d, v, e1, e2, e3, w2⟩ := slot_get g r (wpR_bind w)
          exact ⟨v, e1, frz_out (E := EWish W Z σ) g e2 w2⟩
        · obtain ⟨d, v, e1, e2, e3, w2⟩ := slot_get g r w
          exact ⟨v, e1, .inl (w2 v e2)⟩
    · by_cases h4 : glB G.sc x = true
      · have hg : Gl X x := by
          show X.env.kindOf x = some .globalImplicit
          have e := beq_iff_eq.mp h4
          rw [← ok.sc] at e
          exact e
        cases h5 : G.glob x with
        | some d =>
          obtain ⟨u, v, e1, e2, e3⟩ := ok.g.glob x d h5
          refine PE.weak (pe_glob hg e1 e2 (okName_1 h1)) ?_
          rintro σ H Q ⟨ρ, m, e, g, r, w⟩
          subst e
          unfold nameD at w
          rw [if_pos h1, if_neg h2, if_pos h4, h5] at w
          exact out.same (E := EWish W Z σ) (d := d) w g (e3 m)
        | none =>
          cases h6 : tyOf x with
          | none =>
            refine PE.weak PE.any fun σ H Q h => te_none (f := nameD G x pos) (fun ρ => ?_) h
            unfold nameD
            rw [if_pos h1, if_neg h2, if_pos h4, h5, h6]
          | some n =>
            by_cases h7 : G.isB x = true
            · refine PE.weak (pe_bltn (v := .ty n) hg (ok.g.bl x h7) (tyOf_boot h6) rfl (okName_3 h1) (okName_1 h1)) ?_
              rintro σ H Q ⟨ρ, m, e, g, r, w⟩
              subst e
              unfold nameD at w
              rw [if_pos h1, if_neg h2, if_pos h4, h5, h6] at w
              simp only at w
              rw [if_pos h7] at w
              exact out.same (E := EWish W Z σ) (d := .ty n) w g (.ty n)
            · refine PE.weak PE.any fun σ H Q h => te_none (f := nameD G x pos) (fun ρ => ?_) h
              unfold nameD
              rw [if_pos h1, if_neg h2, if_pos h4, h5, h6]
              simp only
              rw [if_neg h7]
      · refine PE.weak PE.any fun σ H Q h => te_none (f := nameD G x pos) (fun ρ => ?_) h
        unfold nameD
        rw [if_pos h1, if_neg h2, if_neg h4]
  · refine PE.weak PE.any fun σ H Q h => te_none (f := nameD G x pos) (fun ρ => ?_) h
    unfold nameD
    rw [if_neg h1]

/-! ### arguments -/
variable {r : Dn}
theorem pa_D (R : EnOk W r) (ok : EOk W X Z G) : ∀ {es : List Expr}, noStar es = true → PA X es (TAof W Z (aD r G es))
  | [], _ => PA.weak pa_nil fun σ H Q ⟨ρ, m, e, g, rr, w⟩ => e ▸ w m (Step.refl m) g rfl [] .nil
  | e :: es, h => by
    obtain ⟨h1, h2⟩ := star_cons (env := X.env) h
    refine PA.weak (pa_cons (R.e ok e) (pa_D R ok h2) h1) ?_
    rintro σ H Q ⟨ρ, m, ee, g, rr, w⟩
    refine ⟨ρ, m, ee, g, rr, (wpR_bind w).mono (fun _ _ _ _ z => z) fun x m1 s1 g1 w1 v hv => ?_⟩
    refine ⟨ρ, m1, rfl, g1, rr.mono s1, (wpR_bind w1).mono (fun _ _ _ _ z => z) fun xs m2 s2 g2 w2 vs hvs => ?_⟩
    exact w2 m2 (Step.refl m2) g2 rfl _ (.cons (hv.mono s2) hvs)
theorem ta_bind {fa : Sl → M (List D)} {f : List D → Sl → M D} (h : TEof W Z (fun ρ => do let x ← fa ρ; f x ρ) σ H Q) :
    TAof W Z fa σ H fun vs H1 => ∃ ρ m ds, m.H = H1 ∧ Okm W m ∧ EnvOk W m ρ σ ∧ DenL W m ds vs ∧ wpR W m (EWish W Z σ) (fun d m' => ∀ v, Den W m' d v → Q v m'.H) (f ds ρ m.μ) := by
  obtain ⟨ρ, m, e, g, r, w⟩ := h
  exact ⟨ρ, m, e, g, r, (wpR_bind w).mono (fun _ _ _ _ z => z) fun x m1 s1 g1 w1 v hv => ⟨ρ, m1, x, rfl, g1, r.mono s1, hv, w1⟩⟩
theorem DenL.lenEq {m : Mem} {ds : List D} {vs : List V} (l : DenL W m ds vs) : vs.length = ds.length := l.length.symm
theorem pe_tupD (R : EnOk W r) (ok : EOk W X Z G) {es : List Expr} {k : Nat} {pos : Pos} (h : noStar es = true) :
    PE X (.Tuple es k pos) (TEof W Z fun ρ => do let ds ← aD r G es ρ; tupL ds) := by
  refine PE.weak (pe_tup (pa_D R ok h)) fun σ H Q h => ?_
  obtain ⟨ρ, m, e, g, rr, w⟩ := ta_bind h
  refine ⟨ρ, m, e, g, rr, w.mono (fun _ _ _ _ z => z) fun xs m1 s1 g1 w1 vs hvs => ?_⟩
  obtain ⟨ρ2, m2, ds, e2, g2, r2, l2, w2⟩ := w1 vs hvs
  unfold tupL at w2
  split at w2
  · rename_i hz
    refine ⟨by rw [l2.lenEq]; exact hz, fun p hp => ?_⟩
    rw [← e2] at hp ⊢
    exact out.tup (E := EWish W Z σ) w2 g2 l2 hp
  · exact w2.elim
theorem newL_out {m : Mem} {ds : List D} {vs : List V} {n : Nat} {E : Ex → Mem → Prop} (g : Okm W m) (l : DenL W m ds vs) (w : out W m E Q (newL n ds m.μ)) : vs.length ≤ sizeLine ∧ ∀ p, m.H p = none → Q (.ref p) (upd m.H p (.lst vs)) := by
  unfold newL at w
  split at w
  · rename_i hz
    refine ⟨by rw [l.lenEq]; exact hz, fun p hp => ?_⟩
    split at w
    · exact out.cel w g l hp
    · exact out.lst w g l hp
  · exact w.elim
theorem pe_lstD (R : EnOk W r) (ok : EOk W X Z G) {es : List Expr} {n : Nat} {pos : Pos} (h : noStar es = true) :
    PE X (.List es pos) (TEof W Z fun ρ => do let ds ← aD r G es ρ; newL n ds) := by
  refine PE.weak (pe_lst (pa_D R ok h)) fun σ H Q h => ?_
  obtain ⟨ρ, m, e, g, rr, w⟩ := ta_bind h
  refine ⟨ρ, m, e, g, rr, w.mono (fun _ _ _ _ z => z) fun xs m1 s1 g1 w1 vs hvs => ?_⟩
  obtain ⟨ρ2, m2, ds, e2, g2, r2, l2, w2⟩ := w1 vs hvs
  obtain ⟨h1, h2⟩ := newL_out (E := EWish W Z σ) g2 l2 w2
  exact ⟨h1, fun p hp => by rw [← e2] at hp ⊢; exact h2 p hp⟩
/-! ### calls -/
theorem prim_b (ok : EOk W X Z G) (h4 : G.hot = false) {x : Str} {id : String} {p : List D → M D} (h : primOf G x = some (.b id p)) : bootBuiltins x = some (.builtin id) ∧ CallR X (.builtin id) (RCof W p) := by
  have hc := ok.calm h4
  unfold primOf at h
  by_cases e : x = "len"
  · rw [if_pos e] at h; cases h; subst e; exact ⟨by decide +kernel, call_lenO ok h4⟩
  rw [if_neg e] at h; clear e
  by_cases e : x = "abs"
  · rw [if_pos e] at h; cases h; subst e; exact ⟨by decide +kernel, call_absD⟩
  rw [if_neg e] at h; clear e
  by_cases e : x = "max"
  · rw [if_pos e] at h; cases h; subst e; exact ⟨by decide +kernel, call_max2D hc⟩
  rw [if_neg e] at h; clear e
  by_cases e : x = "min"
  · rw [if_pos e] at h; cases h; subst e; exact ⟨by decide +kernel, call_min2D hc⟩
  rw [if_neg e] at h; clear e
  by_cases e : x = "int"
  · rw [if_pos e] at h; cases h
  rw [if_neg e] at h; clear e
  by_cases e : x = "all"
  · rw [if_pos e] at h; cases h; subst e; exact ⟨by decide +kernel, call_allD ok.K hc⟩
  rw [if_neg e] at h; clear e
  by_cases e : x = "any"
  · rw [if_pos e] at h; cases h; subst e; exact ⟨by decide +kernel, call_anyD ok.K hc⟩
  rw [if_neg e] at h; clear e
  by_cases e : x = "isinstance"
  · rw [if_pos e] at h; cases h; subst e; exact ⟨by decide +kernel, call_isiO ok⟩
  rw [if_neg e] at h; clear e
  by_cases e : x = "list"
  · rw [if_pos e] at h; cases h
  rw [if_neg e] at h; clear e
  by_cases e : x = "tuple"
  · rw [if_pos e] at h; cases h
  rw [if_neg e] at h; clear e
  by_cases e : x = "repr"
  · rw [if_pos e] at h; cases h; subst e; exact ⟨by decide +kernel, call_reprD ok.K ok.un ok.gd⟩
  rw [if_neg e] at h; clear e
  by_cases e : x = "sorted"
  · rw [if_pos e] at h; cases h; subst e; exact ⟨by decide +kernel, call_sortedD ok.K⟩
  rw [if_neg e] at h; clear e
  by_cases e : x = "sum"
  · rw [if_pos e] at h; cases h; subst e; exact ⟨by decide +kernel, call_sumD ok.K hc⟩
  rw [if_neg e] at h; clear e
  by_cases e : x = "str"
  · rw [if_pos e] at h; cases h
  rw [if_neg e] at h; cases h
theorem prim_t (ok : EOk W X Z G) (h4 : G.hot = false) {x : Str} {T : String} {p : List D → M D} (h : primOf G x = some (.t T p)) : bootBuiltins x = some (.type T) ∧ CallR X (.type T) (RCof W p) := by
  unfold primOf at h
  by_cases e : x = "len"
  · rw [if_pos e] at h; cases h
  rw [if_neg e] at h; clear e
  by_cases e : x = "abs"
  · rw [if_pos e] at h; cases h
  rw [if_neg e] at h; clear e
  by_cases e : x = "max"
  · rw [if_pos e] at h; cases h
  rw [if_neg e] at h; clear e
  by_cases e : x = "min"
  · rw [if_pos e] at h; cases h
  rw [if_neg e] at h; clear e
  by_cases e : x = "int"
  · rw [if_pos e] at h; cases h; subst e; exact ⟨by decide +kernel, call_intD⟩
  rw [if_neg e] at h; clear e
  by_cases e : x = "all"
  · rw [if_pos e] at h; cases h
  rw [if_neg e] at h; clear e
  by_cases e : x = "any"
  · rw [if_pos e] at h; cases h
  rw [if_neg e] at h; clear e
  by_cases e : x = "isinstance"
  · rw [if_pos e] at h; cases h
  rw [if_neg e] at h; clear e
  by_cases e : x = "list"
  · rw [if_pos e] at h; cases h; subst e; exact ⟨by decide +kernel, call_listDn ok.K (ok.calm h4)⟩
  rw [if_neg e] at h; clear e
  by_cases e : x = "tuple"
  · rw [if_pos e] at h; cases h; subst e; exact ⟨by decide +kernel, call_tupleDn ok.K⟩
  rw [if_neg e] at h; clear e
  by_cases e : x = "repr"
  · rw [if_pos e] at h; cases h
  rw [if_neg e] at h; clear e
  by_cases e : x = "sorted"
  · rw [if_pos e] at h; cases h
  rw [if_neg e] at h; clear e
  by_cases e : x = "sum"
  · rw [if_pos e] at h; cases h
  rw [if_neg e] at h; clear e
  by_cases e : x = "str"
  · rw [if_pos e] at h; cases h; subst e; exact ⟨by decide +kernel, call_strO ok h4⟩
  rw [if_neg e] at h; cases h
theorem gl_of (ok : EOk W X Z G) {x : Str} (h : glB G.sc x = true) : Gl X x := by
  show X.env.kindOf x = some .globalImplicit
  have e := beq_iff_eq.mp h
  rw [← ok.sc] at e
  exact e
theorem pe_callD (R : EnOk W r) (ok : EOk W X Z G) (f : Str) (p : Pos) (es : List Expr) (pos : Pos) : PE X (.Call (.Name f p) es [] pos) (TEof W Z (callD r G f es)) := by
  by_cases h0 : okName f = true ∧ noStar es = true ∧ glB G.sc f = true ∧ G.hot = false
  · obtain ⟨h1, h2, h3, h4⟩ := id h0
    have hg := gl_of ok h3
    have pa := pa_D R ok h2
    cases q : G.fn f with
    | some nF =>
      obtain ⟨n, F⟩ := nF
      obtain ⟨a, fd, ps, FG, m1, m2, m3⟩ := ok.g.fn f n F q
      rw [← ok.K] at FG m2 m3
      have fin : ∀ {σ H Q}, TEof W Z (callD r G f es) σ H Q → TAof W Z (aD r G es) σ H fun vs H1 => spOf W n F vs H1 Q (WE Z σ) := by
        intro σ H Q h
        have h' : TEof W Z (fun ρ => do let ds ← aD r G es ρ; if ds.length = n then F ds else stuck) σ H Q := by
          obtain ⟨ρ, m, e, g, rr, w⟩ := h
          refine ⟨ρ, m, e, g, rr, ?_⟩
          unfold callD at w
          rw [if_pos h0, q] at w
          exact w
        obtain ⟨ρ, m, e, g, rr, w⟩ := ta_bind h'
        refine ⟨ρ, m, e, g, rr, w.mono (fun _ _ _ _ z => z) fun xs m1 s1 g1 w1 vs hvs => ?_⟩
        obtain ⟨ρ2, m2, ds, e2, g2, r2, l2, w2⟩ := w1 vs hvs
        split at w2
        · rename_i hn
          exact ⟨by rw [l2.lenEq]; exact hn, ds, m2, e2, g2, l2, w2⟩
        · exact w2.elim
      cases es with
      | nil =>
        refine PE.weak (pe_callG0 FG (ok.room h4) ok.gd hg m1 m2 m3 ok.tk (okName_1 h1)) fun σ H Q h => ?_
        obtain ⟨ρ, m, e, g, rr, w⟩ := fin h
        subst e
        exact w m (Step.refl m) g rfl [] .nil
      | cons e0 es =>
        obtain ⟨z1, z2⟩ := star_cons (env := X.env) h2
        exact PE.weak (pe_callG FG (ok.room h4) ok.gd hg m1 m2 m3 ok.tk pa (okName_1 h1) z1 (star_any z2)) fun σ H Q h => fin h
    | none =>
      have none_of : (∀ ρ, callD r G f es ρ = stuck) → PE X (.Call (.Name f p) es [] pos) (TEof W Z (callD r G f es)) := fun z => PE.weak PE.any fun σ H Q h => te_none z h
      have fin : ∀ {pp : List D → M D}, (∀ ρ, callD r G f es ρ = (do let ds ← aD r G es ρ; pp ds)) → ∀ {σ H Q}, TEof W Z (callD r G f es) σ H Q → tCB (RCof W pp) (TAof W Z (aD r G es)) σ H Q := by
        intro pp z σ H Q h
        have h' : TEof W Z (fun ρ => do let ds ← aD r G es ρ; pp ds) σ H Q := by
          obtain ⟨ρ, m, e, g, rr, w⟩ := h
          exact ⟨ρ, m, e, g, rr, by rw [z] at w; exact w⟩
        obtain ⟨ρ, m, e, g, rr, w⟩ := ta_bind h'
        refine ⟨ρ, m, e, g, rr, w.mono (fun _ _ _ _ z => z) fun xs m1 s1 g1 w1 vs hvs => ?_⟩
        obtain ⟨ρ2, m2, ds, e2, g2, r2, l2, w2⟩ := w1 vs hvs
        exact ⟨_, ds, m2, e2, g2, l2, w2⟩
      cases q2 : primOf G f with
      | none =>
        refine none_of fun ρ => ?_
        unfold callD
        rw [if_pos h0, q, q2]
      | some P =>
        cases P with
        | b id pp =>
          by_cases h5 : G.isB f = true ∧ es ≠ []
          · obtain ⟨b1, b2⟩ := prim_b ok h4 q2
            have z : ∀ ρ, callD r G f es ρ = (do let ds ← aD r G es ρ; pp ds) := fun ρ => by
              unfold callD
              rw [if_pos h0, q, q2]
              simp only
              rw [if_pos h5]
            cases es with
            | nil => exact absurd rfl h5.2
            | cons e0 es =>
              obtain ⟨z1, z2⟩ := star_cons (env := X.env) h2
              exact PE.weak (pe_callB b2 hg (ok.g.bl f h5.1) b1 pa (okName_3 h1) (okName_1 h1) z1 (star_any z2)) fun σ H Q h => fin z h
          · refine none_of fun ρ => ?_
            unfold callD
            rw [if_pos h0, q, q2]
            simp only
            rw [if_neg h5]
        | t T pp =>
          by_cases h5 : G.isB f = true ∧ es ≠ []
          · obtain ⟨b1, b2⟩ := prim_t ok h4 q2
            have z : ∀ ρ, callD r G f es ρ = (do let ds ← aD r G es ρ; pp ds) := fun ρ => by
              unfold callD
              rw [if_pos h0, q, q2]
              simp only
              rw [if_pos h5]
            cases es with
            | nil => exact absurd rfl h5.2
            | cons e0 es =>
              obtain ⟨z1, z2⟩ := star_cons (env := X.env) h2
              exact PE.weak (pe_callTy b2 hg (ok.g.bl f h5.1) b1 pa (okName_3 h1) (okName_1 h1) z1 (star_any z2)) fun σ H Q h => fin z h
          · refine none_of fun ρ => ?_
            unfold callD
            rw [if_pos h0, q, q2]
            simp only
            rw [if_neg h5]
  · refine PE.weak PE.any fun σ H Q h => te_none (f := callD r G f es) (fun ρ => ?_) h
    unfold callD
    rw [if_neg h0]
end
end Pu

set_option Elab.async false
set_option linter.all false
set_option maxRecDepth 100000
/-! Pu9: what is walked, targets, comprehensions, methods. -/
namespace Pu
open PySem L2

/-- an iterator that gives plain things -/
structure Itm (W : Wd) (J : It) (m0 : Mem) (ds : List D) : Prop where
  go : ∀ (i : Nat) (m : Mem), Up m0 m → Okm W m → i < ds.length → J.go i m.H
  stop : ∀ m : Mem, Up m0 m → Okm W m → J.stop ds.length m.H
  yld : ∀ (i : Nat) (m : Mem) (x : V) (H' : Hp), Up m0 m → Okm W m → i < ds.length → J.yld i m.H x H' → ∃ m' d, m'.H = H' ∧ Step m m' ∧ Okm W m' ∧ m'.μ = m.μ ∧ m'.as = m.as ∧ ds[i]? = some d ∧ Den W m' d x
def TIof (W : Wd) (Z : WX) (f : Sl → M (List D)) : TI := fun σ H R => ∃ ρ m, m.H = H ∧ Okm W m ∧ EnvOk W m ρ σ ∧ wpR W m (EWish W Z σ) (fun ds m' => ∀ J, Itm W J m' ds → R J m'.H) (f ρ m.μ)
theorem PI.weak {X : Cx} {tg e : Expr} {t t' : TI} (h : PI X tg e t) (w : ∀ σ H R, t' σ H R → t σ H R) : PI X tg e t' := ⟨fun pins s σ H R I q => h.run pins s σ H R I (w σ H R q)⟩
theorem PI.or {X : Cx} {tg e : Expr} {t t' : TI} (h : PI X tg e t) (h' : PI X tg e t') : PI X tg e (fun σ H R => t σ H R ∨ t' σ H R) := ⟨fun pins s σ H R I q => by
  rcases q with q | q
  · exact h.run pins s σ H R I q
  · exact h'.run pins s σ H R I q⟩
theorem PI.any {X : Cx} {tg e : Expr} : PI X tg e (fun _ _ _ => False) := ⟨fun _ _ _ _ _ _ q => q.elim⟩
theorem Up.refl (m : Mem) : Up m m := (Step.refl m).up
theorem Up.trans {m n k : Mem} (a : Up m n) (b : Up n k) : Up m k := ⟨fun i x h => b.as i x (a.as i x h), fun x o h l => b.keep x o (a.keep x o h l).1 (a.keep x o h l).2⟩

section
variable {W : Wd} {Z : WX} {X : Cx} {G : Ctx} {σ : St} {H : Hp} {Q : VK} {r : Dn}
theorem itm_range {m : Mem} {lo : Int} {n : Nat} : Itm W (Itr lo n) m (rangeL lo n) := by
  have hl : (rangeL lo n).length = n := by simp [rangeL]
  refine ⟨fun i m _ _ h => by rw [hl] at h; exact h, fun m _ _ => by rw [hl]; exact Nat.le_refl _, fun i m x H' _ g h y => ?_⟩
  obtain ⟨rfl, rfl⟩ := y
  rw [hl] at h
  exact ⟨m, .int (lo + i), rfl, Step.refl m, g, rfl, rfl, by simp [rangeL, h], .int _⟩
theorem itm_str {m : Mem} {z : Str} : Itm W (Its z) m (signsL z) := by
  have hl : (signsL z).length = z.cps.size := by simp [signsL]
  refine ⟨fun i m _ _ h => by rw [hl] at h; exact h, fun m _ _ => by rw [hl]; exact Nat.le_refl _, fun i m x H' _ g h y => ?_⟩
  obtain ⟨rfl, c, h1, rfl⟩ := y
  refine ⟨m, .str ⟨#[c]⟩, rfl, Step.refl m, g, rfl, rfl, ?_, .str _⟩
  simp only [signsL, List.getElem?_map, Array.getElem?_toList, h1, Option.map_some]
theorem itm_list {m : Mem} {a : Addr} {ds : List D} {vs : List V} (h : PurL W m a vs) (l : DenL W m ds vs) : Itm W (Itl W.K a) m ds := by
  have sq : ∀ n, Up m n → SqL W.K n.H a vs := fun n u => (h.up u).sq
  refine ⟨fun i n u _ hi => ?_, fun n u _ => ⟨vs, sq n u, by rw [l.length]; exact Nat.le_refl _⟩, fun i n x H' u g hi y => ?_⟩
  · rw [l.length] at hi
    exact ⟨vs, vs[i], sq n u, by simp [hi]⟩
  · obtain ⟨rfl, y⟩ := y
    obtain ⟨d, h1, h2⟩ := (l.up u).getV (y vs (sq n u))
    exact ⟨n, d, rfl, Step.refl n, g, rfl, rfl, h1, h2⟩
theorem itm_tup {m : Mem} {a : Addr} {ds : List D} {vs : List V} (h : PurT W m a vs) (l : DenL W m ds vs) : Itm W (Itt W.K a) m ds := by
  have sq : ∀ n, Up m n → SqT W.K n.H a vs := fun n u => (h.up u).sq
  refine ⟨fun i n u _ hi => ?_, fun n u _ => ⟨vs, sq n u, by rw [l.length]; exact Nat.le_refl _⟩, fun i n x H' u g hi y => ?_⟩
  · rw [l.length] at hi
    exact ⟨vs, vs[i], sq n u, by simp [hi]⟩
  · obtain ⟨rfl, y⟩ := y
    obtain ⟨d, h1, h2⟩ := (l.up u).getV (y vs (sq n u))
    exact ⟨n, d, rfl, Step.refl n, g, rfl, rfl, h1, h2⟩
theorem DenK.at {m : Mem} : ∀ {kvs : List (Key × D)} {kv : List (Key × V)}, DenK W m kvs kv → ∀ (i : Nat) (k : Key) (v : V), kv[i]? = some (k, v) → ∃ d, kvs[i]? = some (k, d) ∧ Den W m d v
  | _, _, .nil, i, k, v, e => by simp at e
  | _, _, .cons h t, 0, k, v, e => by cases e; exact ⟨_, rfl, h⟩
  | _, _, .cons h t, i + 1, k, v, e => DenK.at t i k v e
theorem itm_keys {m : Mem} {a : Addr} {ob : Obj} {kvs : List (Key × D)} {kv : List (Key × V)} (h : m.H a = some (.frz ob (.dK kv))) (n : ¬ m.live a) (l : DenK W m kvs kv) : Itm W (Itk a ob kv) m (keysD kvs) := by
  have hl : (keysD kvs).length = kv.length := by rw [keysD, List.length_map, l.length]
  refine ⟨fun i n' u _ hi => ⟨(u.keep a _ h n).1, by rw [← hl]; exact hi⟩, fun n' u _ => ⟨(u.keep a _ h n).1, by rw [hl]; exact Nat.le_refl _⟩, fun i n' x H' u g hi y => ?_⟩
  obtain ⟨rfl, k, v, h1, rfl⟩ := y
  obtain ⟨d, h2, _⟩ := l.at i k v h1
  exact ⟨n', keyAs k, rfl, Step.refl n', g, rfl, rfl, by rw [keysD, List.getElem?_map, h2]; rfl, den_key k⟩
theorem itm_items {m : Mem} {a : Addr} {ob : Obj} {kvs : List (Key × D)} {kv : List (Key × V)} (h : m.H a = some (.frz ob (.dK kv))) (n : ¬ m.live a) (l : DenK W m kvs kv) : Itm W (Iti a ob kv) m (pairsOf kvs) := by
  have hl : (pairsOf kvs).length = kv.length := by rw [pairsOf, List.length_map, l.length]
  refine ⟨fun i n' u _ hi => ⟨(u.keep a _ h n).1, by rw [← hl]; exact hi⟩, fun n' u _ => ⟨(u.keep a _ h n).1, by rw [hl]; exact Nat.le_refl _⟩, fun i n' x H' u g hi y => ?_⟩
  obtain ⟨T, k, v, h1, rfl, hT, rfl⟩ := y
  obtain ⟨d, h2, hd⟩ := (l.up u).at i k v h1
  exact ⟨n'.put T (.tup [kV k, v]), .tup [keyAs k, d], rfl, step_put g hT, good_put g hT, rfl, rfl, by rw [pairsOf, List.getElem?_map, h2]; rfl, den_tup g hT (.cons (den_key k) (.cons hd .nil))⟩
theorem pi_itm (R : EnOk W r) (ok : EOk W X Z G) {elts : List Expr} {kk : Nat} {tpos ap pos : Pos} (o : Expr) (hp : plainO o = true) (hl : (ap.endLine == pos.line) = true) : PI X (.Tuple elts kk tpos) (.Call (.Attribute o "items" ap) [] [] pos) (TIof W Z fun ρ => do
      let d ← r.e G o ρ
      fun μ => match d with
        | .dic kvs => .ok (pairsOf kvs) μ
        | _ => .stuck) := by
  refine PI.weak (pi_items (R.e ok o) (plainO_base hp _ _) hl) fun σ H Rr h => ?_
  obtain ⟨ρ, m, e1, g, rr, w⟩ := h
  refine ⟨ρ, m, e1, g, rr, (wpR_bind w).mono (fun _ _ _ _ z => z) fun d m1 s1 g1 w1 v hv => ?_⟩
  cases hv with
  | @dic kvs a kv' ob h1 n1 l1 => exact ⟨a, ob, kv', rfl, h1, w1 m1 (Step.refl m1) g1 rfl _ (itm_items h1 n1 l1)⟩
  | _ => exact (show False from w1).elim
theorem pi_other (R : EnOk W r) (ok : EOk W X Z G) (tg e : Expr) : PI X tg e (TIof W Z fun ρ => do let d ← r.e G e ρ; itemsD d) := by
  have pe := R.e ok e
  refine PI.weak (PI.or (pi_list (tg := tg) pe) (PI.or (pi_tup (tg := tg) pe) (PI.or (pi_str (tg := tg) pe) (pi_keys (tg := tg) pe)))) fun σ H Rr h => ?_
  obtain ⟨ρ, m, e1, g, rr, w⟩ := h
  have w' := wpR_bind w
  rw [ok.K]
  have lift : ∀ {P : V → Hp → Prop}, wpR W m (EWish W Z σ) (fun d m' => ∀ v, Den W m' d v → P v m'.H) (r.e G e ρ m.μ) → TEof W Z (r.e G e) σ H P := fun z => ⟨ρ, m, e1, g, rr, z⟩
  cases q : r.e G e ρ m.μ with
  | stuck => rw [q] at w'; exact w'.elim
  | exc x μ' =>
    rw [q] at w'
    exact .inl (lift (by rw [q]; exact w'))
  | ok d μ' =>
    rw [q] at w'
    cases d with
    | str z =>
      refine .inr (.inr (.inl (lift ?_)))
      rw [q]
      intro m1 s1 g1 e2 v hv
      cases den_str hv
      exact ⟨z, rfl, w' m1 s1 g1 e2 m1 (Step.refl m1) g1 rfl _ itm_str⟩
    | tup ds =>
      refine .inr (.inl (lift ?_))
      rw [q]
      intro m1 s1 g1 e2 v hv
      cases hv with
      | tup h1 l1 => exact ⟨_, rfl, ⟨_, h1.sq⟩, w' m1 s1 g1 e2 m1 (Step.refl m1) g1 rfl _ (itm_tup h1 l1)⟩
    | lst ds =>
      refine .inl (lift ?_)
      rw [q]
      intro m1 s1 g1 e2 v hv
      cases hv with
      | lst h1 n1 l1 => exact ⟨_, rfl, ⟨_, .inl (.inl h1)⟩, w' m1 s1 g1 e2 m1 (Step.refl m1) g1 rfl _ (itm_list (.inl ⟨.inl h1, n1⟩) l1)⟩
    | frz ds =>
      refine .inl (lift ?_)
      rw [q]
      intro m1 s1 g1 e2 v hv
      cases hv with
      | frz h1 l1 => exact ⟨_, rfl, ⟨_, h1.sq⟩, w' m1 s1 g1 e2 m1 (Step.refl m1) g1 rfl _ (itm_list h1 l1)⟩
    | cell i => exact .inl (lift (by rw [q]; exact fun m1 s1 g1 e2 => (w' m1 s1 g1 e2 : False).elim))
    | non => exact .inl (lift (by rw [q]; exact fun m1 s1 g1 e2 => (w' m1 s1 g1 e2 : False).elim))
    | bl _ => exact .inl (lift (by rw [q]; exact fun m1 s1 g1 e2 => (w' m1 s1 g1 e2 : False).elim))
    | int _ => exact .inl (lift (by rw [q]; exact fun m1 s1 g1 e2 => (w' m1 s1 g1 e2 : False).elim))
    | dic kvs =>
      refine .inr (.inr (.inr (lift ?_)))
      rw [q]
      intro m1 s1 g1 e2 v hv
      cases hv with
      | @dic _ a kv' ob h1 n1 l1 => exact ⟨a, ob, rfl, .inl ⟨kv', h1, w' m1 s1 g1 e2 m1 (Step.refl m1) g1 rfl _ (itm_keys h1 n1 l1)⟩⟩
    | obj _ _ => exact .inl (lift (by rw [q]; exact fun m1 s1 g1 e2 => (w' m1 s1 g1 e2 : False).elim))
    | ty _ => exact .inl (lift (by rw [q]; exact fun m1 s1 g1 e2 => (w' m1 s1 g1 e2 : False).elim))
    | adr _ => exact .inl (lift (by rw [q]; exact fun m1 s1 g1 e2 => (w' m1 s1 g1 e2 : False).elim))
theorem ti_none {f : Sl → M (List D)} (e : ∀ ρ, f ρ = stuck) : ∀ {σ H R}, TIof W Z f σ H R → False := fun ⟨ρ, m, _, _, _, w⟩ => by rw [e] at w; exact w
/-- range(a) -/
theorem pi_rng1 (R : EnOk W r) (ok : EOk W X Z G) (tg a : Expr) (p pos : Pos) (h1 : glB G.sc "range" = true) (h2 : G.isB "range" = true) (h3 : noStar [a] = true) : PI X tg (.Call (.Name "range" p) [a] [] pos)
    (TIof W Z fun ρ => do let d ← r.e G a ρ; fun μ => match d with
        | .int j => if -(2 ^ 62) ≤ j ∧ j < 2 ^ 62 then .ok (rangeL 0 j.toNat) μ else .stuck
        | _ => .stuck) := by
  obtain ⟨z1, z2⟩ := star_cons (env := X.env) h3
  refine PI.weak (pi_range1 (tg := tg) (gl_of ok h1) (ok.g.bl _ h2) (pa_cons (R.e ok a) pa_nil z1) z1) fun σ H Rr h => ?_
  obtain ⟨ρ, m, e1, g, rr, w⟩ := h
  refine ⟨ρ, m, e1, g, rr, (wpR_bind w).mono (fun _ _ _ _ z => z) fun d m1 s1 g1 w1 v hv => ?_⟩
  cases d with
  | int j =>
    cases den_int hv
    have w2 : wpR W m1 (EWish W Z σ) (fun ds m' => ∀ J, Itm W J m' ds → Rr J m'.H) (if -(2 ^ 62) ≤ j ∧ j < 2 ^ 62 then .ok (rangeL 0 j.toNat) m1.μ else .stuck) := w1
    split at w2
    · rename_i hz
      exact ⟨j, rfl, hz.1, hz.2, w2 m1 (Step.refl m1) g1 rfl _ itm_range⟩
    · exact w2.elim
  | _ => exact (show False from w1).elim
theorem pi_rng2 (R : EnOk W r) (ok : EOk W X Z G) (tg a b : Expr) (p pos : Pos) (h1 : glB G.sc "range" = true) (h2 : G.isB "range" = true) (h3 : noStar [a, b] = true) : PI X tg (.Call (.Name "range" p) [a, b] [] pos)
    (TIof W Z fun ρ => do let d ← r.e G a ρ; let e ← r.e G b ρ; fun μ => match d, e with
        | .int i, .int j => if -(2 ^ 62) ≤ i ∧ i < 2 ^ 62 ∧ -(2 ^ 62) ≤ j ∧ j < 2 ^ 62 then .ok (rangeL i (j - i).toNat) μ else .stuck
        | _, _ => .stuck) := by
  obtain ⟨z1, z2⟩ := star_cons (env := X.env) h3
  obtain ⟨z3, z4⟩ := star_cons (env := X.env) z2
  refine PI.weak (pi_range2 (tg := tg) (gl_of ok h1) (ok.g.bl _ h2) (pa_cons (R.e ok a) (pa_cons (R.e ok b) pa_nil z3) z1) (by rw [z1, z3]; rfl) z3) fun σ H Rr h => ?_
  obtain ⟨ρ, m, e1, g, rr, w⟩ := h
  refine ⟨ρ, m, e1, g, rr, (wpR_bind w).mono (fun _ _ _ _ z => z) fun d m1 s1 g1 w1 v hv => ?_⟩
  refine ⟨ρ, m1, rfl, g1, rr.mono s1, (wpR_bind w1).mono (fun _ _ _ _ z => z) fun e m2 s2 g2 w2 u hu => ?_⟩
  cases d with
  | int i =>
    cases e with
    | int j =>
      cases den_int hv
      cases den_int hu
      have w3 : wpR W m2 (EWish W Z σ) (fun ds m' => ∀ J, Itm W J m' ds → Rr J m'.H) (if -(2 ^ 62) ≤ i ∧ i < 2 ^ 62 ∧ -(2 ^ 62) ≤ j ∧ j < 2 ^ 62 then .ok (rangeL i (j - i).toNat) m2.μ else .stuck) := w2
      split at w3
      · rename_i hz
        exact ⟨i, j, rfl, hz, w3 m2 (Step.refl m2) g2 rfl _ itm_range⟩
      · exact w3.elim
    | _ => exact (show False from w2).elim
  | _ => exact (show False from w2).elim

/-! ### targets -/
def Agree (js : List Nat) (σ σ' : St) : Prop := σ'.length = σ.length ∧ ∀ i : Nat, i ∉ js → σ'[i]? = σ[i]?
theorem Agree.refl (js : List Nat) (σ : St) : Agree js σ σ := ⟨rfl, fun _ _ => rfl⟩
theorem Agree.set {js : List Nat} {σ σ' : St} (h : Agree js σ σ') {i : Nat} (hi : i ∈ js) (v : Option V) : Agree js σ (σ'.set i v) :=
  ⟨by rw [List.length_set]; exact h.1, fun j hj => by
    have ne : i ≠ j := fun e => hj (by rw [← e]; exact hi)
    rw [List.getElem?_set_ne ne]; exact h.2 j hj⟩
theorem wipe_get {σ : St} : ∀ {vs : List Nat} {i : Nat}, (L2.wipe σ vs)[i]? = if i ∈ vs then (if i < σ.length then some none else none) else σ[i]?
  | [], i => by simp [L2.wipe]
  | v :: vs, i => by
    unfold L2.wipe
    by_cases h : v = i
    · subst h
      rw [if_pos List.mem_cons_self]
      by_cases hl : v < σ.length
      · rw [if_pos hl, List.getElem?_set_self (by rw [wipe_length]; exact hl)]
      · rw [if_neg hl]
        exact List.getElem?_eq_none (by rw [List.length_set, wipe_length]; omega)
    · rw [List.getElem?_set_ne h, wipe_get]
      have e : (i ∈ v :: vs) ↔ i ∈ vs := by simp [Ne.symm h]
      simp only [e]
theorem Agree.wipe {js vs : List Nat} {σ σ' : St} (h : Agree js σ σ') (hs : ∀ i ∈ js, i ∈ vs) : L2.wipe σ' vs = L2.wipe σ vs := by
  apply List.ext_getElem?
  intro i
  rw [wipe_get, wipe_get, h.1]
  split
  · rfl
  · rename_i hi
    exact h.2 i fun z => hi (hs i z)
theorem wipe_idem {σ : St} {vs : List Nat} : L2.wipe (L2.wipe σ vs) vs = L2.wipe σ vs := by
  apply List.ext_getElem?
  intro i
  rw [wipe_get, wipe_get, wipe_length]
  split <;> rfl
/-- a target that stores names alone -/
def TGp (W : Wd) (js : List Nat) (f : D → Sl → Option Sl) : TG := fun v σ H Q => ∃ ρ m d ρ', m.H = H ∧ Okm W m ∧ EnvOk W m ρ σ ∧ Den W m d v ∧ f d ρ = some ρ' ∧ ∀ σ', EnvOk W m ρ' σ' → Agree js σ σ' → Q σ' H
theorem PG.weak {X : Cx} {e : Expr} {t t' : TG} (h : PG X e t) (w : ∀ v σ H Q, t' v σ H Q → t v σ H Q) : PG X e t' := ⟨fun pins s σ H v u Q I rv q => h.run pins s σ H v u Q I rv (w v σ H Q q)⟩
theorem PG.or {X : Cx} {e : Expr} {t t' : TG} (h : PG X e t) (h' : PG X e t') : PG X e (fun v σ H Q => t v σ H Q ∨ t' v σ H Q) := ⟨fun pins s σ H v u Q I rv q => q.elim (fun q => h.run pins s σ H v u Q I rv q) fun q => h'.run pins s σ H v u Q I rv q⟩
theorem PG.any {X : Cx} {e : Expr} : PG X e (fun _ _ _ _ => False) := ⟨fun _ _ _ _ _ _ _ _ _ q => q.elim⟩
theorem PGs.weak {X : Cx} {e : List Expr} {t t' : TGs} (h : PGs X e t) (w : ∀ v σ H Q, t' v σ H Q → t v σ H Q) : PGs X e t' := ⟨fun pins s σ H v u Q I rv q => h.run pins s σ H v u Q I rv (w v σ H Q q)⟩
theorem PGs.any {X : Cx} {e : List Expr} : PGs X e (fun _ _ _ _ => False) := ⟨fun _ _ _ _ _ _ _ _ _ q => q.elim⟩
theorem gN_ix {x : Str} {d : D} {ρ ρ' : Sl} (h : gN G x d ρ = some ρ') : ∃ i, G.ix x = some i ∧ G.N.idxOf x = i ∧ (G.sc.names.lookup x = some .local ∨ (G.sc.names.lookup x = some .cell ∧ G.own x = true)) ∧ ρ' = ρ.set i (some d) := by
  unfold gN at h
  cases q : G.ix x with
  | none => rw [q] at h; cases h
  | some i =>
    rw [q] at h
    simp only at h
    split at h
    · rename_i hz
      cases h
      refine ⟨i, rfl, ?_, hz, rfl⟩
      unfold Ctx.ix at q
      split at q
      · exact Option.some.inj q
      · cases q
    · cases h
theorem pg_gN (ok : EOk W X Z G) (x : Str) (pos : Pos) : PG X (.Name x pos) (TGp W [G.N.idxOf x] (gN G x)) := by
  by_cases hz : ∃ i, G.ix x = some i ∧ (G.sc.names.lookup x = some .local ∨ (G.sc.names.lookup x = some .cell ∧ G.own x = true))
  · obtain ⟨i, h1, h2⟩ := hz
    rw [← ok.sc] at h2
    have h2' : Loc X.env.scope x := h2.elim .inl fun z => .inr z.1
    refine PG.weak (pg_name (i := i) ok.nd (by rw [ok.N]; exact Ctx.ix_at h1) h2' ?_) fun v σ H Q h => ?_
    · rcases h2 with z | z
      · exact .inr z
      · exact .inl (by rw [ok.own]; exact z.2)
    · obtain ⟨ρ, m, d, ρ', e, g, rr, hd, hf, q⟩ := h
      obtain ⟨j, e1, e2, _, e4⟩ := gN_ix hf
      rw [h1] at e1; cases e1
      subst e4
      exact q _ (rr.set i hd) ((Agree.refl _ σ).set (by rw [e2]; exact List.mem_singleton.mpr rfl) _)
  · refine PG.weak PG.any fun v σ H Q h => ?_
    obtain ⟨ρ, m, d, ρ', e, g, rr, hd, hf, q⟩ := h
    obtain ⟨j, e1, e2, e3, e4⟩ := gN_ix hf
    exact hz ⟨j, e1, e3⟩
def TGsp (W : Wd) (js : List Nat) (f : List D → Sl → Option Sl) : TGs := fun vs σ H Q => ∃ ρ m ds ρ', m.H = H ∧ Okm W m ∧ EnvOk W m ρ σ ∧ DenL W m ds vs ∧ f ds ρ = some ρ' ∧ ∀ σ', EnvOk W m ρ' σ' → Agree js σ σ' → Q σ' H
theorem pgs_gNs (ok : EOk W X Z G) (js : List Nat) : ∀ es : List Expr, (∀ e ∈ es, nslot G e ∈ js) → PGs X es (TGsp W js (gNs G es))
  | [], _ => PGs.weak pgs_nil fun vs σ H Q h => by
    obtain ⟨ρ, m, ds, ρ', e, g, rr, hd, hf, q⟩ := h
    cases hd with
    | nil =>
      cases (show some ρ = some ρ' from hf)
      exact ⟨rfl, q σ rr (Agree.refl _ σ)⟩
    | cons _ _ => cases (show (none : Option Sl) = some ρ' from hf)
  | .Name x p :: es, hj => by
    have ih := pgs_gNs ok js es fun e he => hj e (List.mem_cons_of_mem _ he)
    have hx : G.N.idxOf x ∈ js := hj _ List.mem_cons_self
    refine PGs.weak (pgs_cons (pg_gN ok x p) ih) fun vs σ H Q h => ?_
    obtain ⟨ρ, m, ds, ρ', e, g, rr, hd, hf, q⟩ := h
    cases hd with
    | nil => cases (show (none : Option Sl) = some ρ' from hf)
    | @cons d v ds vs hd hds =>
      have hf' : (gN G x d ρ).bind (fun ρ' => gNs G es ds ρ') = some ρ' := hf
      cases q1 : gN G x d ρ with
      | none => rw [q1] at hf'; cases hf'
      | some ρ1 =>
        rw [q1] at hf'
        refine ⟨v, vs, rfl, ρ, m, d, ρ1, e, g, rr, hd, q1, fun σ1 r1 a1 => ?_⟩
        refine ⟨ρ1, m, ds, ρ', e, g, r1, hds, hf', fun σ2 r2 a2 => q σ2 r2 ⟨a2.1.trans a1.1, fun i hi => (a2.2 i hi).trans (a1.2 i fun z => hi ?_)⟩⟩
        have : i = G.N.idxOf x := by simpa using z
        rw [this]; exact hx
  | .BoolOp .. :: es, hj | .NamedExpr .. :: es, hj | .BinOp .. :: es, hj | .UnaryOp .. :: es, hj | .Lambda .. :: es, hj | .IfExp .. :: es, hj | .Dict .. :: es, hj | .Set .. :: es, hj | .ListComp .. :: es, hj | .SetComp .. :: es, hj | .DictComp .. :: es, hj | .GeneratorExp .. :: es, hj | .Await .. :: es, hj | .Yield .. :: es, hj | .YieldFrom .. :: es, hj | .Compare .. :: es, hj | .Call .. :: es, hj | .FormattedValue .. :: es, hj | .JoinedStr .. :: es, hj | .Constant .. :: es, hj | .Attribute .. :: es, hj | .Subscript .. :: es, hj | .Starred .. :: es, hj | .List .. :: es, hj | .Tuple .. :: es, hj | .Slice .. :: es, hj =>
    PGs.weak PGs.any fun vs σ H Q h => by
      obtain ⟨ρ, m, ds, ρ', e, g, rr, hd, hf, q⟩ := h
      cases hd <;> cases (show (none : Option Sl) = some ρ' from hf)
theorem gNs_names : ∀ {es : List Expr} {ds : List D} {ρ ρ' : Sl} (env : Env), gNs G es ds ρ = some ρ' → (assignEach es env).length = ds.length ∧ (assignEach es env).findIdx? (·.1) = none
  | [], [], _, _, _, _ => ⟨rfl, rfl⟩
  | [], _ :: _, _, _, _, h => by cases h
  | .Name x p :: es, [], _, _, _, h => by cases h
  | .Name x p :: es, d :: ds, ρ, ρ', env, h => by
    have h' : (gN G x d ρ).bind (fun ρ1 => gNs G es ds ρ1) = some ρ' := h
    cases q : gN G x d ρ with
    | none => rw [q] at h'; cases h'
    | some ρ1 =>
      rw [q] at h'
      obtain ⟨h1, h2⟩ := gNs_names env (show gNs G es ds ρ1 = some ρ' from h')
      refine ⟨congrArg (· + 1) h1, ?_⟩
      show List.findIdx? (·.1) ((false, assign (.Name x p) env) :: assignEach es env) = none
      rw [List.findIdx?_cons, h2]
      rfl
  | .BoolOp .. :: _, _, _, _, _, h | .NamedExpr .. :: _, _, _, _, _, h | .BinOp .. :: _, _, _, _, _, h | .UnaryOp .. :: _, _, _, _, _, h | .Lambda .. :: _, _, _, _, _, h | .IfExp .. :: _, _, _, _, _, h | .Dict .. :: _, _, _, _, _, h | .Set .. :: _, _, _, _, _, h | .ListComp .. :: _, _, _, _, _, h | .SetComp .. :: _, _, _, _, _, h | .DictComp .. :: _, _, _, _, _, h | .GeneratorExp .. :: _, _, _, _, _, h | .Await .. :: _, _, _, _, _, h | .Yield .. :: _, _, _, _, _, h | .YieldFrom .. :: _, _, _, _, _, h | .Compare .. :: _, _, _, _, _, h | .Call .. :: _, _, _, _, _, h | .FormattedValue .. :: _, _, _, _, _, h | .JoinedStr .. :: _, _, _, _, _, h | .Constant .. :: _, _, _, _, _, h | .Attribute .. :: _, _, _, _, _, h | .Subscript .. :: _, _, _, _, _, h | .Starred .. :: _, _, _, _, _, h | .List .. :: _, _, _, _, _, h | .Tuple .. :: _, _, _, _, _, h | .Slice .. :: _, _, _, _, _, h => by
    rename_i ds ρ ρ' env
    cases ds <;> cases (show (none : Option Sl) = some ρ' from h)
theorem pg_gD (ok : EOk W X Z G) (hc : X.calm = true) (tg : Expr) : PG X tg (TGp W (gslots G tg) (gD G tg)) := by
  have none_of : (∀ d ρ, gD G tg d ρ = none) → PG X tg (TGp W (gslots G tg) (gD G tg)) := fun z => PG.weak PG.any fun v σ H Q h => by
    obtain ⟨ρ, m, d, ρ', e, g, rr, hd, hf, q⟩ := h
    rw [z] at hf; cases hf
  cases tg with
  | Name x p => exact pg_gN ok x p
  | Tuple es k p =>
    by_cases hz : ∃ (ds : List D) (ρ ρ' : Sl), gNs G es ds ρ = some ρ'
    · obtain ⟨ds0, ρ0, ρ0', hz⟩ := hz
      obtain ⟨n1, n2⟩ := gNs_names X.env hz
      have pgs := pgs_gNs ok (es.map (nslot G)) es fun e he => List.mem_map.mpr ⟨e, he, rfl⟩
      refine PG.weak (PG.or (pg_tup (n := (assignEach es X.env).length) hc pgs rfl n2) (pg_lst (n := (assignEach es X.env).length) hc pgs rfl n2)) fun v σ H Q h => ?_
      obtain ⟨ρ, m, d, ρ', e, g, rr, hd, hf, q⟩ := h
      cases d with
      | tup ds =>
        cases hd with
        | tup h1 l1 =>
          have hf : gNs G es ds ρ = some ρ' := by rw [← gD_tup (k := k) (p := p)]; exact hf
          obtain ⟨n3, _⟩ := gNs_names X.env hf
          subst e
          exact .inl ⟨_, _, rfl, by rw [ok.K]; exact h1.sq, by rw [n3]; exact l1.lenEq, ρ, m, ds, ρ', rfl, g, rr, l1, hf, q⟩
      | lst ds =>
        cases hd with
        | lst h1 h2 l1 =>
          have hf : gNs G es ds ρ = some ρ' := by rw [← gD_lst (k := k) (p := p)]; exact hf
          obtain ⟨n3, _⟩ := gNs_names X.env hf
          subst e
          exact .inr ⟨_, _, rfl, .inl (.inl h1), by rw [n3]; exact l1.lenEq, ρ, m, ds, ρ', rfl, g, rr, l1, hf, q⟩
      | _ =>
        rw [gD_tupE, uT_none (by intro ds z; cases z) (by intro ds z; cases z)] at hf
        cases hf
    · refine none_of fun d ρ => ?_
      cases d with
      | tup ds =>
        rw [gD_tup]
        cases q : gNs G es ds ρ with
        | none => rfl
        | some ρ' => exact absurd ⟨ds, ρ, ρ', q⟩ hz
      | lst ds =>
        rw [gD_lst]
        cases q : gNs G es ds ρ with
        | none => rfl
        | some ρ' => exact absurd ⟨ds, ρ, ρ', q⟩ hz
      | _ =>
        rw [gD_tupE]
        exact uT_none (by intro ds z; cases z) (by intro ds z; cases z)
  | _ => exact none_of fun _ _ => rfl

/-! ### comprehensions -/
theorem blk_ok (ok : EOk W X Z G) {sc : Scope} (s : Shared) (H : Hp) (C : Addr) (cl : List (Str × Addr)) (fp : List Addr) : EOk W (X.blk s H sc (PySem.compEnvC sc cl C X.env) fp) (fun _ _ _ _ => False) (blkG G sc) := by
  refine ⟨ok.K, ok.N, ok.nd, ?_, rfl, takes0, ok.calm, ok.room, ok.un, ok.gd, ⟨ok.g.glob, ok.g.bl, ok.g.fn, ok.g.xc, ok.g.cat, ⟨ok.g.ob.fld, ok.g.ob.meth, ok.g.ob.make, ok.g.ob.dun, ok.g.ob.prop, ok.g.ob.ne, ok.g.ob.cmeth, ok.g.ob.cls, ok.g.ob.sub⟩⟩⟩
  show (PySem.compEnvC sc cl C X.env).scope = relS sc G.sc
  rw [← ok.sc]
  rfl
theorem pts_D (R : EnOk W r) (ok : EOk W X Z G) : ∀ ifs : List Expr, PTs X ifs (TTof W Z (testsD r G ifs))
  | [] => ⟨fun pins s σ H Q I h => pts_nil.run pins s σ H Q I (let ⟨ρ, m, e, g, rr, w⟩ := h; e ▸ w m (Step.refl m) g rfl)⟩
  | [c] => pts_one (R.t ok c)
  | _ :: _ :: _ => ⟨fun _ _ _ _ _ _ h => (show False from let ⟨_, _, _, _, _, w⟩ := h; w).elim⟩
/-- what one turn promises -/
theorem noX_wp0 {α : Type} {m : Mem} {E : Ex → Mem → Prop} {P : α → Mem → Prop} {x : R α} {y : R α} (hy : y = (match x with | .exc _ _ => .stuck | r => r)) (w : wpR W m E P y) : wpR W m (fun _ _ => False) P x := by
  subst hy
  cases x with
  | ok a μ => exact w
  | exc e μ => exact w.elim
  | stuck => exact w.elim
/-- the list is made -/
theorem fix_out {m m2 : Mem} {ds : List D} {vs : List V} {n : Nat} {E : Ex → Mem → Prop} {L : Addr} (g : Okm W m) (hL : m.H L = none) (g2 : Okm W m2) (k : Mk m m2 L) (h2 : m2.H L = some (.lst vs)) (l : DenL W m2 ds vs) (w : out W m E Q (fixL n ds m2.μ)) : Q (.ref L) m2.H := by
  unfold fixL at w
  split at w
  · obtain ⟨st, ok⟩ := k.fix g hL g2 h2 l
    have hd : Den W (m2.fix L m.pv ds) (.cell m2.μ.length) (.ref L) := .cell (by
      show (m2.as ++ [L])[m2.μ.length]? = some L
      rw [← g2.len]
      simp)
    exact w (m2.fix L m.pv ds) st ok rfl _ hd
  · obtain ⟨n1, n2⟩ := k.new g hL g2
    refine w (m2.cls m.pv) k.cls (okm_cls g2 k.pv) rfl _ (.lst h2 (fun z => ?_) (l.up (up_cls k.pv)))
    rcases z with ⟨i, o, e, _⟩ | z
    · exact n1 (List.mem_of_getElem? e)
    · exact n2 z
/-- what the rest of a comprehension promises -/
def CRest (W : Wd) (m1 : Mem) (L : Addr) (Q : VK) (n : Nat) (x : R (List D)) : Prop := match x with
  | .ok ys μ' => out W m1 (fun _ _ => True) Q (fixL n ys μ')
  | _ => False
theorem iD_gen (R : EnOk W r) (ok : EOk W X Z G) (tg iter : Expr) : PI X tg iter (TIof W Z (iD r G tg iter)) → PI X tg iter (TIof W Z (iD r G tg iter)) := id
def CompIf (G : Ctx) (tg iter : Expr) (sc : Scope) : Prop := G.hot = false ∧ blkC G.N G.sc sc (ownOf G.N sc) = true ∧ (∀ i ∈ gslots G tg, i ∈ (ownOf G.N sc).map (·.2)) ∧ notSet iter = true
theorem comp_read {elt tg iter : Expr} {ifs : List Expr} {sc : Scope} {pos : Pos} (h0 : CompIf G tg iter sc) (h : TEof W Z (compD r G elt tg iter ifs sc pos) σ H Q) :
    tLc (TIof W Z (iD r G tg iter)) (TGp W (gslots (blkG G sc) tg) (gD (blkG G sc) tg)) (TTof W (fun _ _ _ _ => False) (testsD r (blkG G sc) ifs)) (TEof W (fun _ _ _ _ => False) (r.e (blkG G sc) elt)) ((ownOf G.N sc).map (·.2)) σ H Q := by
  have h3 := h0.2.2.1
  obtain ⟨ρ, m, e, g, rr, w⟩ := h
  unfold compD at w
  rw [if_pos (show _ ∧ _ ∧ _ ∧ _ from h0)] at w
  refine ⟨ρ, m, e, g, rr, (wpR_bind w).mono (fun _ _ _ _ z => z) fun ds m1 s1 g1 w1 J itm L hL => ?_⟩
  have r1 := rr.mono s1
  generalize hvs : (ownOf G.N sc).map (·.2) = vs at *
  generalize hf : turnD r (blkG G sc) elt tg ifs (wipeL ρ vs) = f at w1
  -- the whole run from m1 on
  have whole : CRest W m1 L Q (G.hint pos) (compL f ds [] m1.μ) := by
    have w2 := wpR_bind w1
    cases q : compL f ds [] m1.μ with
    | ok ys μ' =>
      have w3 : wpR W m1 (EWish W Z σ) (fun d m' => ∀ v, Den W m' d v → Q v m'.H) (fixL (G.hint pos) ys μ') := by
        have w4 : wpR W m1 (EWish W Z σ) (fun d m' => ∀ v, Den W m' d v → Q v m'.H) (M.bind (noX (compL f ds [])) (fun ys => fixL (G.hint pos) ys) m1.μ) := w1
        unfold M.bind noX at w4
        rw [q] at w4
        exact w4
      exact w3.mono (fun _ _ _ _ _ => trivial) fun _ _ _ _ z => z
    | exc x μ' =>
      have w4 : wpR W m1 (EWish W Z σ) (fun d m' => ∀ v, Den W m' d v → Q v m'.H) (M.bind (noX (compL f ds [])) (fun ys => fixL (G.hint pos) ys) m1.μ) := w1
      unfold M.bind noX at w4
      rw [q] at w4
      exact w4
    | stuck =>
      have w4 : wpR W m1 (EWish W Z σ) (fun d m' => ∀ v, Den W m' d v → Q v m'.H) (M.bind (noX (compL f ds [])) (fun ys => fixL (G.hint pos) ys) m1.μ) := w1
      unfold M.bind noX at w4
      rw [q] at w4
      exact w4
  let Iv : Nat → Hp → Prop := fun i H' => ∃ mm acc vacc, mm.H = H' ∧ Okm W mm ∧ Mk m1 mm L ∧ mm.H L = some (.lst vacc) ∧ DenL W mm acc vacc ∧ CRest W m1 L Q (G.hint pos) (compL f (ds.drop i) acc mm.μ)
  refine ⟨fun i k H' => k = ds.length - i ∧ i ≤ ds.length ∧ Iv i H', ⟨ds.length, by simp, Nat.zero_le _, m1.opn L (.lst []), [], [], rfl, okm_opn g1 hL, Mk.opn g1 hL, upd_same, .nil, whole⟩, ?_⟩
  rintro i k H' ⟨rfl, hi, mm, acc, vacc, rfl, gm, km, hm, lm, cm⟩
  by_cases hlt : i < ds.length
  · refine .inr ⟨itm.go i mm km.up gm hlt, Iv (i + 1), fun H2 z => ⟨ds.length - (i + 1), by omega, rfl, hlt, z⟩, fun x H2 y => ?_⟩
    obtain ⟨m2, d, rfl, s2, g2, e2, _, e3, hd⟩ := itm.yld i mm x H2 km.up gm hlt y
    have hdrop : ds.drop i = d :: ds.drop (i + 1) := by
      obtain ⟨hi', he⟩ := List.getElem?_eq_some_iff.mp e3
      rw [← he]
      exact List.drop_eq_getElem_cons hi'
    rw [hdrop] at cm
    have cm' : CRest W m1 L Q (G.hint pos) (M.bind (f d) (fun y => match y with
      | some z => if acc.length < sizeLine then compL f (ds.drop (i + 1)) (acc ++ [z]) else stuck
      | none => compL f (ds.drop (i + 1)) acc) m2.μ) := by rw [e2]; exact cm
    have r2 : EnvOk W m2 (wipeL ρ vs) (L2.wipe σ vs) := by
      have r3 := r1.wipes vs
      refine ⟨r3.len, fun j d' z => ?_⟩
      obtain ⟨v', z1, z2⟩ := r3.get j d' z
      exact ⟨v', z1, (z2.up km.up).mono s2⟩
    have k2 := km.step s2
    have hL2 : m2.H L = some (.lst vacc) := (s2.pvk L km.mem).trans hm
    have lm2 := lm.mono s2
    cases q1 : gD (blkG G sc) tg d (wipeL ρ vs) with
    | none =>
      have fd : f d = stuck := by
        rw [← hf]
        unfold turnD
        rw [q1]
      rw [fd] at cm'
      exact (show False from cm').elim
    | some ρ1 =>
      have fd : f d = M.bind (testsD r (blkG G sc) ifs ρ1) (fun b => if b then M.bind (r.e (blkG G sc) elt ρ1) (fun y => yes (some y)) else yes none) := by
        rw [← hf]
        unfold turnD
        rw [q1]
        rfl
      rw [fd] at cm'
      have cm2 := cm'
      refine ⟨wipeL ρ vs, m2, d, ρ1, rfl, g2, r2, hd, q1, fun σ2 r3 ag => ⟨(ag.wipe (vs := vs) h3).trans wipe_idem, ?_⟩⟩
      -- the tests
      refine ⟨ρ1, m2, rfl, g2, r3, ?_⟩
      unfold M.bind at cm2
      cases q2 : testsD r (blkG G sc) ifs ρ1 m2.μ with
      | stuck => rw [q2] at cm2; exact (show False from cm2).elim
      | exc x' μ' => rw [q2] at cm2; exact (show False from cm2).elim
      | ok b μ3 =>
        rw [q2] at cm2
        intro m3 s3 g3 e4
        have k3 := k2.step s3
        have hL3 : m3.H L = some (.lst vacc) := (s3.pvk L k2.mem).trans hL2
        have lm3 := lm2.mono s3
        cases b with
        | false =>
          show (if false = true then _ else _)
          rw [if_neg Bool.false_ne_true]
          refine ⟨m3, acc, vacc, rfl, g3, k3, hL3, lm3, ?_⟩
          rw [e4]
          exact cm2
        | true =>
          show (if true = true then _ else _)
          rw [if_pos rfl]
          simp only [↓reduceIte] at cm2
          refine ⟨ρ1, m3, rfl, g3, r3.mono s3, ?_⟩
          rw [e4]
          cases q3 : r.e (blkG G sc) elt ρ1 μ3 with
          | stuck => rw [q3] at cm2; exact (show False from cm2).elim
          | exc x' μ' => rw [q3] at cm2; exact (show False from cm2).elim
          | ok yv μ4 =>
            rw [q3] at cm2
            intro m4 s4 g4 e5 v hv
            have k4 := k3.step s4
            have hL4 : m4.H L = some (.lst vacc) := (s4.pvk L k3.mem).trans hL3
            have lm4 := lm3.mono s4
            have cm3 : CRest W m1 L Q (G.hint pos) ((if acc.length < sizeLine then compL f (ds.drop (i + 1)) (acc ++ [yv]) else stuck) μ4) := cm2
            by_cases hz : acc.length < sizeLine
            · rw [if_pos hz] at cm3
              refine ⟨vacc, hL4, by rw [lm4.lenEq]; exact hz, m4.gro L (.lst (vacc ++ [v])), acc ++ [yv], vacc ++ [v], rfl, okm_gro g4 k4.mem, k4.gro g1 hL, upd_same, ?_, ?_⟩
              · exact (lm4.append (.cons hv .nil)).up (up_gro k4.mem)
              · show CRest W m1 L Q (G.hint pos) (compL f (ds.drop (i + 1)) (acc ++ [yv]) m4.μ)
                rw [e5]
                exact cm3
            · rw [if_neg hz] at cm3
              exact (show False from cm3).elim
  · have ei : i = ds.length := by omega
    subst ei
    refine .inl ⟨itm.stop mm km.up gm, ?_⟩
    rw [List.drop_length] at cm
    exact fix_out (E := fun _ _ => True) g1 hL gm km hm lm cm
theorem pe_compD (R : EnOk W r) (hI : ∀ {X : Cx} {Z : WX} {G : Ctx}, EOk W X Z G → ∀ tg iter, PI X tg iter (TIof W Z (iD r G tg iter))) (ok : EOk W X Z G) (elt tg iter : Expr) (ifs : List Expr) (sc : Scope) (pos : Pos) :
    PE X (.ListComp elt [⟨tg, iter, ifs, 0⟩] sc pos) (TEof W Z (compD r G elt tg iter ifs sc pos)) := by
  by_cases h0 : CompIf G tg iter sc
  · obtain ⟨h1, h2, h3, h4⟩ := id h0
    have bo : BlkOk X.N X.env.scope sc (ownOf G.N sc) := by rw [ok.N, ok.sc]; exact blkOk_by h2
    have hs : ∀ x, foldedSetIterable iter X.env x = pure x := by
      intro x
      unfold foldedSetIterable
      cases iter <;> first | rfl | cases h4
    exact PE.weak (pe_lc (own := ownOf G.N sc) (ok.calm h1) ok.nd (hI ok tg iter) bo
      (fun s H C cl fp => pg_gD (blk_ok ok s H C cl fp) (ok.calm h1) tg) (fun s H C cl fp => pts_D R (blk_ok ok s H C cl fp) ifs) (fun s H C cl fp => R.e (blk_ok ok s H C cl fp) elt) hs) fun σ H Q h => comp_read h0 h
  · refine PE.weak PE.any fun σ H Q h => te_none (f := compD r G elt tg iter ifs sc pos) (fun ρ => ?_) h
    unfold compD
    exact if_neg h0
/-- y = [..], stored within the comprehension's frame -/
theorem ps_compD (R : EnOk W r) (hI : ∀ {X : Cx} {Z : WX} {G : Ctx}, EOk W X Z G → ∀ tg iter, PI X tg iter (TIof W Z (iD r G tg iter))) (ok : EOk W X Z G) {i : Nat} {y : Str} {py spos : Pos} {elt tg iter : Expr} {ifs : List Expr} {sc : Scope} {pos : Pos} (hy : X.N[i]? = some y) (hyl : X.env.scope.names.lookup y = some .local)
    (hsw : swapsWith (.ListComp elt [⟨tg, iter, ifs, 0⟩] sc pos) (some (.Name y py)) spos.line X.env = pure true) :
    PS X (.Assign [.Name y py] (.ListComp elt [⟨tg, iter, ifs, 0⟩] sc pos) spos) (tAsg (TEof W Z (compD r G elt tg iter ifs sc pos)) (gName i)) := by
  by_cases h0 : CompIf G tg iter sc
  · obtain ⟨h1, h2, h3, h4⟩ := id h0
    have bo : BlkOk X.N X.env.scope sc (ownOf G.N sc) := by rw [ok.N, ok.sc]; exact blkOk_by h2
    have hs : ∀ x, foldedSetIterable iter X.env x = pure x := by
      intro x
      unfold foldedSetIterable
      cases iter <;> first | rfl | cases h4
    exact PS.weak (ps_setLc (own := ownOf G.N sc) (ok.calm h1) ok.nd hy hyl hsw (hI ok tg iter) bo
      (fun s H C cl fp => pg_gD (blk_ok ok s H C cl fp) (ok.calm h1) tg) (fun s H C cl fp => pts_D R (blk_ok ok s H C cl fp) ifs) (fun s H C cl fp => R.e (blk_ok ok s H C cl fp) elt) hs) fun D σ H h => comp_read h0 h
  · refine PS.weak PS.any fun D σ H h => te_none (f := compD r G elt tg iter ifs sc pos) (fun ρ => ?_) h
    unfold compD
    exact if_neg h0
end
end Pu

set_option Elab.async false
set_option linter.all false
set_option maxRecDepth 100000
/-! Pu49: zip of a list and a tuple. -/
namespace Pu
open PySem L2

/-- a list and a tuple, item by item, in new pairs -/
def ItzM (K : PySem.W.Frag) (a b : Addr) : It :=
  ⟨fun i H => ∃ (xs ys : List V), SqL K H a xs ∧ SqT K H b ys ∧ i < xs.length ∧ i < ys.length,
    fun i H v H' => ∃ T x y, v = .ref T ∧ H T = none ∧ H' = upd H T (.tup [x, y]) ∧ (∀ xs, SqL K H a xs → xs[i]? = some x) ∧ ∀ ys, SqT K H b ys → ys[i]? = some y,
    fun i H => ∃ xs ys : List V, SqL K H a xs ∧ SqT K H b ys ∧ i = min xs.length ys.length⟩
theorem turn_zipM {P : Program} {w : World} {K : PySem.W.Frag} {elts : List Expr} {kk : Nat} {tpos : Pos} {a b : Addr} {N : Nat} (ha : a < N) (hb : b < N) :
    Turn P w K (.Tuple elts kk tpos) (ItzM K a b) [N + 4, N + 2, N + 3, N, N + 1] (N + 4)
      (fun i h => IsZip h (N + 4) (N + 2) (N + 3) .none ∧ IsTupOf2 h (N + 2) (.ref N) (.ref (N + 1)) ∧ (∃ a1 a2, IsTupOf2 h (N + 3) a1 a2) ∧ h.IsListIter N a i ∧ h.IsTupleIter (N + 1) b i) := by
  have S : ZipSep2 (N + 4) (N + 2) (N + 3) N (N + 1) [N, a] [N + 1, b] := zip_sep2 (fp1 := [a]) (fp2 := [b]) (fun c z => by simp only [List.mem_singleton] at z; rw [z]; exact ha) (fun c z => by simp only [List.mem_singleton] at z; rw [z]; exact hb)
  have na : a ≠ N := Nat.ne_of_lt ha
  have nb : b ≠ N + 1 := Nat.ne_of_lt (Nat.lt_succ_of_lt hb)
  refine ⟨List.mem_cons_self, fun i h st c hc => ?_, fun i h h' st k => ?_, ?_, ?_, fun A i s Q E st q => wpAny_pyIter_zip st.1 q⟩
  · obtain ⟨hz, hTI, ⟨a1, a2, hTO⟩, ⟨o1, e1, _, d1⟩, ⟨o2, e2, _, d2⟩⟩ := st
    have e' : c = N + 4 ∨ c = N + 2 ∨ c = N + 3 ∨ c = N ∨ c = N + 1 := by simpa using hc
    rcases e' with q | q | q | q | q
    · rw [q]; exact ⟨_, hz, fun v q => nomatch q⟩
    · rw [q]; exact ⟨_, hTI, fun v q => nomatch q⟩
    · rw [q]; exact ⟨_, hTO, fun v q => nomatch q⟩
    · rw [q]; exact ⟨o1, e1, fun v q => by rw [d1] at q; cases q⟩
    · rw [q]; exact ⟨o2, e2, fun v q => by rw [d2] at q; cases q⟩
  · obtain ⟨hz, hTI, ⟨a1, a2, hTO⟩, h1, h2⟩ := st
    exact ⟨k _ (by simp) _ hz, k _ (by simp) _ hTI, ⟨a1, a2, k _ (by simp) _ hTO⟩, h1.at fun o q => k _ (by simp) o q, h2.at fun o q => k _ (by simp) o q⟩
  · intro X hP hw hK hc i pins s σ H E I hf st hg
    subst hP hw hK
    have hh : X.A.handled = none := I.ok.hd hc
    have st0 := st
    obtain ⟨hz, hTI, ⟨a1, a2, hTO⟩, h1, h2⟩ := st
    obtain ⟨xs, ys, hqx, hqy, l1, l2⟩ := hg
    obtain ⟨its, rv, p, _⟩ := I.list hqx
    obtain ⟨its2, rv2, p2, _⟩ := I.tuple hqy
    have e1 := rv.length
    have e2 := rv2.length
    have hzl : N + 4 < s.heap.objs.size := Heap.lt_size hz
    refine wpAny_pyNext_zipD2_item S (Draws.list (A := X.A.in1) hh N a na its.toArray) (Draws.tuple (A := X.A.in1) hh (N + 1) b nb its2.toArray) hz hTI hTO ⟨h1, p.isList⟩ ⟨h2, p2⟩ (by simp; omega) (by simp; omega) fun u u2 h' tk y1 y2 z' TO' d1 d2 hT hsz hk => ?_
    refine ⟨_, rfl, wpAny_letOwnedTupleGo_zip (s := { s with heap := h', toks := tk }) z' fun h'' z'' sb => ?_⟩
    have hT2 : h''.get? s.heap.objs.size = some { cls := .type "tuple", data := .seq #[u, u2] } := (sb.2 _ (Nat.ne_of_gt hzl)).trans hT
    have hu : its[i]? = some u := by simpa using y1
    have hu2 : its2[i]? = some u2 := by simpa using y2
    have gx : xs[i]? = some xs[i] := List.getElem?_eq_getElem l1
    have gy : ys[i]? = some ys[i] := List.getElem?_eq_getElem l2
    obtain ⟨w1, hw1, ru⟩ := rv.get gx
    obtain ⟨w2, hw2, ru2⟩ := rv2.get gy
    rw [hu] at hw1; cases hw1
    rw [hu2] at hw2; cases hw2
    have new : ObjOk X.prog X.w (upd H s.heap.objs.size (.tup [xs[i], ys[i]])) h'' s.heap.objs.size (.tup [xs[i], ys[i]]) :=
      ⟨by show 2 ≤ sizeLine; decide, [u, u2], .cons ru (.cons ru2 .nil), ⟨_, hT2, rfl, _, rfl⟩⟩
    have I1 : Inv X pins σ (upd H s.heap.objs.size (.tup [xs[i], ys[i]])) { s with heap := h'', toks := tk } :=
      I.turnedNew (t' := tk) (ch := [N + 4, N + 2, N + 3, N, N + 1]) (fun c o hb q => (sb.2 c (fun q' => hb (by simp [q']))).trans (hk c o (fun q' => hb (by simp [q'])) (fun q' => hb (by simp [q'])) (fun q' => hb (by simp [q'])) (fun q' => hb (by simp [q'])) q)) hf (Nat.le_refl _) new
    refine ⟨.ref s.heap.objs.size, _, I1, rfl, ⟨_, _, _, rfl, I.hok.fresh (Nat.le_refl _), rfl, fun l hl => by rw [I.list_inj hl hqx]; exact gx, fun l hl => by rw [I.tuple_inj hl hqy]; exact gy⟩, ⟨z'', ?_, ⟨u, u2, ?_⟩, ?_, ?_⟩, fun c hcm => ?_⟩
    · exact (sb.2 _ S.TIz).trans (hk _ _ S.TIz S.TITO S.TIi1 S.TIi2 hTI)
    · exact (sb.2 _ S.TOz).trans TO'
    · exact d1.1.at fun o q => (sb.2 _ (show (N : Nat) ≠ N + 4 by omega)).trans q
    · exact d2.1.at fun o q => (sb.2 _ (show (N + 1 : Nat) ≠ N + 4 by omega)).trans q
    · have hlt : c < s.heap.objs.size := by
        have e' : c = N + 4 ∨ c = N + 2 ∨ c = N + 3 ∨ c = N ∨ c = N + 1 := by simpa using hcm
        rcases e' with q | q | q | q | q
        · rw [q]; exact hzl
        · rw [q]; exact Heap.lt_size hTI
        · rw [q]; exact Heap.lt_size hTO
        · rw [q]; obtain ⟨_, e1, _⟩ := h1; exact Heap.lt_size e1
        · rw [q]; obtain ⟨_, e2, _⟩ := h2; exact Heap.lt_size e2
      rw [upd_ne (Nat.ne_of_lt hlt)]
      exact (hf c hcm).1
  · intro X hP hw hK hc i pins s σ H E I hf st hg
    subst hP hw hK
    have hh : X.A.handled = none := I.ok.hd hc
    obtain ⟨hz, hTI, ⟨a1, a2, hTO⟩, h1, h2⟩ := st
    obtain ⟨xs, ys, hqx, hqy, hend⟩ := hg
    obtain ⟨its, rv, p, _⟩ := I.list hqx
    obtain ⟨its2, rv2, p2, _⟩ := I.tuple hqy
    have e1 := rv.length
    have e2 := rv2.length
    exact wpAny_pyNext_zipD2_end S (Draws.list (A := X.A.in1) hh N a na its.toArray) (Draws.tuple (A := X.A.in1) hh (N + 1) b nb its2.toArray) hz hTI hTO ⟨h1, p.isList⟩ ⟨h2, p2⟩ (by simp; omega) (by simp; omega) (by simp; omega) fun h' tk hk =>
      ⟨rfl, I.turnedL (t' := tk) (ch := [N + 4, N + 2, N + 3, N, N + 1]) (fun c o hb q => hk c o (fun q' => hb (by simp [q'])) (fun q' => hb (by simp [q'])) (fun q' => hb (by simp [q'])) (fun q' => hb (by simp [q'])) q) hf⟩
def iZipM (K : PySem.W.Frag) (ta : TA) : TI := fun σ H R => ta σ H fun vs H1 => ∃ a b xs ys, vs = [.ref a, .ref b] ∧ SqL K H1 a xs ∧ SqT K H1 b ys ∧ R (ItzM K a b) H1
theorem pi_zipM {X : Cx} {e e2 : Expr} {ta : TA} {p pos tpos : Pos} {elts : List Expr} {kk : Nat} (hg : Gl X "zip") (hm : X.mg "zip" = none) (ha : PA X [e, e2] ta)
    (hs : starEach [e, e2] X.env = (false, eval e X.env) :: starEach [e2] X.env) (hpl : (backTo pos (starEach [e2] X.env)).any (·.1) = false) :
    PI X (.Tuple elts kk tpos) (.Call (.Name "zip" p) [e, e2] [] pos) (iZipM X.K ta) := by
  refine ⟨fun pins s σ H R I h => ?_⟩
  refine PyProof.Rows.Call_ (ld_blt I hg hm PyProof.Rows.boot_zip (PyProof.Rows.callWith_type1 (thn (ha.run pos pins s σ H _ I h) fun us s1 ⟨vs, H1, I1, r1, q1⟩ => ?_) hs hpl))
  obtain ⟨a, b, xs, ys, rfl, hqx, hqy, q⟩ := q1
  obtain ⟨u1, u2, rfl, c1, c2⟩ := vals2 r1
  cases c1
  cases c2
  obtain ⟨its, rv, p1, _⟩ := I1.list hqx
  obtain ⟨its2, rv2, p2, _⟩ := I1.tuple hqy
  obtain ⟨o2, ho2, _⟩ := id p2
  refine zip_begins2 (begins_list a its.toArray) (begins_tuple b its2.toArray) p1.isList p2 fun h1 hz hTI hTO e1 e2 hsz hk => wpAny_pyIter_zip hz ?_
  have I2 : Inv X pins σ H1 { s1 with heap := h1 } := I1.kept (t' := s1.toks) hk
  refine ⟨s1.heap.objs.size + 4, _, _, _, H1, rfl, I2, turn_zipM (N := s1.heap.objs.size) p1.lt (Heap.lt_size ho2), ⟨hz, hTI, ⟨_, _, hTO⟩, ⟨_, e1, rfl, rfl⟩, ⟨_, e2, rfl, rfl⟩⟩, fun b hb => ?_, q⟩
  have hle : s1.heap.objs.size ≤ b := by
    have e' : b = s1.heap.objs.size + 4 ∨ b = s1.heap.objs.size + 2 ∨ b = s1.heap.objs.size + 3 ∨ b = s1.heap.objs.size ∨ b = s1.heap.objs.size + 1 := by simpa using hb
    rcases e' with z | z | z | z | z
    · rw [z]; exact Nat.le_add_right _ _
    · rw [z]; exact Nat.le_add_right _ _
    · rw [z]; exact Nat.le_add_right _ _
    · rw [z]; exact Nat.le_refl _
    · rw [z]; exact Nat.le_add_right _ _
  exact I1.fpOk hle (I1.hok.fresh hle)
end Pu

set_option Elab.async false
set_option linter.all false
set_option maxRecDepth 100000
/-! Pu10: zip of two texts; all that is walked. -/
namespace Pu
open PySem L2

/-- two texts, sign by sign, in new pairs -/
def ItzS (x y : Str) : It :=
  ⟨fun i _ => i < min x.cps.size y.cps.size,
    fun i H v H' => ∃ T c d, v = .ref T ∧ H T = none ∧ H' = upd H T (.tup [.str ⟨#[c]⟩, .str ⟨#[d]⟩]) ∧ x.cps[i]? = some c ∧ y.cps[i]? = some d,
    fun i _ => i = min x.cps.size y.cps.size⟩
theorem turn_zipS {P : Program} {w : World} {K : PySem.W.Frag} {elts : List Expr} {kk : Nat} {tpos : Pos} {x y : Str} {t1 t2 : Tok} {N : Nat} :
    Turn P w K (.Tuple elts kk tpos) (ItzS x y) ((N + 4) :: (N + 2) :: (N + 3) :: ([N] ++ [N + 1])) (N + 4)
      (fun i h => IsZip h (N + 4) (N + 2) (N + 3) .none ∧ IsTupOf2 h (N + 2) (.ref N) (.ref (N + 1)) ∧ (∃ a1 a2, IsTupOf2 h (N + 3) a1 a2) ∧ h.IsStrIter N (strIterType x) x t1 i ∧ h.IsStrIter (N + 1) (strIterType y) y t2 i) := by
  have S : ZipSep2 (N + 4) (N + 2) (N + 3) N (N + 1) [N] [N + 1] := zip_sep2 (fp1 := []) (fp2 := []) (fun _ z => nomatch z) (fun _ z => nomatch z)
  have walk : ∀ {A : Around}, A.handled = none → _ := fun {A} (hh : A.handled = none) => WalksT.zipD2 (prog := P) (w := w) (A := A) S (Draws.text (A := A.in1) hh N x t1) (Draws.text (A := A.in1) hh (N + 1) y t2)
  refine ⟨List.mem_cons_self, fun i h st c hc => ?_, fun i h h' st k => ?_, ?_, ?_, fun A i s Q E st q => wpAny_pyIter_zip st.1 q⟩
  · obtain ⟨hz, hTI, ⟨a1, a2, hTO⟩, ⟨o1, e1, _, d1⟩, ⟨o2, e2, _, d2⟩⟩ := st
    have e' : c = N + 4 ∨ c = N + 2 ∨ c = N + 3 ∨ c = N ∨ c = N + 1 := by simpa using hc
    rcases e' with q | q | q | q | q
    · rw [q]; exact ⟨_, hz, fun v q => nomatch q⟩
    · rw [q]; exact ⟨_, hTI, fun v q => nomatch q⟩
    · rw [q]; exact ⟨_, hTO, fun v q => nomatch q⟩
    · rw [q]; exact ⟨o1, e1, fun v q => by rw [d1] at q; cases q⟩
    · rw [q]; exact ⟨o2, e2, fun v q => by rw [d2] at q; cases q⟩
  · obtain ⟨hz, hTI, ⟨a1, a2, hTO⟩, ⟨o1, e1, r1⟩, ⟨o2, e2, r2⟩⟩ := st
    exact ⟨k _ (by simp) _ hz, k _ (by simp) _ hTI, ⟨a1, a2, k _ (by simp) _ hTO⟩, ⟨o1, k _ (by simp) _ e1, r1⟩, ⟨o2, k _ (by simp) _ e2, r2⟩⟩
  · intro X hP hw hK hc i pins s σ H E I hf st hg
    subst hP hw hK
    have hh : X.A.handled = none := I.ok.hd hc
    have Wk := walk hh
    refine Wk.item i s _ E hg st fun T vals h1 tk hPt hT htup hmid hk => ⟨.ref T, rfl, ?_⟩
    have hap := Wk.apart i T h1 hmid
    refine Wk.go elts kk tpos i T { s with heap := h1, toks := tk } _ E hmid fun h2 st2 hk2 => ?_
    obtain ⟨u1, u2, ⟨c, k1, hc1, rfl⟩, ⟨d, k2, hd1, rfl⟩, rfl⟩ := hPt
    obtain ⟨o, ho, ocls, n, od⟩ := htup
    have ho2 : h2.get? T = some o := hk2 T o hap ho
    have new : ObjOk X.prog X.w (upd H T (.tup [.str ⟨#[c]⟩, .str ⟨#[d]⟩])) h2 T (.tup [.str ⟨#[c]⟩, .str ⟨#[d]⟩]) :=
      ⟨by show 2 ≤ sizeLine; decide, [.str ⟨#[c]⟩ k1, .str ⟨#[d]⟩ k2], .cons ⟨_, rfl⟩ (.cons ⟨_, rfl⟩ .nil), ⟨o, ho2, ocls, n, od⟩⟩
    have sub : ∀ b, b ∈ [N + 4, N + 3, N, N + 1] → b ∈ (N + 4) :: (N + 2) :: (N + 3) :: ([N] ++ [N + 1]) := Wk.sub
    have I1 := I.turnedNew (t' := tk) (ch := (N + 4) :: (N + 2) :: (N + 3) :: ([N] ++ [N + 1])) (fun b ob hb q => hk2 b ob (fun z => hb (sub b z)) (hk b ob (fun z => hb (sub b z)) q)) hf hT new
    refine ⟨.ref T, _, I1, rfl, ⟨T, c, d, rfl, I.hok.fresh hT, rfl, hc1, hd1⟩, st2, fun b hb => ?_⟩
    have hlt : b < s.heap.objs.size := by
      obtain ⟨hz, hTI, ⟨a1, a2, hTO⟩, ⟨o1, e1, _⟩, ⟨o2, e2, _⟩⟩ := st
      have e' : b = N + 4 ∨ b = N + 2 ∨ b = N + 3 ∨ b = N ∨ b = N + 1 := by simpa using hb
      rcases e' with q | q | q | q | q
      · rw [q]; exact Heap.lt_size hz
      · rw [q]; exact Heap.lt_size hTI
      · rw [q]; exact Heap.lt_size hTO
      · rw [q]; exact Heap.lt_size e1
      · rw [q]; exact Heap.lt_size e2
    rw [upd_ne (Nat.ne_of_lt (Nat.lt_of_lt_of_le hlt hT))]
    exact (hf b hb).1
  · intro X hP hw hK hc i pins s σ H E I hf st hg
    subst hP hw hK
    have hh : X.A.handled = none := I.ok.hd hc
    have Wk := walk hh
    have hg' : i = min x.cps.size y.cps.size := hg
    subst hg'
    exact Wk.done s _ E st fun h1 tk hk => ⟨rfl, I.turnedL (t' := tk) (ch := (N + 4) :: (N + 2) :: (N + 3) :: ([N] ++ [N + 1])) (fun b ob hb q => hk b ob (fun z => hb (Wk.sub b z)) q) hf⟩
def iZipS (ta : TA) : TI := fun σ H R => ta σ H fun vs H1 => ∃ x y : Str, vs = [.str x, .str y] ∧ R (ItzS x y) H1
theorem pi_zipS {X : Cx} {e e2 : Expr} {ta : TA} {p pos tpos : Pos} {elts : List Expr} {kk : Nat} (hg : Gl X "zip") (hm : X.mg "zip" = none) (ha : PA X [e, e2] ta)
    (hs : starEach [e, e2] X.env = (false, eval e X.env) :: starEach [e2] X.env) (hpl : (backTo pos (starEach [e2] X.env)).any (·.1) = false) :
    PI X (.Tuple elts kk tpos) (.Call (.Name "zip" p) [e, e2] [] pos) (iZipS ta) := by
  refine ⟨fun pins s σ H R I h => ?_⟩
  refine PyProof.Rows.Call_ (ld_blt I hg hm PyProof.Rows.boot_zip (PyProof.Rows.callWith_type1 (thn (ha.run pos pins s σ H _ I h) fun us s1 ⟨vs, H1, I1, r1, q1⟩ => ?_) hs hpl))
  obtain ⟨x, y, rfl, q⟩ := q1
  obtain ⟨u1, u2, rfl, ⟨t1, rfl⟩, ⟨t2, rfl⟩⟩ := vals2 r1
  refine zip_begins2 (begins_text x t1) (begins_text y t2) trivial trivial fun h1 hz hTI hTO e1 e2 hsz hk => wpAny_pyIter_zip hz ?_
  have I2 : Inv X pins σ H1 { s1 with heap := h1 } := I1.kept (t' := s1.toks) hk
  refine ⟨s1.heap.objs.size + 4, _, _, _, H1, rfl, I2, turn_zipS (N := s1.heap.objs.size) (t1 := t1) (t2 := t2), ⟨hz, hTI, ⟨_, _, hTO⟩, ⟨_, e1, rfl, rfl⟩, ⟨_, e2, rfl, rfl⟩⟩, fun b hb => ?_, q⟩
  have hle : s1.heap.objs.size ≤ b := by
    have e' : b = s1.heap.objs.size + 4 ∨ b = s1.heap.objs.size + 2 ∨ b = s1.heap.objs.size + 3 ∨ b = s1.heap.objs.size ∨ b = s1.heap.objs.size + 1 := by simpa using hb
    rcases e' with z | z | z | z | z
    · rw [z]; exact Nat.le_add_right _ _
    · rw [z]; exact Nat.le_add_right _ _
    · rw [z]; exact Nat.le_add_right _ _
    · rw [z]; exact Nat.le_refl _
    · rw [z]; exact Nat.le_add_right _ _
  exact I1.fpOk hle (I1.hok.fresh hle)
section
variable {W : Wd} {Z : WX} {X : Cx} {G : Ctx} {r : Dn}
theorem zip_get {xs ys : List D} {i : Nat} {x y : D} (h1 : xs[i]? = some x) (h2 : ys[i]? = some y) : (List.zipWith (fun p q => D.tup [p, q]) xs ys)[i]? = some (.tup [x, y]) := by
  rw [List.getElem?_zipWith, h1, h2]
theorem itm_zipS {m : Mem} {x y : Str} : Itm W (ItzS x y) m (List.zipWith (fun p q => .tup [p, q]) (signsL x) (signsL y)) := by
  have hl : (List.zipWith (fun p q => D.tup [p, q]) (signsL x) (signsL y)).length = min x.cps.size y.cps.size := by simp [signsL]
  refine ⟨fun i n _ _ h => by rw [hl] at h; exact h, fun n _ _ => hl, fun i n v H' _ g h z => ?_⟩
  obtain ⟨T, c, d, rfl, hT, rfl, e1, e2⟩ := z
  refine ⟨n.put T (.tup [.str ⟨#[c]⟩, .str ⟨#[d]⟩]), .tup [.str ⟨#[c]⟩, .str ⟨#[d]⟩], rfl, step_put g hT, good_put g hT, rfl, rfl, zip_get ?_ ?_, den_tup g hT (.cons (.str _) (.cons (.str _) .nil))⟩
  · simp only [signsL, List.getElem?_map, Array.getElem?_toList, e1, Option.map_some]
  · simp only [signsL, List.getElem?_map, Array.getElem?_toList, e2, Option.map_some]
theorem itm_zipL {m : Mem} {a b : Addr} {xs ys : List D} {vs ws : List V} (h1 : PurL W m a vs) (l1 : DenL W m xs vs) (h2 : PurL W m b ws) (l2 : DenL W m ys ws) : Itm W (Itz W.K a b) m (List.zipWith (fun p q => .tup [p, q]) xs ys) := by
  have s1 : ∀ n, Up m n → SqL W.K n.H a vs := fun n u => (h1.up u).sq
  have s2 : ∀ n, Up m n → SqL W.K n.H b ws := fun n u => (h2.up u).sq
  have hl : (List.zipWith (fun p q => D.tup [p, q]) xs ys).length = min vs.length ws.length := by simp [l1.length, l2.length]
  refine ⟨fun i n u _ h => ?_, fun n u _ => ⟨vs, ws, s1 n u, s2 n u, by rw [hl]; omega⟩, fun i n v H' u g h z => ?_⟩
  · rw [hl] at h
    have z1 : i < vs.length := by omega
    have z2 : i < ws.length := by omega
    exact ⟨vs, ws, vs[i], ws[i], s1 n u, s2 n u, by simp [z1], by simp [z2]⟩
  · obtain ⟨T, x, y, rfl, hT, rfl, e1, e2⟩ := z
    obtain ⟨dx, f1, f2⟩ := (l1.up u).getV (e1 vs (s1 n u))
    obtain ⟨dy, f3, f4⟩ := (l2.up u).getV (e2 ws (s2 n u))
    exact ⟨n.put T (.tup [x, y]), .tup [dx, dy], rfl, step_put g hT, good_put g hT, rfl, rfl, zip_get f1 f3, den_tup g hT (.cons f2 (.cons f4 .nil))⟩
theorem itm_zipT {m : Mem} {a b : Addr} {xs ys : List D} {vs ws : List V} (h1 : PurT W m a vs) (l1 : DenL W m xs vs) (h2 : PurT W m b ws) (l2 : DenL W m ys ws) : Itm W (RZ.ItzT W.K a b) m (List.zipWith (fun p q => .tup [p, q]) xs ys) := by
  have s1 : ∀ n, Up m n → SqT W.K n.H a vs := fun n u => (h1.up u).sq
  have s2 : ∀ n, Up m n → SqT W.K n.H b ws := fun n u => (h2.up u).sq
  have hl : (List.zipWith (fun p q => D.tup [p, q]) xs ys).length = min vs.length ws.length := by simp [l1.length, l2.length]
  refine ⟨fun i n u _ h => ?_, fun n u _ => ⟨vs, ws, s1 n u, s2 n u, by rw [hl]; omega⟩, fun i n v H' u g h z => ?_⟩
  · rw [hl] at h
    have z1 : i < vs.length := by omega
    have z2 : i < ws.length := by omega
    exact ⟨vs, ws, vs[i], ws[i], s1 n u, s2 n u, by simp [z1], by simp [z2]⟩
  · obtain ⟨T, x, y, rfl, hT, rfl, e1, e2⟩ := z
    obtain ⟨dx, f1, f2⟩ := (l1.up u).getV (e1 vs (s1 n u))
    obtain ⟨dy, f3, f4⟩ := (l2.up u).getV (e2 ws (s2 n u))
    exact ⟨n.put T (.tup [x, y]), .tup [dx, dy], rfl, step_put g hT, good_put g hT, rfl, rfl, zip_get f1 f3, den_tup g hT (.cons f2 (.cons f4 .nil))⟩
theorem itm_zipM {m : Mem} {a b : Addr} {xs ys : List D} {vs ws : List V} (h1 : PurL W m a vs) (l1 : DenL W m xs vs) (h2 : PurT W m b ws) (l2 : DenL W m ys ws) : Itm W (ItzM W.K a b) m (List.zipWith (fun p q => .tup [p, q]) xs ys) := by
  have s1 : ∀ n, Up m n → SqL W.K n.H a vs := fun n u => (h1.up u).sq
  have s2 : ∀ n, Up m n → SqT W.K n.H b ws := fun n u => (h2.up u).sq
  have hl : (List.zipWith (fun p q => D.tup [p, q]) xs ys).length = min vs.length ws.length := by simp [l1.length, l2.length]
  refine ⟨fun i n u _ h => ?_, fun n u _ => ⟨vs, ws, s1 n u, s2 n u, by rw [hl]⟩, fun i n v H' u g h z => ?_⟩
  · rw [hl] at h
    exact ⟨vs, ws, s1 n u, s2 n u, by omega, by omega⟩
  · obtain ⟨T, x, y, rfl, hT, rfl, e1, e2⟩ := z
    obtain ⟨dx, f1, f2⟩ := (l1.up u).getV (e1 vs (s1 n u))
    obtain ⟨dy, f3, f4⟩ := (l2.up u).getV (e2 ws (s2 n u))
    exact ⟨n.put T (.tup [x, y]), .tup [dx, dy], rfl, step_put g hT, good_put g hT, rfl, rfl, zip_get f1 f3, den_tup g hT (.cons f2 (.cons f4 .nil))⟩
theorem pi_zipD (R : EnOk W r) (ok : EOk W X Z G) (elts : List Expr) (kk : Nat) (tpos : Pos) (a b : Expr) (p pos : Pos) (h1 : glB G.sc "zip" = true) (h2 : G.isB "zip" = true) (h3 : noStar [a, b] = true) :
    PI X (.Tuple elts kk tpos) (.Call (.Name "zip" p) [a, b] [] pos) (TIof W Z fun ρ => do let d ← r.e G a ρ; let e ← r.e G b ρ; zipD d e) := by
  obtain ⟨z1, z2⟩ := star_cons (env := X.env) h3
  obtain ⟨z3, z4⟩ := star_cons (env := X.env) z2
  have pa : PA X [a, b] (tCons (TEof W Z (r.e G a)) (tCons (TEof W Z (r.e G b)) tNil)) := pa_cons (R.e ok a) (pa_cons (R.e ok b) pa_nil z3) z1
  refine PI.weak (PI.or (pi_zipS (gl_of ok h1) (ok.g.bl _ h2) pa z1 (star_any z2)) (PI.or (RZ.pi_zipA (gl_of ok h1) (ok.g.bl _ h2) pa z1 (star_any z2)) (pi_zipM (gl_of ok h1) (ok.g.bl _ h2) pa z1 (star_any z2)))) fun σ H Rr h => ?_
  obtain ⟨ρ, m, e1, g, rr, w⟩ := h
  rw [ok.K]
  have w1 := wpR_bind w
  -- which of the roads: by what the operands are
  have left : ∀ {P : List V → Hp → Prop}, (∀ (d e : D) (m2 : Mem), Okm W m2 → ∀ v u, Den W m2 d v → Den W m2 e u → wpR W m2 (EWish W Z σ) (fun ds m' => ∀ J, Itm W J m' ds → Rr J m'.H) (zipD d e m2.μ) → (∃ μ1 μ2, r.e G a ρ m.μ = .ok d μ1 ∧ r.e G b ρ μ1 = .ok e μ2) → P [v, u] m2.H) →
      tCons (TEof W Z (r.e G a)) (tCons (TEof W Z (r.e G b)) tNil) σ H P := by
    intro P hP
    refine ⟨ρ, m, e1, g, rr, ?_⟩
    cases q : r.e G a ρ m.μ with
    | stuck => rw [q] at w1; exact w1.elim
    | exc x μ' => rw [q] at w1; exact w1
    | ok d μ1 =>
      rw [q] at w1
      intro m1 s1 g1 e2 v hv
      have w3 := wpR_bind (w1 m1 s1 g1 e2)
      refine ⟨ρ, m1, rfl, g1, rr.mono s1, ?_⟩
      cases q2 : r.e G b ρ m1.μ with
      | stuck => rw [q2] at w3; exact w3.elim
      | exc x μ' => rw [q2] at w3; exact w3
      | ok e μ2 =>
        rw [q2] at w3
        intro m2 s2 g2 e3 u hu
        exact hP d e m2 g2 v u (hv.mono s2) hu (w3 m2 s2 g2 e3) ⟨μ1, μ2, q, by rw [← e2]; exact q2⟩
  have text : (∀ d e μ1 μ2, r.e G a ρ m.μ = .ok d μ1 → r.e G b ρ μ1 = .ok e μ2 → ∃ x, d = .str x) → iZipS (tCons (TEof W Z (r.e G a)) (tCons (TEof W Z (r.e G b)) tNil)) σ H Rr := fun hx => (left (P := fun vs H1 => ∃ x y : Str, vs = [V.str x, V.str y] ∧ Rr (ItzS x y) H1) fun d e m2 g2 v u hv hu w2 z => by
    obtain ⟨μ1, μ2, q1, q2⟩ := z
    obtain ⟨x, rfl⟩ := hx d e μ1 μ2 q1 q2
    cases e with
    | str y =>
      cases den_str hv
      cases den_str hu
      exact ⟨x, y, rfl, w2 m2 (Step.refl m2) g2 rfl _ itm_zipS⟩
    | _ => exact (show False from w2).elim)
  have mixed : (∀ d e μ1 μ2, r.e G a ρ m.μ = .ok d μ1 → r.e G b ρ μ1 = .ok e μ2 → ∃ x y, d = .lst x ∧ e = .tup y) → iZipM W.K (tCons (TEof W Z (r.e G a)) (tCons (TEof W Z (r.e G b)) tNil)) σ H Rr := fun hx => (left (P := fun vs H1 => ∃ a b xs ys, vs = [V.ref a, V.ref b] ∧ SqL W.K H1 a xs ∧ SqT W.K H1 b ys ∧ Rr (ItzM W.K a b) H1) fun d e m2 g2 v u hv hu w2 z => by
    obtain ⟨μ1, μ2, q1, q2⟩ := z
    obtain ⟨x, y, rfl, rfl⟩ := hx d e μ1 μ2 q1 q2
    cases hv with
    | lst a1 an a2 =>
      cases hu with
      | tup b1 b2 => exact ⟨_, _, _, _, rfl, .inl (.inl a1), b1.sq, w2 m2 (Step.refl m2) g2 rfl _ (itm_zipM (.inl ⟨.inl a1, an⟩) a2 b1 b2)⟩)
  have seq : (∀ d e μ1 μ2, r.e G a ρ m.μ = .ok d μ1 → r.e G b ρ μ1 = .ok e μ2 → (∀ x, d ≠ .str x) ∧ ∀ x y, ¬ (d = .lst x ∧ e = .tup y)) → RZ.iZipA W.K (tCons (TEof W Z (r.e G a)) (tCons (TEof W Z (r.e G b)) tNil)) σ H Rr := fun hx => (left (P := fun vs H1 => ∃ a b xs ys, vs = [V.ref a, V.ref b] ∧ ((SqL W.K H1 a xs ∧ SqL W.K H1 b ys ∧ Rr (Itz W.K a b) H1) ∨ (SqT W.K H1 a xs ∧ SqT W.K H1 b ys ∧ Rr (RZ.ItzT W.K a b) H1))) fun d e m2 g2 v u hv hu w2 z => by
    obtain ⟨μ1, μ2, q1, q2⟩ := z
    obtain ⟨n1, n2⟩ := hx d e μ1 μ2 q1 q2
    cases d with
    | str x => exact absurd rfl (n1 x)
    | tup xs =>
      cases e with
      | tup ys =>
        cases hv with
        | tup a1 a2 =>
          cases hu with
          | tup b1 b2 => exact ⟨_, _, _, _, rfl, .inr ⟨a1.sq, b1.sq, w2 m2 (Step.refl m2) g2 rfl _ (itm_zipT a1 a2 b1 b2)⟩⟩
      | _ => exact (show False from w2).elim
    | lst xs =>
      cases e with
      | lst ys =>
        cases hv with
        | lst a1 an a2 =>
          cases hu with
          | lst b1 bn b2 => exact ⟨_, _, _, _, rfl, .inl ⟨.inl (.inl a1), .inl (.inl b1), w2 m2 (Step.refl m2) g2 rfl _ (itm_zipL (.inl ⟨.inl a1, an⟩) a2 (.inl ⟨.inl b1, bn⟩) b2)⟩⟩
      | tup ys => exact absurd ⟨rfl, rfl⟩ (n2 xs ys)
      | _ => exact (show False from w2).elim
    | _ => exact (show False from w2).elim)
  cases q : r.e G a ρ m.μ with
  | stuck => rw [q] at w1; exact w1.elim
  | exc x μ' => exact .inl (text fun d e μ1 μ2 z => by rw [q] at z; cases z)
  | ok d0 μ1 =>
    cases q2 : r.e G b ρ μ1 with
    | stuck => exact .inl (text fun d e μ1 μ2 z z' => by rw [q] at z; cases z; rw [q2] at z'; cases z')
    | exc x μ' => exact .inl (text fun d e μ1 μ2 z z' => by rw [q] at z; cases z; rw [q2] at z'; cases z')
    | ok e0 μ2 =>
      cases d0 with
      | str x => exact .inl (text fun d e μ1 μ2 z z' => by rw [q] at z; cases z; exact ⟨x, rfl⟩)
      | lst x =>
        cases e0 with
        | tup y => exact .inr (.inr (mixed fun d e μ1 μ2 z z' => by rw [q] at z; cases z; rw [q2] at z'; cases z'; exact ⟨x, y, rfl, rfl⟩))
        | _ => exact .inr (.inl (seq fun d e μ1 μ2 z z' => by rw [q] at z; cases z; rw [q2] at z'; cases z'; exact ⟨(fun x z => nomatch z), (fun x y z => nomatch z.2)⟩))
      | _ => exact .inr (.inl (seq fun d e μ1 μ2 z z' => by rw [q] at z; cases z; exact ⟨(fun x z => nomatch z), (fun x y z => nomatch z.1)⟩))
theorem ish_1 {tg iter a : Expr} (h : ishape tg iter = .rng1 a) : ∃ p pos, iter = .Call (.Name "range" p) [a] [] pos := by
  unfold ishape at h
  split at h
  · split at h
    · rename_i e; cases h; subst e; exact ⟨_, _, rfl⟩
    · cases h
  · split at h
    · cases h
    · split at h <;> cases h
  · split at h <;> cases h
  · split at h <;> cases h
  · cases h
theorem ish_i {tg iter o : Expr} {ok : Bool} (h : ishape tg iter = .itm o ok) : ∃ elts kk tpos ap pos, tg = .Tuple elts kk tpos ∧ iter = .Call (.Attribute o "items" ap) [] [] pos ∧ ok = (ap.endLine == pos.line) := by
  unfold ishape at h
  split at h
  · split at h <;> cases h
  · split at h
    · cases h
    · split at h <;> cases h
  · split at h <;> cases h
  · split at h
    · rename_i e; cases h; subst e; exact ⟨_, _, _, _, _, rfl, rfl, rfl⟩
    · cases h
  · cases h
theorem ish_2 {tg iter a b : Expr} (h : ishape tg iter = .rng2 a b) : ∃ p pos, iter = .Call (.Name "range" p) [a, b] [] pos := by
  unfold ishape at h
  split at h
  · split at h <;> cases h
  · split at h
    · rename_i e; cases h; subst e; exact ⟨_, _, rfl⟩
    · split at h <;> cases h
  · split at h
    · rename_i e; cases h; subst e; exact ⟨_, _, rfl⟩
    · cases h
  · split at h <;> cases h
  · cases h
theorem ish_z {tg iter a b : Expr} (h : ishape tg iter = .zip a b) : ∃ elts kk tpos p pos, tg = .Tuple elts kk tpos ∧ iter = .Call (.Name "zip" p) [a, b] [] pos := by
  unfold ishape at h
  split at h
  · split at h <;> cases h
  · split at h
    · cases h
    · split at h
      · rename_i e; cases h; subst e; exact ⟨_, _, _, _, _, rfl, rfl⟩
      · cases h
  · split at h <;> cases h
  · split at h <;> cases h
  · cases h
theorem pi_D (R : EnOk W r) (ok : EOk W X Z G) (tg iter : Expr) : PI X tg iter (TIof W Z (iD r G tg iter)) := by
  have none_of : (∀ ρ, iD r G tg iter ρ = stuck) → PI X tg iter (TIof W Z (iD r G tg iter)) := fun z => PI.weak PI.any fun σ H Rr h => ti_none z h
  cases h : ishape tg iter with
  | itm o okB =>
    obtain ⟨elts, kk, tpos, ap, pos, rfl, rfl, rfl⟩ := ish_i h
    by_cases hz : plainO o = true ∧ (ap.endLine == pos.line) = true
    · refine PI.weak (pi_itm R ok o hz.1 hz.2) fun σ H Rr q => ?_
      obtain ⟨ρ, m, e1, g, rr, w⟩ := q
      unfold iD at w
      rw [h] at w
      simp only at w
      rw [if_pos hz] at w
      exact ⟨ρ, m, e1, g, rr, w⟩
    · refine none_of fun ρ => ?_
      unfold iD
      rw [h]
      simp only
      rw [if_neg hz]
  | rng1 a =>
    obtain ⟨p, pos, rfl⟩ := ish_1 h
    by_cases hz : glB G.sc "range" = true ∧ G.isB "range" = true ∧ noStar [a] = true
    · refine PI.weak (pi_rng1 R ok tg a p pos hz.1 hz.2.1 hz.2.2) fun σ H Rr q => ?_
      obtain ⟨ρ, m, e1, g, rr, w⟩ := q
      unfold iD at w
      rw [h] at w
      simp only at w
      rw [if_pos hz] at w
      exact ⟨ρ, m, e1, g, rr, w⟩
    · refine none_of fun ρ => ?_
      unfold iD
      rw [h]
      simp only
      rw [if_neg hz]
  | rng2 a b =>
    obtain ⟨p, pos, rfl⟩ := ish_2 h
    by_cases hz : glB G.sc "range" = true ∧ G.isB "range" = true ∧ noStar [a, b] = true
    · refine PI.weak (pi_rng2 R ok tg a b p pos hz.1 hz.2.1 hz.2.2) fun σ H Rr q => ?_
      obtain ⟨ρ, m, e1, g, rr, w⟩ := q
      unfold iD at w
      rw [h] at w
      simp only at w
      rw [if_pos hz] at w
      exact ⟨ρ, m, e1, g, rr, w⟩
    · refine none_of fun ρ => ?_
      unfold iD
      rw [h]
      simp only
      rw [if_neg hz]
  | zip a b =>
    obtain ⟨elts, kk, tpos, p, pos, rfl, rfl⟩ := ish_z h
    by_cases hz : glB G.sc "zip" = true ∧ G.isB "zip" = true ∧ noStar [a, b] = true
    · refine PI.weak (pi_zipD R ok elts kk tpos a b p pos hz.1 hz.2.1 hz.2.2) fun σ H Rr q => ?_
      obtain ⟨ρ, m, e1, g, rr, w⟩ := q
      unfold iD at w
      rw [h] at w
      simp only at w
      rw [if_pos hz] at w
      exact ⟨ρ, m, e1, g, rr, w⟩
    · refine none_of fun ρ => ?_
      unfold iD
      rw [h]
      simp only
      rw [if_neg hz]
  | other =>
    refine PI.weak (pi_other R ok tg iter) fun σ H Rr q => ?_
    obtain ⟨ρ, m, e1, g, rr, w⟩ := q
    unfold iD at w
    rw [h] at w
    exact ⟨ρ, m, e1, g, rr, w⟩
end
end Pu

set_option Elab.async false
set_option linter.all false
set_option maxRecDepth 100000
/-! Pu11: one step of an expression, one step of a test: kept by the model. -/
namespace Pu
open PySem L2
section
variable {W : Wd} {Z : WX} {X : Cx} {G : Ctx} {σ : St} {H : Hp} {Q : VK} {r : Dn}
/-! ### dict displays -/
theorem DenK.any {m : Mem} (k : Key) : ∀ {ds : List (Key × D)} {vs : List (Key × V)}, DenK W m ds vs → (ds.any fun kv => decide (kv.1 = k)) = (vs.any fun kv => decide (kv.1 = k))
  | _, _, .nil => rfl
  | _, _, .cons _ t => by rw [List.any_cons, List.any_cons, DenK.any k t]
theorem DenK.append {m : Mem} : ∀ {ds es : List (Key × D)} {vs ws : List (Key × V)}, DenK W m ds vs → DenK W m es ws → DenK W m (ds ++ es) (vs ++ ws)
  | _, _, _, _, .nil, s => s
  | _, _, _, _, .cons r t, s => .cons r (DenK.append t s)
theorem DenK.map {m : Mem} {d : D} {v : V} (k : Key) (h : Den W m d v) : ∀ {ds : List (Key × D)} {vs : List (Key × V)}, DenK W m ds vs → DenK W m (ds.map fun kv => if kv.1 = k then (kv.1, d) else kv) (vs.map fun kv => if kv.1 = k then (kv.1, v) else kv)
  | _, _, .nil => .nil
  | _, _, .cons (k := k') r t => by
    rw [List.map_cons, List.map_cons]
    by_cases e : k' = k
    · simp only [e, ↓reduceIte]
      exact .cons h (DenK.map k h t)
    · simp only [e, ↓reduceIte]
      exact .cons r (DenK.map k h t)
theorem DenK.put {m : Mem} {d : D} {v : V} (k : Key) (h : Den W m d v) {ds : List (Key × D)} {vs : List (Key × V)} (l : DenK W m ds vs) : DenK W m (putD ds k d) (putK vs k v) := by
  unfold putD putK
  rw [l.any k]
  split
  · exact l.map k h
  · exact l.append (.cons h .nil)
theorem DenK.merge {m : Mem} : ∀ {es : List (Key × D)} {ws : List (Key × V)} {ds : List (Key × D)} {vs : List (Key × V)}, DenK W m es ws → DenK W m ds vs → DenK W m (mergeD ds es) (mergeK vs ws)
  | _, _, _, _, .nil, l => l
  | _, _, ds, vs, .cons (k := k) (d := d) (v := v) (ds := es) (vs := ws) h t, l => show DenK W m (mergeD (putD ds k d) es) (mergeK (putK vs k v) ws) from DenK.merge t (l.put _ h)
theorem EnvOk.up {m m' : Mem} {ρ : Sl} (s : Up m m') (h : EnvOk W m ρ σ) : EnvOk W m' ρ σ := ⟨h.len, fun i d e => let ⟨v, e1, e2⟩ := h.get i d e; ⟨v, e1, e2.up s⟩⟩
def trsOf (W : Wd) (Z : WX) (r : Dn) (G : Ctx) : List (Option Expr) → List Expr → List (TE × TE)
  | some k :: ks, v :: vs => (TEof W Z (r.e G k), TEof W Z (r.e G v)) :: trsOf W Z r G ks vs
  | _, _ => []
theorem pps_D (R : EnOk W r) (ok : EOk W X Z G) {pos : Pos} : ∀ {ks : List (Option Expr)} {vs : List Expr}, ks.all (·.isSome) = true → ks.length = vs.length → PPs X pos ks vs (trsOf W Z r G ks vs)
  | [], [], _, _ => pps_nil
  | some k :: ks, v :: vs, h, l => pps_cons (R.e ok k) (R.e ok v) (pps_D R ok (by rw [List.all_cons] at h; exact (Bool.and_eq_true_iff.mp h).2) (Nat.succ.inj l))
  | none :: ks, _, h, _ => by rw [List.all_cons] at h; cases h
theorem pairs_read {P : List (V × V) → Hp → Prop} {ρ : Sl} {E : Ex → Mem → Prop} : ∀ (ks : List (Option Expr)) (vs : List Expr) (P : List (V × V) → Hp → Prop) (m : Mem), EnvOk W m ρ σ → Okm W m → wpR W m (EWish W Z σ) (fun l m' => ∀ kvs, DenK W m' l kvs → P (kvs.map fun kv => (kV kv.1, kv.2)) m'.H) (pairsD r G ks vs ρ m.μ) → tPairs (trsOf W Z r G ks vs) σ m.H P
  | [], [], P, m, rr, g, w => w m (Step.refl m) g rfl [] .nil
  | [], _ :: _, P, m, rr, g, w => (show False from w).elim
  | none :: _, _, P, m, rr, g, w => (show False from w).elim
  | some k :: ks, [], P, m, rr, g, w => (show False from w).elim
  | some k :: ks, v :: vs, P, m, rr, g, w => by
    refine ⟨ρ, m, rfl, g, rr, (wpR_bind w).mono (fun _ _ _ _ z => z) fun x m1 s1 g1 w1 vx hx => ⟨ρ, m1, rfl, g1, rr.mono s1, (wpR_bind w1).mono (fun _ _ _ _ z => z) fun y m2 s2 g2 w2 vy hy => ?_⟩⟩
    refine pairs_read (E := E) (P := P) ks vs (fun ps H3 => P ((vx, vy) :: ps) H3) m2 ((rr.mono s1).mono s2) g2 ((wpR_bind w2).mono (fun _ _ _ _ z => z) fun l m3 s3 g3 w3 kvs hk => ?_)
    cases q : keyOf x with
    | none => rw [q] at w3; exact (show False from w3).elim
    | some q1 =>
      rw [q] at w3
      have z := w3 m3 (Step.refl m3) g3 rfl ((q1, vy) :: kvs) (.cons (hy.mono s3) hk)
      rw [List.map_cons, ← keyOf_den hx q] at z
      exact z
theorem pairs_len {ρ : Sl} : ∀ (ks : List (Option Expr)) (vs : List Expr) (μ μ' : Sto) (l : List (Key × D)), pairsD r G ks vs ρ μ = .ok l μ' → l.length = ks.length
  | [], [], μ, μ', l, h => by cases h; rfl
  | [], _ :: _, μ, μ', l, h => by cases h
  | none :: _, _, μ, μ', l, h => by cases h
  | some k :: ks, [], μ, μ', l, h => by cases h
  | some k :: ks, v :: vs, μ, μ', l, h => by
    have h' : M.bind (r.e G k ρ) (fun x => M.bind (r.e G v ρ) fun y => M.bind (pairsD r G ks vs ρ) fun l => fun μ => match keyOf x with | some q => .ok ((q, y) :: l) μ | none => .stuck) μ = .ok l μ' := h
    unfold M.bind at h'
    cases q1 : r.e G k ρ μ with
    | ok x μ1 =>
      rw [q1] at h'
      simp only at h'
      cases q2 : r.e G v ρ μ1 with
      | ok y μ2 =>
        rw [q2] at h'
        simp only at h'
        cases q3 : pairsD r G ks vs ρ μ2 with
        | ok l2 μ3 =>
          rw [q3] at h'
          simp only at h'
          cases q4 : keyOf x with
          | some q => rw [q4] at h'; cases h'; rw [List.length_cons, List.length_cons, pairs_len ks vs μ2 μ' l2 q3]
          | none => rw [q4] at h'; cases h'
        | exc e μ3 => rw [q3] at h'; cases h'
        | stuck => rw [q3] at h'; cases h'
      | exc e μ2 => rw [q2] at h'; cases h'
      | stuck => rw [q2] at h'; cases h'
    | exc e μ1 => rw [q1] at h'; cases h'
    | stuck => rw [q1] at h'; cases h'
/-- a dict in the making is made, and locked -/
theorem dic_end {m m2 : Mem} {p : Addr} {ob : Obj} {kvs : List (Key × D)} {kv : List (Key × V)} {E : Ex → Mem → Prop} (g : Okm W m) (hp : m.H p = none) (k : Mk m m2 p) (g2 : Okm W m2) (l : DenK W m2 kvs kv) (w : out W m E Q (.ok (.dic kvs) m2.μ)) : Q (.ref p) (upd m2.H p (.frz ob (.dK kv))) := by
  have k3 : Mk m (m2.gro p (.frz ob (.dK kv))) p := k.gro g hp
  have g3 : Okm W (m2.gro p (.frz ob (.dK kv))) := okm_gro g2 k.mem
  obtain ⟨n1, n2⟩ := k3.new g hp g3
  refine w ((m2.gro p (.frz ob (.dK kv))).cls m.pv) k3.cls (okm_cls g3 k3.pv) rfl _ (.dic upd_same (fun z => ?_) ((l.up (up_gro k.mem)).up (up_cls k3.pv)))
  rcases z with ⟨i, o, e, _⟩ | z
  · exact n1 (List.mem_of_getElem? e)
  · exact n2 z
theorem pe_dispE (R : EnOk W r) (ok : EOk W X Z G) (ks : List (Option Expr)) (vs : List Expr) (pos : Pos) : PE X (.Dict ks vs pos) (TEof W Z (dispE r G ks vs)) := by
  by_cases hz : ks.all (·.isSome) = true ∧ ks.length = vs.length ∧ ks.length ≤ 15
  · obtain ⟨h1, h2, h3⟩ := id hz
    have open_ : ∀ {σ H Q}, TEof W Z (dispE r G ks vs) σ H Q → ∃ ρ m l μ', m.H = H ∧ Okm W m ∧ EnvOk W m ρ σ ∧ pairsD r G ks vs ρ m.μ = .ok l μ' ∧ out W m (EWish W Z σ) Q (.ok (.dic (mergeD [] l)) μ') := by
      rintro σ H Q ⟨ρ, m, e, g, rr, w⟩
      unfold dispE at w
      rw [if_pos hz] at w
      replace w : out W m (EWish W Z σ) Q (M.bind (noX (pairsD r G ks vs ρ)) (fun l => yes (.dic (mergeD [] l))) m.μ) := w
      unfold M.bind noX at w
      cases q : pairsD r G ks vs ρ m.μ with
      | ok l μ' => rw [q] at w; exact ⟨ρ, m, l, μ', e, g, rr, q, w⟩
      | exc x μ' => rw [q] at w; exact (show False from w).elim
      | stuck => rw [q] at w; exact (show False from w).elim
    by_cases h0 : ks = []
    · subst h0
      have e1 : vs = [] := by cases vs with | nil => rfl | cons _ _ => cases h2
      subst e1
      refine PE.weak (pe_lk pe_dnewK) fun σ H Q h => ?_
      obtain ⟨ρ, m, l, μ', e, g, rr, q, w⟩ := open_ h
      cases q
      subst e
      refine fun p hp => .inr ⟨p, .dK [], upd_same, trivial, fun od => ?_⟩
      rw [upd_upd]
      exact out.dic (ks := []) w g .nil hp od
    · refine PE.weak (pe_lk (pe_disp (pps_D R ok h1 h2) h1 h2 h0 h3)) fun σ H Q h => ?_
      obtain ⟨ρ, m, l, μ', e, g, rr, q, w⟩ := open_ h
      subst e
      intro p hp
      refine pairs_read (E := fun _ _ => True) (P := fun _ _ => True) ks vs _ (m.opn p (.dK [])) (rr.up (up_opn hp)) (okm_opn g hp) ?_
      rw [show pairsD r G ks vs ρ (m.opn p (.dK [])).μ = .ok l μ' from q]
      intro m2 s2 g2 e2 kvs hk
      have hl : kvs.length ≤ 15 := by rw [← hk.length, pairs_len ks vs _ _ _ q]; exact h3
      refine ⟨(s2.pvk p List.mem_cons_self).trans upd_same, kvs, rfl, hl, .inr ⟨p, _, upd_same, trivial, fun od => ?_⟩⟩
      rw [upd_upd]
      rw [← e2] at w
      exact dic_end g hp ((Mk.opn g hp).step s2) g2 (DenK.merge hk .nil) w
  · exact PE.weak PE.any fun σ H Q h => by
      obtain ⟨ρ, m, e, g, rr, w⟩ := h
      unfold dispE at w
      rw [if_neg hz] at w
      exact w
/-! ### join -/
theorem te_if {c : Prop} [Decidable c] {f : Sl → M D} (h : TEof W Z (fun ρ => if c then f ρ else stuck) σ H Q) : c ∧ TEof W Z f σ H Q := by
  obtain ⟨ρ, m, e, g, rr, w⟩ := h
  by_cases hc : c
  · refine ⟨hc, ρ, m, e, g, rr, ?_⟩
    simp only [hc, ↓reduceIte] at w
    exact w
  · simp only [hc, ↓reduceIte] at w
    exact (show False from w).elim
theorem isStr_wp {α : Type} {m : Mem} {d : D} {v : V} {E : Ex → Mem → Prop} {P : α → Mem → Prop} {f : Str → M α} (hv : Den W m d v) (w : wpR W m E P ((do let z ← isStr d; f z) m.μ)) : ∃ z, v = .str z ∧ wpR W m E P (f z m.μ) := by
  cases hv with
  | str z => exact ⟨z, rfl, w⟩
  | _ => exact (show False from w).elim
theorem pe_joinD (R : EnOk W r) (ok : EOk W X Z G) {o e : Expr} {ap pos : Pos} (h1 : plainO o = true) (h2 : noStar [e] = true) (h3 : (ap.endLine == pos.line) = true) :
    PE X (.Call (.Attribute o "join" ap) [e] [] pos) (TEof W Z fun ρ => do let x ← r.e G o ρ; let z ← isStr x; let y ← r.e G e ρ; joinD z y) := by
  obtain ⟨z1, z2⟩ := star_cons (env := X.env) h2
  refine PE.weak (pe_join (R.e ok o) (R.e ok e) z1 (plainO_base h1 _ _) h3) fun σ H Q h => ?_
  obtain ⟨ρ, m, ee, g, rr, w⟩ := h
  refine ⟨ρ, m, ee, g, rr, (wpR_bind w).mono (fun _ _ _ _ z => z) fun d m1 s1 g1 w1 v hv => ?_⟩
  obtain ⟨z, rfl, w2⟩ := isStr_wp hv w1
  refine ⟨⟨_, rfl⟩, ρ, m1, rfl, g1, rr.mono s1, (wpR_bind w2).mono (fun _ _ _ _ z => z) fun y m2 s2 g2 w3 u hu => ?_⟩
  unfold joinD at w3
  split at w3
  · rename_i ys e3
    split at w3
    · rename_i hz
      cases q2 : asS m2.μ y with
      | none => rw [q2] at e3; cases e3
      | some ds =>
        rw [q2] at e3
        obtain ⟨p, vs, rfl, h5, l⟩ := asS_den g2 hu q2
        have e4 := strsOf_map (show strsOf ds = some ys from e3)
        subst e4
        rw [DenL.of_strs l, ← ok.K] at h5
        exact ⟨z, p, ys, rfl, rfl, h5, hz, out.same (E := EWish W Z σ) w3 g2 (.str _)⟩
    · exact w3.elim
  · exact w3.elim
theorem pe_methD (R : EnOk W r) (ok : EOk W X Z G) (o : Expr) (m : Str) (es : List Expr) (ap pos : Pos) : PE X (.Call (.Attribute o m ap) es [] pos) (TEof W Z (methD r G o m es (ap.endLine == pos.line))) := by
  have none_of : (∀ ρ, methD r G o m es (ap.endLine == pos.line) ρ = stuck) → PE X (.Call (.Attribute o m ap) es [] pos) (TEof W Z (methD r G o m es (ap.endLine == pos.line))) := fun z => PE.weak PE.any fun σ H Q h => te_none z h
  by_cases h0 : plainO o = true ∧ noStar es = true ∧ (ap.endLine == pos.line) = true ∧ G.hot = false
  · match es, h0 with
    | [], h0 => exact none_of fun ρ => by unfold methD; rw [if_pos h0]
    | _ :: _ :: _, h0 => exact none_of fun ρ => by unfold methD; rw [if_pos h0]
    | [e], h0 =>
      by_cases hj : m = "join"
      · subst hj
        exact PE.weak (pe_joinD R ok h0.1 h0.2.1 h0.2.2.1) fun σ H Q h => (te_if (te_if h).2).2
      · refine none_of fun ρ => ?_
        unfold methD
        rw [if_pos h0]
        simp only
        rw [if_neg hj]
  · refine none_of fun ρ => ?_
    unfold methD
    rw [if_neg h0]

/-! ### slices -/
theorem po_D (R : EnOk W r) (ok : EOk W X Z G) : ∀ o : Option Expr, PO X o (TOof W Z (partD r G o))
  | none => ⟨fun pins s σ H Q I h => po_none.run pins s σ H Q I (let ⟨ρ, m, e, g, rr, w⟩ := h; e ▸ w m (Step.refl m) g rfl)⟩
  | some e => by
    have p := po_some (R.e ok e)
    refine ⟨fun pins s σ H Q I h => p.run pins s σ H Q I ?_⟩
    obtain ⟨ρ, m, ee, g, rr, w⟩ := h
    refine ⟨ρ, m, ee, g, rr, (wpR_bind w).mono (fun _ _ _ _ z => z) fun d m1 s1 g1 w1 v hv => ?_⟩
    cases d with
    | int i => cases den_int hv; exact ⟨i, rfl, w1 m1 (Step.refl m1) g1 rfl⟩
    | _ => exact (show False from w1).elim
theorem pe_slD (R : EnOk W r) (ok : EOk W X Z G) (a : Expr) (lo hi : Option Expr) (p pos : Pos) : PE X (.Subscript a (.Slice lo hi none p) pos) (TEof W Z fun ρ => do let x ← r.e G a ρ; let l ← partD r G lo ρ; let h ← partD r G hi ρ; slD x l h) := by
  refine PE.weak (pe_slice (sl_D ok.K) (R.e ok a) (po_D R ok lo) (po_D R ok hi)) fun σ H Q h => ?_
  obtain ⟨ρ, m, ee, g, rr, w⟩ := h
  refine ⟨ρ, m, ee, g, rr, (wpR_bind w).mono (fun _ _ _ _ z => z) fun d m1 s1 g1 w1 v hv => ?_⟩
  refine ⟨ρ, m1, rfl, g1, rr.mono s1, (wpR_bind w1).mono (fun _ _ _ _ z => z) fun l m2 s2 g2 w2 => ?_⟩
  refine ⟨ρ, m2, rfl, g2, (rr.mono s1).mono s2, (wpR_bind w2).mono (fun _ _ _ _ z => z) fun hh m3 s3 g3 w3 => ?_⟩
  exact ⟨_, d, m3, rfl, g3, (hv.mono s2).mono s3, w3⟩
theorem plain_ix {b : Expr} (h : isSlice b = false) : PlainIx b := by
  intro o i
  unfold subscripted
  cases b <;> first | rfl | cases h

/-! ### one step -/
theorem isTrue_plain' {e : Expr} (h : tplain e = true) (env : Env) : ∀ whole, isTrue e env whole = (do let v ← whole; standAt e.pos; holding [v] (truthy v)) := by
  intro whole
  cases e with
  | UnaryOp op a pos => cases op <;> first | rfl | cases h
  | BoolOp _ _ _ => cases h
  | IfExp _ _ _ _ => cases h
  | Compare _ _ _ _ => cases h
  | _ => rfl
theorem notSet_marks {b : Expr} (h : notSet b = true) (op : CmpOp) : behindInMarks op b = false := by
  cases b <;> first | rfl | cases h
theorem chain_out {f1 f2 f3 : Sl → M D} {op op' : CmpOp} (h : TEof W Z (fun ρ => do let x ← f1 ρ; let y ← f2 ρ; chainD G op op' x y (f3 ρ)) σ H Q) :
    tChain (R2of W (cmpO G op)) (R2of W (cmpO G op')) (TEof W Z f1) (TEof W Z f2) (TEof W Z f3) σ H Q := by
  obtain ⟨ρ, m, e, g, rr, w⟩ := h
  refine ⟨ρ, m, e, g, rr, (wpR_bind w).mono (fun _ _ _ _ z => z) fun x m1 s1 g1 w1 v hv => ?_⟩
  refine ⟨ρ, m1, rfl, g1, rr.mono s1, (wpR_bind w1).mono (fun _ _ _ _ z => z) fun y m2 s2 g2 w2 u hu => ?_⟩
  unfold chainD at w2
  refine ⟨EWish W Z σ, x, y, m2, rfl, g2, hv.mono s2, hu, (wpR_bind w2).mono (fun _ _ _ _ z => z) fun z m3 s3 g3 w3 t ht => ?_⟩
  cases z with
  | bl k =>
    cases den_bl ht
    refine ⟨k, rfl, ?_⟩
    cases k with
    | true =>
      rw [if_pos rfl]
      refine ⟨ρ, m3, rfl, g3, ((rr.mono s1).mono s2).mono s3, (wpR_bind w3).mono (fun _ _ _ _ z => z) fun c m4 s4 g4 w4 t2 ht2 => ?_⟩
      exact ⟨_, y, c, m4, rfl, g4, (hu.mono s3).mono s4, ht2, w4⟩
    | false =>
      rw [if_neg Bool.false_ne_true]
      exact out.same (E := EWish W Z σ) w3 g3 (.bl false)
  | _ => exact (show False from w3).elim
theorem pe_cmpE (R : EnOk W r) (ok : EOk W X Z G) (a : Expr) (ops : List CmpOp) (cs : List Expr) (pos : Pos) : PE X (.Compare a ops cs pos) (TEof W Z (cmpE r G a ops cs)) := by
  have none_of : (∀ ρ, cmpE r G a ops cs ρ = stuck) → PE X (.Compare a ops cs pos) (TEof W Z (cmpE r G a ops cs)) := fun z => PE.weak PE.any fun σ H Q h => te_none z h
  match ops, cs with
  | [op], [b] =>
    by_cases hb : notSet b = true
    · exact PE.weak (pe_cmpR (op_cmpO ok op) (R.e ok a) (R.e ok b) (notSet_marks hb op)) fun σ H Q h => te_op (te_if h).2
    · exact PE.weak PE.any fun σ H Q h => hb (te_if h).1
  | [op, op'], [b, c] =>
    by_cases hb : notSet c = true
    · exact PE.weak (pe_chain (op_cmpO ok op) (op_cmpO ok op') (R.e ok a) (R.e ok b) (R.e ok c) (notSet_marks hb op')) fun σ H Q h => chain_out (te_if h).2
    · exact PE.weak PE.any fun σ H Q h => hb (te_if h).1
  | [], _ => exact none_of fun _ => rfl
  | [_], [] => exact none_of fun _ => rfl
  | [_], _ :: _ :: _ => exact none_of fun _ => rfl
  | [_, _], [] => exact none_of fun _ => rfl
  | [_, _], [_] => exact none_of fun _ => rfl
  | [_, _], _ :: _ :: _ :: _ => exact none_of fun _ => rfl
  | _ :: _ :: _ :: _, _ => exact none_of fun _ => rfl
theorem pe_boolE (R : EnOk W r) (ok : EOk W X Z G) (op : BoolOp) (vs : List Expr) (pos : Pos) : PE X (.BoolOp op vs pos) (TEof W Z (boolE r G op vs pos)) := by
  match op, vs with
  | _, [] => exact PE.weak PE.any fun σ H Q h => te_none (f := fun _ => stuck) (fun _ => rfl) h
  | op, [a] => exact pe_one (R.e ok a)
  | .And, a :: b :: rest =>
    refine PE.weak (pe_andT (R.e ok a) (R.e ok (.BoolOp .And (b :: rest) pos))) fun σ H Q h => ?_
    obtain ⟨ρ, m, e, g, rr, w⟩ := h
    refine ⟨ρ, m, e, g, rr, (wpR_bind w).mono (fun _ _ _ _ z => z) fun x m1 s1 g1 w1 v hv => ?_⟩
    obtain ⟨k, h1, h2⟩ := te_truth ok.K g1 hv w1
    refine ⟨k, h1, ?_⟩
    cases k with
    | true => rw [if_pos rfl]; exact ⟨ρ, m1, rfl, g1, rr.mono s1, h2⟩
    | false => rw [if_neg Bool.false_ne_true]; exact out.same (E := EWish W Z σ) (d := x) h2 g1 hv
  | .Or, a :: b :: rest =>
    refine PE.weak (pe_orT (R.e ok a) (R.e ok (.BoolOp .Or (b :: rest) pos))) fun σ H Q h => ?_
    obtain ⟨ρ, m, e, g, rr, w⟩ := h
    refine ⟨ρ, m, e, g, rr, (wpR_bind w).mono (fun _ _ _ _ z => z) fun x m1 s1 g1 w1 v hv => ?_⟩
    obtain ⟨k, h1, h2⟩ := te_truth ok.K g1 hv w1
    refine ⟨k, h1, ?_⟩
    cases k with
    | true => rw [if_pos rfl]; exact out.same (E := EWish W Z σ) (d := x) h2 g1 hv
    | false => rw [if_neg Bool.false_ne_true]; exact ⟨ρ, m1, rfl, g1, rr.mono s1, h2⟩
theorem pe_unE (R : EnOk W r) (ok : EOk W X Z G) (op : UnaryOp) (a : Expr) (pos : Pos) : PE X (.UnaryOp op a pos) (TEof W Z (unE r G op a)) := by
  cases op with
  | USub => exact PE.weak (pe_un un_negD (R.e ok a)) fun σ H Q h => te_un h
  | Not =>
    refine PE.weak (pe_notT (R.e ok a)) fun σ H Q h => ?_
    obtain ⟨ρ, m, e, g, rr, w⟩ := h
    refine ⟨ρ, m, e, g, rr, (wpR_bind w).mono (fun _ _ _ _ z => z) fun x m1 s1 g1 w1 v hv => ?_⟩
    obtain ⟨k, h1, h2⟩ := te_truth ok.K g1 hv w1
    exact ⟨k, h1, out.same (E := EWish W Z σ) (d := .bl (!k)) h2 g1 (.bl _)⟩
  | _ => exact PE.weak PE.any fun σ H Q h => te_none (f := fun _ => stuck) (fun _ => rfl) h
theorem pe_subE (R : EnOk W r) (ok : EOk W X Z G) (a b : Expr) (pos : Pos) : PE X (.Subscript a b pos) (TEof W Z (subE r G a b)) := by
  have plain : isSlice b = false → (∀ ρ, subE r G a b ρ = (do let x ← r.e G a ρ; let y ← r.e G b ρ; ixD x y)) → PE X (.Subscript a b pos) (TEof W Z (subE r G a b)) := fun hb z =>
    PE.weak (pe_ix (ix_D ok.K ok.un) (R.e ok a) (R.e ok b) (plain_ix hb)) fun σ H Q h => te_op (by
      obtain ⟨ρ, m, e, g, rr, w⟩ := h
      exact ⟨ρ, m, e, g, rr, by rw [z] at w; exact w⟩)
  cases b with
  | Slice lo hi st p =>
    cases st with
    | none => exact pe_slD R ok a lo hi p pos
    | some _ => exact PE.weak PE.any fun σ H Q h => te_none (f := fun _ => stuck) (fun _ => rfl) h
  | _ => exact plain rfl fun _ => rfl
theorem pe_lcE (R : EnOk W r) (ok : EOk W X Z G) (elt : Expr) (gs : List Comprehension) (sc : Scope) (pos : Pos) : PE X (.ListComp elt gs sc pos) (TEof W Z (lcE r G elt gs sc pos)) := by
  match gs with
  | [] => exact PE.weak PE.any fun σ H Q h => te_none (f := fun _ => stuck) (fun _ => rfl) h
  | _ :: _ :: _ => exact PE.weak PE.any fun σ H Q h => te_none (f := fun _ => stuck) (fun _ => rfl) h
  | [⟨tg, iter, ifs, k⟩] =>
    by_cases hk : k = 0
    · subst hk
      exact PE.weak (pe_compD R (fun ok tg iter => pi_D R ok tg iter) ok elt tg iter ifs sc pos) fun σ H Q h => h
    · exact PE.weak PE.any fun σ H Q h => hk (te_if h).1
theorem pe_cllE (R : EnOk W r) (ok : EOk W X Z G) (f : Expr) (es : List Expr) (kws : List Keyword) (pos : Pos) : PE X (.Call f es kws pos) (TEof W Z (cllE r G f es kws pos)) := by
  cases kws with
  | nil =>
    cases f with
    | Name x p => exact pe_callD R ok x p es pos
    | Attribute o m p => exact pe_methD R ok o m es p pos
    | _ => exact PE.weak PE.any fun σ H Q h => te_none (f := fun _ => stuck) (fun _ => rfl) h
  | cons _ _ => exact PE.weak PE.any fun σ H Q h => te_none (f := fun _ => stuck) (fun _ => rfl) h
theorem pe_stepE (R : EnOk W r) (ok : EOk W X Z G) (ex : Expr) : PE X ex (TEof W Z (stepE r G ex)) := by
  cases ex with
  | Constant c k pos => exact pe_const ok c k pos
  | Name x pos => exact pe_name ok x pos
  | BinOp a op b pos => exact PE.weak (pe_op (op_binD ok.K op) (R.e ok a) (R.e ok b)) fun σ H Q h => te_op h
  | UnaryOp op a pos => exact pe_unE R ok op a pos
  | BoolOp op vs pos => exact pe_boolE R ok op vs pos
  | Compare a ops cs pos => exact pe_cmpE R ok a ops cs pos
  | IfExp c a b pos =>
    refine PE.weak (pe_ifExp (R.t ok c) (R.e ok a) (R.e ok b)) fun σ H Q h => ?_
    obtain ⟨ρ, m, e, g, rr, w⟩ := h
    refine ⟨ρ, m, e, g, rr, (wpR_bind w).mono (fun _ _ _ _ z => z) fun k m1 s1 g1 w1 => ?_⟩
    cases k with
    | true => rw [if_pos rfl]; exact ⟨ρ, m1, rfl, g1, rr.mono s1, w1⟩
    | false => rw [if_neg Bool.false_ne_true]; exact ⟨ρ, m1, rfl, g1, rr.mono s1, w1⟩
  | Tuple es k pos =>
    by_cases hb : noStar es = true
    · exact PE.weak (pe_tupD R ok hb) fun σ H Q h => (te_if h).2
    · exact PE.weak PE.any fun σ H Q h => hb (te_if h).1
  | List es pos =>
    by_cases hb : noStar es = true
    · exact PE.weak (pe_lstD R ok (n := G.hint pos) hb) fun σ H Q h => (te_if h).2
    · exact PE.weak PE.any fun σ H Q h => hb (te_if h).1
  | Dict ks vs pos => exact pe_dispE R ok ks vs pos
  | Subscript a b pos => exact pe_subE R ok a b pos
  | Call f es kws pos => exact pe_cllE R ok f es kws pos
  | ListComp elt gs sc pos => exact pe_lcE R ok elt gs sc pos
  | _ => exact PE.weak PE.any fun σ H Q h => te_none (f := fun _ => stuck) (fun _ => rfl) h
/-! ### one step of a test -/
theorem tt_none {f : Sl → M Bool} (e : ∀ ρ, f ρ = stuck) : ∀ {σ H P}, TTof W Z f σ H P → False := fun ⟨ρ, m, _, _, _, w⟩ => by rw [e] at w; exact w
theorem pt_plain (R : EnOk W r) (ok : EOk W X Z G) {e : Expr} (h : tplain e = true) : PT X e (TTof W Z fun ρ => do let x ← r.e G e ρ; truthD x) := by
  refine PT.weak (pt_truth (R.e ok e) (isTrue_plain' h X.env)) fun σ H P h => ?_
  obtain ⟨ρ, m, ee, g, rr, w⟩ := h
  refine ⟨ρ, m, ee, g, rr, (wpR_bind w).mono (fun _ _ _ _ z => z) fun x m1 s1 g1 w1 v hv => ?_⟩
  cases q : truthD x m1.μ with
  | stuck => rw [q] at w1; exact w1.elim
  | exc y μ' =>
    exfalso
    unfold truthD at q
    repeat' split at q
    all_goals cases q
  | ok k μ' =>
    rw [q] at w1
    obtain ⟨rfl, h2⟩ := truth_den g1 hv q
    exact ⟨k, by rw [ok.K]; exact h2, w1 m1 (Step.refl m1) g1 rfl⟩
theorem pw_bool {op : BoolOp} {vs : List Expr} {pos : Pos} {t : TT} (h : PT X (.BoolOp op vs pos) t) : PW X (.BoolOp op vs pos) t := ⟨fun _ pins s σ H Q I q => h.run pins s σ H Q I q⟩
theorem pt_stepT (R : EnOk W r) (ok : EOk W X Z G) (ex : Expr) : PT X ex (TTof W Z (stepT r G ex)) := by
  cases ex with
  | UnaryOp op a pos =>
    cases op with
    | Not =>
      refine PT.weak (pt_not (R.t ok a)) fun σ H P h => ?_
      obtain ⟨ρ, m, e, g, rr, w⟩ := h
      exact ⟨ρ, m, e, g, rr, (wpR_bind w).mono (fun _ _ _ _ z => z) fun k m1 s1 g1 w1 => w1 m1 (Step.refl m1) g1 rfl⟩
    | _ => exact pt_plain R ok rfl
  | BoolOp op vs pos =>
    match op, vs with
    | _, [] => exact PT.weak PT.any fun σ H Q h => tt_none (f := fun _ => stuck) (fun _ => rfl) h
    | .And, [a] => exact (pw_and1 (R.t ok a)).pt
    | .Or, [a] => exact (pw_or1 (R.t ok a)).pt
    | .And, a :: b :: rest =>
      refine PT.weak (pw_and (R.t ok a) (pw_bool (R.t ok (.BoolOp .And (b :: rest) pos)))).pt fun σ H P h => ?_
      obtain ⟨ρ, m, e, g, rr, w⟩ := h
      refine ⟨ρ, m, e, g, rr, (wpR_bind w).mono (fun _ _ _ _ z => z) fun k m1 s1 g1 w1 => ?_⟩
      cases k with
      | true => show (if true = true then _ else _); rw [if_pos rfl]; exact ⟨ρ, m1, rfl, g1, rr.mono s1, w1⟩
      | false => show (if false = true then _ else _); rw [if_neg Bool.false_ne_true]; exact w1 m1 (Step.refl m1) g1 rfl
    | .Or, a :: b :: rest =>
      refine PT.weak (pw_or (R.t ok a) (pw_bool (R.t ok (.BoolOp .Or (b :: rest) pos)))).pt fun σ H P h => ?_
      obtain ⟨ρ, m, e, g, rr, w⟩ := h
      refine ⟨ρ, m, e, g, rr, (wpR_bind w).mono (fun _ _ _ _ z => z) fun k m1 s1 g1 w1 => ?_⟩
      cases k with
      | true => show (if true = true then _ else _); rw [if_pos rfl]; exact w1 m1 (Step.refl m1) g1 rfl
      | false => show (if false = true then _ else _); rw [if_neg Bool.false_ne_true]; exact ⟨ρ, m1, rfl, g1, rr.mono s1, w1⟩
  | Compare a ops cs pos =>
    have lift : ∀ {f : Sl → M D} {σ H P}, TTof W Z (fun ρ => do let z ← f ρ; asB z) σ H P → TEof W Z f σ H fun x H' => ∃ k, x = .bl k ∧ P k H' := by
      rintro f σ H P ⟨ρ, m, e, g, rr, w⟩
      refine ⟨ρ, m, e, g, rr, (wpR_bind w).mono (fun _ _ _ _ z => z) fun z m1 s1 g1 w1 v hv => ?_⟩
      cases z with
      | bl k => cases den_bl hv; exact ⟨k, rfl, w1 m1 (Step.refl m1) g1 rfl⟩
      | _ => exact (show False from w1).elim
    match ops, cs with
    | [op], [b] =>
      by_cases hb : notSet b = true
      · exact PT.weak (pt_cmpR (op_cmpO ok op) (R.e ok a) (R.e ok b) (notSet_marks hb op)) fun σ H Q h => te_op (te_if (lift h)).2
      · exact PT.weak PT.any fun σ H Q h => hb (te_if (lift h)).1
    | [op, op'], [b, c] =>
      by_cases hb : notSet c = true
      · exact PT.weak (pt_chain (op_cmpO ok op) (op_cmpO ok op') (R.e ok a) (R.e ok b) (R.e ok c) (notSet_marks hb op')) fun σ H Q h => chain_out (te_if (lift h)).2
      · exact PT.weak PT.any fun σ H Q h => hb (te_if (lift h)).1
    | [], _ => exact PT.weak PT.any fun σ H Q h => te_none (f := fun _ => stuck) (fun _ => rfl) (lift h)
    | [_], [] => exact PT.weak PT.any fun σ H Q h => te_none (f := fun _ => stuck) (fun _ => rfl) (lift h)
    | [_], _ :: _ :: _ => exact PT.weak PT.any fun σ H Q h => te_none (f := fun _ => stuck) (fun _ => rfl) (lift h)
    | [_, _], [] => exact PT.weak PT.any fun σ H Q h => te_none (f := fun _ => stuck) (fun _ => rfl) (lift h)
    | [_, _], [_] => exact PT.weak PT.any fun σ H Q h => te_none (f := fun _ => stuck) (fun _ => rfl) (lift h)
    | [_, _], _ :: _ :: _ :: _ => exact PT.weak PT.any fun σ H Q h => te_none (f := fun _ => stuck) (fun _ => rfl) (lift h)
    | _ :: _ :: _ :: _, _ => exact PT.weak PT.any fun σ H Q h => te_none (f := fun _ => stuck) (fun _ => rfl) (lift h)
  | IfExp c a b pos => exact PT.weak PT.any fun σ H Q h => tt_none (f := fun _ => stuck) (fun _ => rfl) h
  | _ => exact pt_plain R ok rfl
end
end Pu

set_option Elab.async false
set_option linter.all false
set_option maxRecDepth 100000
/-! Pu15: set(text), set(list of texts), sorted of it. -/
namespace Pu
open PySem PySem.Spec PyProof.Rows L2 PySem.Froz
/-- the table's places rise; the walk is by the text or led -/
structure TabR (w : World) (D : SD) : Prop where
  ris : Ris D.2.2.place.toList
  led : w.params.followText "set-order" = true ∨ D.2.2.led = true
theorem tab_add {w : World} {D : SD} (h : Int) (v : Value) (T : TabR w D) : TabR w (addTx h v D) := by
  obtain ⟨es, ep, t⟩ := D
  have r1 := layNew_ris t es h v T.ris
  have l1 := layNew_led t es h v
  show TabR w (tailTx ep (layNew t es h v).1 (if (layNew t es h v).2.1.plain = true then { (layNew t es h v).2.1 with plain := false } else (layNew t es h v).2.1) (layNew t es h v).2.2.1)
  generalize hz : (if (layNew t es h v).2.1.plain = true then { (layNew t es h v).2.1 with plain := false } else (layNew t es h v).2.1) = t2
  have r2 : Ris t2.place.toList := by
    rw [← hz]
    split
    · exact r1
    · exact r1
  have l2 : t2.led = t.led := by
    rw [← hz]
    split
    · exact l1
    · exact l1
  unfold tailTx
  split
  · refine ⟨relayAll_ris _ _ _, T.led.imp_right fun z => ?_⟩
    rw [relayAll_led, l2]
    exact z
  · exact ⟨r2, T.led.imp_right fun z => l2.trans z⟩
/-- the set at a holds just the texts ks -/
def SetX0 (P : Program) (w : World) (a : Addr) (ks : List Str) (h : Heap) : Prop := ∃ (D : SD) (l : List Str), h.get? a = some (sObj "set" D) ∧ TxOk P w D l ∧ TabR w D ∧ l.Nodup ∧ l.length ≤ ks.length ∧ ∀ k, k ∈ l ↔ k ∈ ks
def TxtAt (ks : List Str) (i : Nat) (v : Value) : Prop := ∃ k u, ks[i]? = some k ∧ v = Value.str k u
theorem walks_imp {prog : Program} {w : World} {A : Around} {I : Addr} {fp wr : List Addr} {n : Nat} {P P' : Nat → Value → Prop} {St : Nat → Heap → Prop} (V : Walks prog w A I fp wr n P St) (h : ∀ i v, P i v → P' i v) : Walks prog w A I fp wr n P' St where
  sub := V.sub
  frame := V.frame
  item := fun i s Q E hi st hQ => V.item i s Q E hi st fun v h' tk p => hQ v h' tk (h i v p)
  done := V.done
  self := V.self
section
variable {P : Program} {w : World} {A : Around} {E : Value → Shared → Prop} {s : Shared}
theorem old_x {a : Addr} {T : String} {D : SD} {l : List Str} {k : Str} {u : Tok} {Q : Bool → Shared → Prop} (ho : s.heap.get? a = some (sObj T D)) (F : TxOk P w D l) (hk : k ∈ l) (hb : l.length < scanBound) (h : Q false s) :
    wpAny (model P w) A (setAddHashed a (.str k u) (hashStr w k)) Q E s := by
  obtain ⟨es, ep, t⟩ := D
  have e1 : (sObj T (es, ep, t)).data = .set es ep t := rfl
  have e2 : (strKind P w).is k (.str k u) = true := is_str k u
  have e3 : ElemsOf (strKind P w) es.toList := F.el
  have e4 : es.size < scanBound := by rw [show es.size = l.length from F.sz]; exact hb
  unfold setAddHashed setAddHashedIn
  refine wpAny_holding (wpAny_bind (wpAny_setState_of ho e1 F.fit ?_))
  dsimp only
  rw [byScan_of rfl e4 e3]
  simp only [↓reduceIte]
  unfold setAddByScan
  refine wpAny_bind (wpAny_bind (wpAny_rule (wpAny_bind (wpAny_setScan_of (knd := strKind P w) (k := k) e2 ho e1 F.fit e3 ?_))))
  cases hr : List.findIdx? (fun e => (strKind P w).is k e.2) es.toList with
  | none =>
    obtain ⟨e, he, q⟩ := (F.mem k).mp hk
    have z := List.findIdx?_eq_none_iff.mp hr e he
    rw [q] at z
    cases z
  | some j => exact wpAny_pure (wpAny_pure h)
theorem take_at {ks : List Str} {i : Nat} {k : Str} (h : ks[i]? = some k) : ks.take (i + 1) = ks.take i ++ [k] := by
  rw [List.take_add_one, h]
  rfl
variable {R : Result → Shared → Prop} {I : Addr} {fp wr : List Addr} {ks : List Str} {St : Nat → Heap → Prop} {a : Addr}
theorem upd_loop (V : Walks P w A.in1 I fp wr ks.length (TxtAt ks) St) (ha : a ∉ fp) (hb : ks.length + 1 < scanBound) : ∀ (m i : Nat) (s : Shared), ks.length - i = m → i ≤ ks.length → St i s.heap → SetX0 P w a (ks.take i) s.heap →
    (∀ h' tk, (∀ b o, b ∉ wr → b ≠ a → s.heap.get? b = some o → h'.get? b = some o) → SetX0 P w a ks h' → R (.ok (.ret .none)) { s with heap := h', toks := tk }) →
    codeAny (model P w) A (.builtin "set.update.loop" ⟨[.ref a, .ref I], []⟩) R s := by
  have haw : a ∉ wr := fun z => ha (V.sub _ z)
  intro m
  induction m with
  | zero =>
    intro i s hm hi hst hS hR
    have ei : i = ks.length := by omega
    refine codeAny_builtin PyProof.Rows.F.entry_set_update_loop ?_
    rw [Around.under_plainId PyProof.Rows.F.plain_set_update_loop]
    refine wpAny_bind (m := pyNext (.ref I)) (V.done s _ _ (by rw [← ei]; exact hst) fun h' tk kp => ?_)
    refine wpAny_pure (hR h' tk (fun b o q _ e => kp b o q e) ?_)
    obtain ⟨D, l, e, r⟩ := hS
    rw [ei, List.take_length] at r
    exact ⟨D, l, kp a _ haw e, r⟩
  | succ m ih =>
    intro i s hm hi hst hS hR
    have hlt : i < ks.length := by omega
    refine codeAny_builtin PyProof.Rows.F.entry_set_update_loop ?_
    rw [Around.under_plainId PyProof.Rows.F.plain_set_update_loop]
    refine wpAny_bind (m := pyNext (.ref I)) (V.item i s _ _ hlt hst fun v h' tk hP hst' kp => ?_)
    obtain ⟨c, u, hc, rfl⟩ := hP
    obtain ⟨D, l, e, F, T, nd, len, mem⟩ := hS
    have ea := kp a _ haw e
    have tk1 := take_at hc
    have hl : l.length ≤ i := Nat.le_trans len (by rw [List.length_take]; exact Nat.min_le_left _ _)
    refine wpAny_bind (m := holding [Value.str c u] (setAdd a (.str c u))) (wpAny_holding ?_)
    unfold setAdd
    refine wpAny_holding (wpAny_bind ((strKind P w).pyHash (k := c) (is_str _ _) ?_))
    by_cases hm : c ∈ l
    · refine old_x (s := { s with heap := h', toks := tk + 1 }) ea F hm (by omega) ?_
      refine wpAny_pure ⟨plainId_quiet PyProof.Rows.F.plain_set_update_loop _, ih (i + 1) { s with heap := h', toks := tk + 1 } (by omega) hlt hst' ⟨D, l, ea, F, T, nd, ?_, fun k => ?_⟩ fun h2 tk2 kp2 => hR h2 tk2 fun b o q1 q2 e => kp2 b o q1 q2 (kp b o q1 e)⟩
      · rw [tk1, List.length_append]
        exact Nat.le_trans len (Nat.le_add_right _ _)
      · rw [mem k, tk1]
        constructor
        · exact fun h1 => List.mem_append_left _ h1
        · intro h1
          rcases List.mem_append.mp h1 with h1 | h1
          · exact h1
          · rw [List.mem_singleton] at h1
            subst h1
            exact (mem _).mp hm
    · refine add_x (s := { s with heap := h', toks := tk + 1 }) ea F hm (by omega) ?_
      have ea2 : (h'.update a (fun _ => sObj "set" (addTx (hashStr w c) (.str c u) D))).get? a = some (sObj "set" (addTx (hashStr w c) (.str c u) D)) := get_upd _ ea rfl
      have oth : ∀ b o, b ≠ a → h'.get? b = some o → (h'.update a (fun _ => sObj "set" (addTx (hashStr w c) (.str c u) D))).get? b = some o := fun b o q e => PySem.Heap.get?_update_of_ne _ (Ne.symm q) e
      refine wpAny_pure ⟨plainId_quiet PyProof.Rows.F.plain_set_update_loop _, ih (i + 1) { s with heap := h'.update a (fun _ => sObj "set" (addTx (hashStr w c) (.str c u) D)), toks := tk + 1 } (by omega) hlt
        (V.frame _ _ _ hst' fun b hb o e => oth b o (fun z => ha (z ▸ hb)) e) ⟨_, c :: l, ea2, add_ok u F, tab_add _ _ T, List.nodup_cons.mpr ⟨hm, nd⟩, ?_, fun k => ?_⟩ fun h2 tk2 kp2 => hR h2 tk2 fun b o q1 q2 e => kp2 b o q1 q2 (oth b o q2 (kp b o q1 e))⟩
      · rw [tk1, List.length_append]
        exact Nat.succ_le_succ len
      · rw [List.mem_cons, mem k, tk1, List.mem_append, List.mem_singleton]
        exact Or.comm
end
section
variable {P : Program} {w : World} {A : Around} {E : Value → Shared → Prop} {s : Shared}
abbrev emptyX (w : World) : Obj := { cls := .type "set", dict := none, data := .set #[] 0 (.fresh 0 0 (!w.params.followText "set-order")) }
theorem empty_ok {h : Heap} {a : Addr} (e : h.get? a = some (emptyX w)) : SetX0 P w a [] h := by
  refine ⟨(#[], 0, .fresh 0 0 (!w.params.followText "set-order")), [], e, TxOk.nil rfl, ⟨List.Pairwise.nil, ?_⟩, List.nodup_nil, Nat.le_refl _, fun k => by simp⟩
  cases q : w.params.followText "set-order" with
  | true => exact .inl rfl
  | false => exact .inr rfl
set_option maxHeartbeats 3200000 in
theorem call_set_text {x : Str} {u : Tok} {Q : Value → Shared → Prop} (hh : A.handled = none) (hb : x.cps.size + 1 < scanBound)
    (h : ∀ (h' : Heap) (tk : Nat), SetX0 P w s.heap.objs.size (x.cps.toList.map sing) h' → (∀ b o, s.heap.get? b = some o → h'.get? b = some o) → Q (.ref s.heap.objs.size) { s with heap := h', toks := tk }) :
    wpAny (model P w) A (call (.type "set") [.str x u]) Q E s := by
  obtain ⟨_, _, hmro⟩ := F.called_set.mro
  have g1 := F.called_set.made
  have g2 := F.called_set.sub
  refine wpAny_call (codeAny_of_tree (wpAny_pure ⟨Code.quiet_builtin _ (by decide +kernel), codeAny_builtin F.entry_type_call ?_⟩))
  rw [Around.under_plain (weight_type_call_type "set" [.str x u] []) rfl]
  have g3 := F.called_set.notType
  have g4 := F.called_set.canCreate
  have g5 := F.typeCall_set_1 (.str x u)
  repeat (any_goals (first | assumption | wp_step))
  refine codeAny_mono (code_set_led1 (.str x u) (E := E) (Q₁ := fun obj s₁ => obj = .ref s.heap.objs.size ∧ s₁ = { s with heap := s.heap.push (emptyX w) }) ⟨rfl, rfl⟩) fun r s₁ hr => ?_
  match r, hr with
  | .error e, hr => exact hr
  | .ok .next, hr => exact hr.elim
  | .ok .brk, hr => exact hr.elim
  | .ok .cont, hr => exact hr.elim
  | .ok (.ret obj), hr =>
    obtain ⟨rfl, rfl⟩ := hr
    have hS : (s.heap.push (emptyX w)).get? s.heap.objs.size = some (emptyX w) := Heap.get?_push_size _ rfl
    have hT : Shared.TypeIs { s with heap := s.heap.push (emptyX w) } (.ref s.heap.objs.size) "set" := ⟨_, hS, rfl⟩
    have g6 := F.called_set.init.lookup
    have g7 := F.called_set.init.bind (.ref s.heap.objs.size)
    repeat (any_goals (first | assumption | wp_step))
    refine codeAny_mono (codeAny_call_builtin (R := wants (fun r s₂ => r = .none ∧ ∃ h' tk, s₂ = { s with heap := h', toks := tk } ∧ SetX0 P w s.heap.objs.size (x.cps.toList.map sing) h' ∧ (∀ b o, s.heap.get? b = some o → h'.get? b = some o)) E) F.called_set.init.plain F.entry_set_init (check_set_init_1 hT ?_)) fun r₂ s₂ hr₂ => ?_
    · have g8 := F.sub_str_set
      have g9 := F.sub_str_frozenset
      have g10 : (Value.type "str" == Value.type "dict") = false := by decide
      unfold Builtin.«set.__init__» noKeywords Builtin.Frozenset.updateFrom
      generalize hPI : pyIter = PI
      wp_walk
      subst hPI
      refine wpAny_pyIter_str fun o St hW hst => ?_
      refine wpAny_bind (wpAny_runValue ?_)
      have z1 : (s.heap.push (emptyX w)).objs.size = s.heap.objs.size + 1 := Heap.size_push ..
      have ne : s.heap.objs.size ∉ [(s.heap.push (emptyX w)).objs.size] := by
        rw [z1, List.mem_singleton]
        omega
      have hW2 : Walks P w A.in1.in1.in1 (s.heap.push (emptyX w)).objs.size [(s.heap.push (emptyX w)).objs.size] [(s.heap.push (emptyX w)).objs.size] (x.cps.toList.map sing).length (TxtAt (x.cps.toList.map sing)) St := by
        rw [List.length_map, Array.length_toList]
        refine walks_imp (hW _ (by simp [hh])) fun i v hv => ?_
        obtain ⟨c, u, hc, e⟩ := hv
        exact ⟨sing c, u, by rw [List.getElem?_map, Array.getElem?_toList, hc]; rfl, e⟩
      refine upd_loop hW2 ne (by rw [List.length_map, Array.length_toList]; exact hb) _ 0 { s with heap := (s.heap.push (emptyX w)).push o } rfl (Nat.zero_le _) hst (empty_ok (Heap.get?_push_of_some _ hS)) fun h' tk kp hx => ?_
      refine wpAny_pure (wpAny_pure ⟨rfl, h', tk, rfl, hx, fun b ob e => kp b ob ?_ (Nat.ne_of_lt (Heap.lt_size e)) (Heap.get?_push_of_some _ (Heap.get?_push_of_some _ e))⟩)
      rw [z1, List.mem_singleton]
      exact Nat.ne_of_lt (Nat.lt_succ_of_lt (Heap.lt_size e))
    · match r₂, hr₂ with
      | .error e, hr₂ => exact hr₂
      | .ok .next, hr₂ => exact hr₂.elim
      | .ok .brk, hr₂ => exact hr₂.elim
      | .ok .cont, hr₂ => exact hr₂.elim
      | .ok (.ret r), hr₂ =>
        obtain ⟨rfl, h', tk, rfl, hx, kp⟩ := hr₂
        repeat (any_goals (first | assumption | wp_step))
        exact h _ _ hx kp
theorem strsAre_len : ∀ {vs : List Value} {ss : List Str}, StrsAre vs ss → ss.length = vs.length
  | _, _, .nil => rfl
  | _, _, .cons _ _ r => congrArg (· + 1) (strsAre_len r)
theorem strsAre_at : ∀ {vs : List Value} {ss : List Str}, StrsAre vs ss → ∀ (i : Nat) (v : Value), vs[i]? = some v → ∃ k u, ss[i]? = some k ∧ v = Value.str k u
  | _, _, .nil, i, v, h => by simp at h
  | _, _, .cons y t r, 0, v, h => by cases h; exact ⟨y, t, rfl, rfl⟩
  | _, _, .cons y t r, i + 1, v, h => strsAre_at r i v h
set_option maxHeartbeats 3200000 in
theorem call_set_strs {l : Addr} {items : Array Value} {ks : List Str} {Q : Value → Shared → Prop} (hh : A.handled = none) (hl : s.heap.IsList l items) (hks : StrsAre items.toList ks) (hb : ks.length + 1 < scanBound)
    (h : ∀ (h' : Heap) (tk : Nat), SetX0 P w s.heap.objs.size ks h' → (∀ b o, s.heap.get? b = some o → h'.get? b = some o) → Q (.ref s.heap.objs.size) { s with heap := h', toks := tk }) :
    wpAny (model P w) A (call (.type "set") [.ref l]) Q E s := by
  obtain ⟨_, _, hmro⟩ := F.called_set.mro
  have g1 := F.called_set.made
  have g2 := F.called_set.sub
  refine wpAny_call (codeAny_of_tree (wpAny_pure ⟨Code.quiet_builtin _ (by decide +kernel), codeAny_builtin F.entry_type_call ?_⟩))
  rw [Around.under_plain (weight_type_call_type "set" [.ref l] []) rfl]
  have g3 := F.called_set.notType
  have g4 := F.called_set.canCreate
  have g5 := F.typeCall_set_1 (.ref l)
  repeat (any_goals (first | assumption | wp_step))
  refine codeAny_mono (code_set_led1 (.ref l) (E := E) (Q₁ := fun obj s₁ => obj = .ref s.heap.objs.size ∧ s₁ = { s with heap := s.heap.push (emptyX w) }) ⟨rfl, rfl⟩) fun r s₁ hr => ?_
  match r, hr with
  | .error e, hr => exact hr
  | .ok .next, hr => exact hr.elim
  | .ok .brk, hr => exact hr.elim
  | .ok .cont, hr => exact hr.elim
  | .ok (.ret obj), hr =>
    obtain ⟨rfl, rfl⟩ := hr
    have hS : (s.heap.push (emptyX w)).get? s.heap.objs.size = some (emptyX w) := Heap.get?_push_size _ rfl
    have hT : Shared.TypeIs { s with heap := s.heap.push (emptyX w) } (.ref s.heap.objs.size) "set" := ⟨_, hS, rfl⟩
    have g6 := F.called_set.init.lookup
    have g7 := F.called_set.init.bind (.ref s.heap.objs.size)
    repeat (any_goals (first | assumption | wp_step))
    refine codeAny_mono (codeAny_call_builtin (R := wants (fun r s₂ => r = .none ∧ ∃ h' tk, s₂ = { s with heap := h', toks := tk } ∧ SetX0 P w s.heap.objs.size ks h' ∧ (∀ b o, s.heap.get? b = some o → h'.get? b = some o)) E) F.called_set.init.plain F.entry_set_init (check_set_init_1 hT ?_)) fun r₂ s₂ hr₂ => ?_
    · obtain ⟨ol, hol, hcl, nl, hdl⟩ := hl
      obtain ⟨ocls, odict, odata, oslots⟩ := ol
      simp only at hcl hdl
      subst hcl; subst hdl
      have hol' : (s.heap.push (emptyX w)).get? l = some { cls := .type "list", dict := odict, data := .seq items nl, slots := oslots } := Heap.get?_push_of_some _ hol
      have g8 := F.sub_list_set
      have g9 := F.sub_list_frozenset
      have g10 : (Value.type "list" == Value.type "dict") = false := by decide
      have hl1 : (s.heap.push (emptyX w)).IsList l items := ⟨_, hol', rfl, nl, rfl⟩
      unfold Builtin.«set.__init__» noKeywords Builtin.Frozenset.updateFrom
      generalize hPI : pyIter = PI
      wp_walk
      subst hPI
      refine wpAny_pyIter_list hl1 ?_
      refine wpAny_bind (wpAny_runValue ?_)
      have z1 : (s.heap.push (emptyX w)).objs.size = s.heap.objs.size + 1 := Heap.size_push ..
      have hlS : l < s.heap.objs.size := Heap.lt_size hol
      have ne : s.heap.objs.size ∉ [(s.heap.push (emptyX w)).objs.size, l] := by
        rw [z1]
        simp only [List.mem_cons, List.not_mem_nil, or_false, not_or]
        exact ⟨Nat.ne_of_lt (Nat.lt_succ_self _), Nat.ne_of_gt hlS⟩
      have hneI : l ≠ (s.heap.push (emptyX w)).objs.size := by rw [z1]; exact Nat.ne_of_lt (Nat.lt_succ_of_lt hlS)
      have hlen : items.size = ks.length := by rw [← Array.length_toList]; exact (strsAre_len hks).symm
      have hW2 : Walks P w A.in1.in1.in1 (s.heap.push (emptyX w)).objs.size [(s.heap.push (emptyX w)).objs.size, l] [(s.heap.push (emptyX w)).objs.size] ks.length (TxtAt ks) (fun i h => h.IsListIter (s.heap.push (emptyX w)).objs.size l i ∧ h.IsList l items) := by
        rw [← hlen]
        refine walks_imp (Walks.list (by simp [hh]) _ l hneI items) fun i v hv => ?_
        obtain ⟨k, u, e1, e2⟩ := strsAre_at hks i v (by rw [Array.getElem?_toList]; exact hv)
        exact ⟨k, u, e1, e2⟩
      refine upd_loop hW2 ne hb _ 0 { s with heap := (s.heap.push (emptyX w)).push { cls := .type "list_iterator", data := .fields #[.ref l, .int 0 0] } } rfl (Nat.zero_le _) ⟨⟨_, Heap.get?_push_size _ rfl, rfl, rfl⟩, ⟨_, Heap.get?_push_of_some _ hol', rfl, nl, rfl⟩⟩ (empty_ok (Heap.get?_push_of_some _ hS)) fun h' tk kp hx => ?_
      refine wpAny_pure (wpAny_pure ⟨rfl, h', tk, rfl, hx, fun b ob e => kp b ob ?_ (Nat.ne_of_lt (Heap.lt_size e)) (Heap.get?_push_of_some _ (Heap.get?_push_of_some _ e))⟩)
      rw [z1, List.mem_singleton]
      exact Nat.ne_of_lt (Nat.lt_succ_of_lt (Heap.lt_size e))
    · match r₂, hr₂ with
      | .error e, hr₂ => exact hr₂
      | .ok .next, hr₂ => exact hr₂.elim
      | .ok .brk, hr₂ => exact hr₂.elim
      | .ok .cont, hr₂ => exact hr₂.elim
      | .ok (.ret r), hr₂ =>
        obtain ⟨rfl, h', tk, rfl, hx, kp⟩ := hr₂
        repeat (any_goals (first | assumption | wp_step))
        exact h _ _ hx kp
end
end Pu

set_option Elab.async false
set_option linter.all false
set_option maxRecDepth 100000
/-! Pu16: sorted(set(text)) as one expression; the den once more with it. -/
namespace Pu
open PySem PySem.Spec PyProof.Rows L2 PySem.Froz
/-! ### the plain part: rising lists of texts -/
abbrev ltS (a b : Str) : Bool := decide (a.cps.toList < b.cps.toList)
theorem ltS_irr (a : Str) : ltS a a = false := by simpa using List.lt_irrefl a.cps.toList
theorem ltS_trans {a b c : Str} (h1 : ltS a b = true) (h2 : ltS b c = true) : ltS a c = true := by
  simp only [ltS, decide_eq_true_eq] at *
  exact List.lt_trans h1 h2
theorem str_ext {a b : Str} (h : a.cps.toList = b.cps.toList) : a = b := by
  have hc : a.cps = b.cps := Array.toList_inj.mp h
  cases a; cases b
  simp only [Str.mk.injEq]
  exact hc
theorem ltS_tot {a b : Str} (h1 : ltS a b = false) (h2 : ltS b a = false) : a = b := by
  simp only [ltS, decide_eq_false_iff_not] at *
  exact str_ext (List.le_antisymm (List.not_lt.mp h2) (List.not_lt.mp h1))
def insS (c : Str) : List Str → List Str
  | [] => [c]
  | x :: r => if ltS c x = true then c :: x :: r else if c = x then x :: r else x :: insS c r
def sortS (l : List Str) : List Str := l.foldr insS []
abbrev RisS (l : List Str) : Prop := l.Pairwise fun x y => ltS x y = true
theorem mem_insS {c k : Str} : ∀ l, k ∈ insS c l ↔ k = c ∨ k ∈ l
  | [] => by simp [insS]
  | x :: r => by
    unfold insS
    split
    · simp
    · split
      · rename_i e
        subst e
        simp
      · simp only [List.mem_cons, mem_insS r]
        constructor
        · rintro (h | h | h)
          · exact .inr (.inl h)
          · exact .inl h
          · exact .inr (.inr h)
        · rintro (h | h | h)
          · exact .inr (.inl h)
          · exact .inl h
          · exact .inr (.inr h)
theorem ris_insS {c : Str} : ∀ l : List Str, RisS l → RisS (insS c l)
  | [], _ => by simp [insS]
  | x :: r, h => by
    obtain ⟨h1, h2⟩ := List.pairwise_cons.mp h
    unfold insS
    split
    · rename_i lt
      exact List.pairwise_cons.mpr ⟨fun y hy => (List.mem_cons.mp hy).elim (fun e => e ▸ lt) fun e => ltS_trans lt (h1 y e), h⟩
    · rename_i nlt
      split
      · exact h
      · rename_i ne
        refine List.pairwise_cons.mpr ⟨fun y hy => ?_, ris_insS r h2⟩
        rcases (mem_insS r).mp hy with e | e
        · subst e
          cases q : ltS x y with
          | true => rfl
          | false => exact absurd (ltS_tot (by simpa using nlt) q) ne
        · exact h1 y e
theorem mem_sortS {k : Str} : ∀ l, k ∈ sortS l ↔ k ∈ l
  | [] => Iff.rfl
  | x :: r => by
    show k ∈ insS x (sortS r) ↔ _
    rw [mem_insS, mem_sortS r, List.mem_cons]
theorem ris_sortS : ∀ l : List Str, RisS (sortS l)
  | [] => List.Pairwise.nil
  | x :: r => ris_insS _ (ris_sortS r)
theorem ris_uniqS : ∀ l m : List Str, RisS l → RisS m → (∀ k, k ∈ l ↔ k ∈ m) → l = m
  | [], [], _, _, _ => rfl
  | [], y :: m, _, _, h => absurd ((h y).mpr List.mem_cons_self) List.not_mem_nil
  | x :: l, [], _, _, h => absurd ((h x).mp List.mem_cons_self) List.not_mem_nil
  | x :: l, y :: m, h1, h2, h => by
    obtain ⟨a1, a2⟩ := List.pairwise_cons.mp h1
    obtain ⟨b1, b2⟩ := List.pairwise_cons.mp h2
    have e : x = y := by
      rcases List.mem_cons.mp ((h x).mp List.mem_cons_self) with e | e
      · exact e
      · rcases List.mem_cons.mp ((h y).mpr List.mem_cons_self) with e' | e'
        · exact e'.symm
        · have z := ltS_trans (b1 x e) (a1 y e')
          rw [ltS_irr] at z
          cases z
    subst e
    refine congrArg (x :: ·) (ris_uniqS l m a2 b2 fun k => ?_)
    have hk := h k
    simp only [List.mem_cons] at hk
    constructor
    · intro z
      rcases hk.mp (.inr z) with q | q
      · subst q; have z := a1 k z; rw [ltS_irr] at z; cases z
      · exact q
    · intro z
      rcases hk.mpr (.inr z) with q | q
      · subst q; have z := b1 k z; rw [ltS_irr] at z; cases z
      · exact q
theorem rising_ris : ∀ (r : List Str) (c : Str), risingS c r = true → (c :: r).Nodup → RisS (c :: r)
  | [], c, _, _ => List.pairwise_singleton ..
  | d :: r, c, h, nd => by
    have h' : (!ltCps d.cps.toList c.cps.toList && risingS d r) = true := h
    rw [Bool.and_eq_true, Bool.not_eq_true', ltCps_eq] at h'
    obtain ⟨n1, n2⟩ := List.nodup_cons.mp nd
    have ih := rising_ris r d h'.2 n2
    have lt : ltS c d = true := by
      cases q : ltS c d with
      | true => rfl
      | false => exact absurd (ltS_tot q h'.1) fun z => n1 (z ▸ List.mem_cons_self)
    obtain ⟨p1, p2⟩ := List.pairwise_cons.mp ih
    exact List.pairwise_cons.mpr ⟨fun y hy => (List.mem_cons.mp hy).elim (fun e => e ▸ lt) fun e => ltS_trans lt (p1 y e), ih⟩
theorem sort_uniq {ys ks : List Str} (h1 : sortedS ys = true) (h2 : ys.Nodup) (h3 : ∀ k, k ∈ ys ↔ k ∈ ks) : ys = sortS ks := by
  refine ris_uniqS ys _ ?_ (ris_sortS ks) fun k => by rw [h3, mem_sortS]
  cases ys with
  | nil => exact List.Pairwise.nil
  | cons c r => exact rising_ris r c h1 h2
/-! ### the machine's part -/
theorem strs_of {P : Program} {w : World} {D : SD} {l : List Str} (F : TxOk P w D l) : ∀ (vs : List Value), (∀ v ∈ vs, ∃ e ∈ D.1.toList, e.2 = v) → ∃ ss, StrsAre vs ss ∧ ∀ x ∈ ss, x ∈ l
  | [], _ => ⟨[], .nil, fun _ z => nomatch z⟩
  | v :: vs, h => by
    obtain ⟨ss, h1, h2⟩ := strs_of F vs fun u hu => h u (List.mem_cons_of_mem _ hu)
    obtain ⟨e, he, q⟩ := h v List.mem_cons_self
    obtain ⟨⟨k, z1, _⟩, _⟩ := F.el e he
    obtain ⟨t, z2⟩ := Value.isStrOf_shape (x := k) (v := e.2) z1
    rw [← q, z2]
    exact ⟨k :: ss, .cons k t h1, fun x hx => (List.mem_cons.mp hx).elim (fun z => z ▸ (F.mem k).mpr ⟨e, he, z1⟩) (h2 x)⟩
theorem strs_mem : ∀ {vs : List Value} {ss : List Str}, StrsAre vs ss → ∀ (k : Str) (t : Tok), Value.str k t ∈ vs → k ∈ ss
  | _, _, .nil, _, _, h => nomatch h
  | _, _, .cons y u r, k, t, h => by
    rcases List.mem_cons.mp h with e | e
    · cases e; exact List.mem_cons_self
    · exact List.mem_cons_of_mem _ (strs_mem r k t e)
theorem strs_len : ∀ {vs : List Value} {ss : List Str}, StrsAre vs ss → ss.length = vs.length
  | _, _, .nil => rfl
  | _, _, .cons _ _ r => congrArg (· + 1) (strs_len r)
theorem perm_len : ∀ (l ss : List Str), l.Nodup → (∀ k ∈ l, k ∈ ss) → ss.length ≤ l.length → ss.Perm l
  | [], ss, _, _, e => by
    rw [List.eq_nil_of_length_eq_zero (Nat.le_zero.mp e)]
  | x :: l, ss, nd, sub, e => by
    obtain ⟨n1, n2⟩ := List.nodup_cons.mp nd
    have hx := sub x List.mem_cons_self
    have p := List.perm_cons_erase hx
    refine p.trans ((perm_len l (ss.erase x) n2 (fun k hk => ?_) ?_).cons x)
    · exact (List.mem_erase_of_ne (fun z : k = x => n1 (z ▸ hk))).mpr (sub k (List.mem_cons_of_mem _ hk))
    · have := p.length_eq
      simp only [List.length_cons] at this e
      omega
theorem len_insS {c : Str} : ∀ l, (insS c l).length ≤ l.length + 1
  | [] => Nat.le_refl _
  | x :: r => by
    unfold insS
    split
    · exact Nat.le_refl _
    · split
      · exact Nat.le_succ _
      · exact Nat.succ_le_succ (len_insS r)
theorem len_sortS : ∀ l, (sortS l).length ≤ l.length
  | [] => Nat.le_refl _
  | x :: r => Nat.le_trans (len_insS _) (Nat.succ_le_succ (len_sortS r))
section
variable {P : Program} {w : World} {A : Around} {E : Value → Shared → Prop} {s : Shared}
theorem sorted_setX {a : Addr} {cs : List Str} {Q : Value → Shared → Prop} (R : SetX0 P w a cs s.heap) (hh : A.handled = none) (h64 : cs.length < 64)
    (hQ : ∀ s' p (out : Array Value) (c : Nat), (∀ b o, s.heap.get? b = some o → s'.heap.get? b = some o) → s'.gens = s.gens → s'.os = s.os → s.heap.objs.size ≤ p →
      s'.heap.get? p = some (seqObj "list" out c) → StrsAre out.toList (sortS cs) → Q (.ref p) s') :
    wpAny (model P w) A (call (.builtin "sorted") [.ref a]) Q E s := by
  obtain ⟨D, l, ho, F, T, nd, len, mem⟩ := R
  obtain ⟨es, ep, t⟩ := D
  have hs : es.size = l.length := F.sz
  refine Calls.call_function_entry kind_sorted plain_sorted entry_sorted (args_sorted1 (.ref a)) ?_
  unfold Builtin.«sorted»
  refine wpAny_bind (m := checkCount "sorted" 1 1 _) (wpAny_pure (wpAny_bind (collect_set (A := A.in1) hh ⟨_, ho, rfl, rfl⟩ F.fit (by show es.size < scanBound; unfold scanBound; omega) T.ris T.led fun s1 vs k1 hz g1 o1 pm => ?_)))
  have lv : vs.length = l.length := by rw [pm.length_eq, List.length_map, Array.length_toList, hs]
  obtain ⟨ss, hS, hsub⟩ := strs_of F vs fun v hv => by
    obtain ⟨e, he, q⟩ := List.mem_map.mp (pm.mem_iff.mp hv)
    exact ⟨e, he, q⟩
  have hmem : ∀ k ∈ l, k ∈ ss := fun k hk => by
    obtain ⟨e, he, q⟩ := (F.mem k).mp hk
    obtain ⟨u, z⟩ := Value.isStrOf_shape (x := k) (v := e.2) q
    exact strs_mem hS k u (pm.mem_iff.mpr (List.mem_map.mpr ⟨e, he, z⟩))
  have ndS : ss.Nodup := (perm_len l ss nd hmem (by rw [strs_len hS, lv]; exact Nat.le_refl _)).nodup_iff.mpr nd
  refine wpAny_bind (wpAny_newList ?_ (by rw [lv, sizeLine_eq]; omega))
  have oL : (s1.heap.push (seqObj "list" vs.toArray 0)).get? s1.heap.objs.size = some (seqObj "list" vs.toArray 0) := Heap.get?_push_size _ rfl
  refine wpAny_bind (wpAny_holding (wpAny_call_entry slot_list_sort ⟨_, oL, rfl⟩ entry_list_sort
    (list_sort_treeK strKind_oneLt oL hS.keysOf (fun v₁ v₂ rest e => keyKind_strs (by rw [← e]; exact hS)) (by omega) fun st' hp hs => ?_) (args_list_sort _)))
  obtain ⟨ys, y1, y2, y3⟩ := sorted_out_str hS hp hs
  obtain ⟨c, hc⟩ := sortedHeap_at (vs := vs) (out := (arrOf st').map (·.2)) oL
  have ey : ys = sortS cs := sort_uniq y3 (y2.nodup_iff.mpr ndS) fun k => by
    rw [y2.mem_iff, ← mem k]
    exact ⟨hsub k, hmem k⟩
  rw [ey] at y1
  refine ⟨_, rfl, wpAny_pure ⟨_, rfl, hQ _ s1.heap.objs.size _ c (fun b u e => ?_) g1 o1 hz hc y1⟩⟩
  have q := k1 b u e
  have lt := Heap.lt_size q
  show (sortedHeap (s1.heap.push (seqObj "list" vs.toArray 0)) s1.heap.objs.size vs ((arrOf st').map (·.2))).get? b = some u
  rw [sortedHeap_old (Nat.ne_of_lt lt) (by rw [size_push']; exact Nat.lt_succ_of_lt lt)]
  exact Heap.get?_push_of_some _ q
end
/-! ### the rules -/
def SetXO (P : Program) (w : World) (a : Addr) (cs : List Str) : HO := .ext fun h => SetX0 P w a cs h
theorem setXO_new {P : Program} {w : World} {H : Hp} {h : Heap} {a : Addr} {cs : List Str} (R : SetX0 P w a cs h) : ObjOk P w H h a (SetXO P w a cs) := by
  obtain ⟨D, l, e, q⟩ := id R
  refine ⟨R, ⟨_, e⟩, fun h1 h2 p k => ?_⟩
  obtain ⟨D', l', e', q'⟩ := (show SetX0 P w a cs h1 from p)
  exact ⟨D', l', k _ e', q'⟩
section
variable {X : Cx}
/-- the texts of a text or of a list -/
def rSetX (K : PySem.W.Frag) (P : Program) (w : World) : List V → Hp → VK → Prop := fun xs H Q => ∃ (y : V) (ks : List Str), xs = [y] ∧ ((∃ x : Str, y = V.str x ∧ ks = x.cps.toList.map sing) ∨ ∃ b, y = V.ref b ∧ SqL K H b (ks.map V.str)) ∧ ks.length < 64 ∧ ∀ a, H a = none → Q (.ref a) (upd H a (SetXO P w a ks))
theorem cr_setX (hc : X.calm = true) : CallR X (.type "set") (rSetX X.K X.prog X.w) := by
  intro pins s σ H xs us Q I r h
  obtain ⟨y, ks, rfl, hy, hz, q⟩ := h
  rcases hy with ⟨x, rfl, rfl⟩ | ⟨b, rfl, hb⟩
  · obtain ⟨u, rfl, t, rfl⟩ := vals1 r
    refine call_set_text (P := X.prog) (w := X.w) (I.ok.hd hc) (by rw [List.length_map, Array.length_toList] at hz; unfold scanBound; omega) fun h' tk R kp => ?_
    exact ⟨.ref s.heap.objs.size, upd H s.heap.objs.size (SetXO X.prog X.w s.heap.objs.size _), I.laid (t' := tk) kp (Nat.le_refl _) (setXO_new R), rfl, q _ (I.hok.fresh (Nat.le_refl _))⟩
  · rw [Vals.ref1 r]
    obtain ⟨its, rv, hl, _⟩ := I.list hb
    refine call_set_strs (P := X.prog) (w := X.w) (I.ok.hd hc) hl.isList rv.strs (by unfold scanBound; omega) fun h' tk R kp => ?_
    exact ⟨.ref s.heap.objs.size, upd H s.heap.objs.size (SetXO X.prog X.w s.heap.objs.size _), I.laid (t' := tk) kp (Nat.le_refl _) (setXO_new R), rfl, q _ (I.hok.fresh (Nat.le_refl _))⟩
def rSortX (P : Program) (w : World) : List V → Hp → VK → Prop := fun vs H Q => ∃ (a : Addr) (cs : List Str), vs = [V.ref a] ∧ H a = some (SetXO P w a cs) ∧ cs.length < 64 ∧ ∀ p, H p = none → Q (.ref p) (upd H p (.lst ((sortS cs).map V.str)))
theorem cr_sortX (hc : X.calm = true) : CallR X (.builtin "sorted") (rSortX X.prog X.w) := by
  intro pins s σ H vs us Q I r h
  obtain ⟨a, cs, rfl, ha, h64, q⟩ := h
  have R : SetX0 X.prog X.w a cs s.heap := (I.hok a _ ha).1
  rw [Vals.ref1 r]
  refine sorted_setX R (I.ok.hd hc) h64 fun s' p out c k g o hp hg hout => ?_
  have hn : H p = none := I.hok.fresh hp
  have hv := vals_of_strs hout
  have lz : ((sortS cs).map V.str).length ≤ sizeLine := by
    have e1 := len_sortS cs
    rw [List.length_map, sizeLine_eq]
    omega
  have J : Inv X pins σ (upd H p (.lst ((sortS cs).map V.str))) { s with heap := s'.heap, gens := s'.gens, drawn := s'.drawn, toks := s'.toks } :=
    I.call (ch := []) (Un.laid k hp hn) (I.hok.laid k hp ⟨lz, out.toList, c, hv, hg⟩) (by rw [g]; exact I.bare) (fun _ z => nomatch z)
  have e : s' = { s with heap := s'.heap, gens := s'.gens, drawn := s'.drawn, toks := s'.toks } := by
    cases s'
    cases s
    cases o
    rfl
  rw [e]
  exact ⟨.ref p, _, J, rfl, q p hn⟩
end
/-! ### sorted(set(e)) as one expression -/
def textsOf (μ : Sto) (d : D) : Option (List Str) := match d with
  | .str x => some (x.cps.toList.map sing)
  | d => (asQ μ d).bind strsOf
def srtD (d : D) : M D := fun μ => match textsOf μ d with
  | some ks => if ks.length < 64 then .ok (.lst ((sortS ks).map .str)) μ else .stuck
  | none => .stuck
def srtOk (G : Ctx) : Bool := G.isB "sorted" && G.isB "set" && glB G.sc "sorted" && glB G.sc "set" && !G.hot
def srtE (r : Dn) (G : Ctx) (e : Expr) (ρ : Sl) : M D := if srtOk G = true ∧ noStar [e] = true then (do let d ← r.e G e ρ; srtD d) else stuck
theorem texts_den {W : Wd} {m : Mem} {d : D} {v : V} {ks : List Str} (g : Okm W m) (h : Den W m d v) (e : textsOf m.μ d = some ks) : (∃ x : Str, v = V.str x ∧ ks = x.cps.toList.map sing) ∨ ∃ b, v = V.ref b ∧ SqL W.K m.H b (ks.map V.str) := by
  have gen : (asQ m.μ d).bind strsOf = some ks → ∃ b, v = V.ref b ∧ SqL W.K m.H b (ks.map V.str) := fun e => by
    cases q : asQ m.μ d with
    | none => rw [q] at e; cases e
    | some ds =>
      rw [q] at e
      obtain ⟨a, vs, rfl, h1, l⟩ := asQ_den g h q
      have e2 := strsOf_map (show strsOf ds = some ks from e)
      subst e2
      rw [DenL.of_strs l] at h1
      exact ⟨a, rfl, h1⟩
  cases d with
  | str x => cases h; cases e; exact .inl ⟨x, rfl, rfl⟩
  | _ => exact .inr (gen e)
section
variable {W : Wd} {Z : WX} {X : Cx} {G : Ctx} {r : Dn}
theorem pe_srt (R : EnOk W r) (ok : EOk W X Z G) (e : Expr) (p p2 pos pos2 : Pos) : PE X (.Call (.Name "sorted" p) [.Call (.Name "set" p2) [e] [] pos2] [] pos) (TEof W Z (srtE r G e)) := by
  by_cases hz : srtOk G = true ∧ noStar [e] = true
  · obtain ⟨h0, hs⟩ := id hz
    unfold srtOk at h0
    simp only [Bool.and_eq_true, Bool.not_eq_true'] at h0
    obtain ⟨⟨⟨⟨b1, b2⟩, g1⟩, g2⟩, hot⟩ := h0
    have hc := ok.calm hot
    obtain ⟨z1, z2⟩ := star_cons (env := X.env) hs
    refine PE.weak (pe_callB (cr_sortX hc) (gl_of ok g1) (ok.g.bl _ b1) (by decide +kernel) (pa_cons (pe_callTy (cr_setX hc) (gl_of ok g2) (ok.g.bl _ b2) (by decide +kernel) (pa_cons (R.e ok e) pa_nil (hs := z1)) (by decide +kernel) (by decide +kernel) z1 (star_any z2)) pa_nil) (by decide +kernel) (by decide +kernel) rfl rfl) fun σ H Q h => ?_
    obtain ⟨_, h⟩ := te_if h
    obtain ⟨ρ, m, ee, g, rr, w⟩ := h
    refine ⟨ρ, m, ee, g, rr, (wpR_bind w).mono (fun _ _ _ _ z => z) fun d m1 s1 g1 w1 v hv => ?_⟩
    unfold srtD at w1
    split at w1
    · rename_i ks e
      by_cases hlt : ks.length < 64
      · rw [if_pos hlt] at w1
        refine ⟨v, ks, rfl, by rw [ok.K]; exact texts_den g1 hv e, hlt, fun a ha => ?_⟩
        refine ⟨a, ks, rfl, upd_same, hlt, fun q hq => ?_⟩
        let m2 := m1.put a (SetXO X.prog X.w a ks)
        have s2 : Step m1 m2 := step_put g1 ha
        have g2 : Okm W m2 := good_put g1 ha
        have s3 : Step m2 (m2.put q (.lst ((sortS ks).map V.str))) := step_put g2 hq
        exact w1 (m2.put q _) (s2.trans s3) (good_put g2 hq) rfl _ (den_lst g2 hq (DenL.strs _))
      · rw [if_neg hlt] at w1; exact w1.elim
    · exact w1.elim
  · exact PE.weak PE.any fun σ H Q h => hz (te_if h).1
end
def stepE2 (r : Dn) (G : Ctx) (e : Expr) (ρ : Sl) : M D := match e with
  | .Call (.Name f p) [.Call (.Name h p2) [a] [] pos2] [] pos => if f = "sorted" ∧ h = "set" then srtE r G a ρ else stepE r G (.Call (.Name f p) [.Call (.Name h p2) [a] [] pos2] [] pos) ρ
  | e => stepE r G e ρ
theorem pe_stepE2 {W : Wd} {Z : WX} {X : Cx} {G : Ctx} {r : Dn} (R : EnOk W r) (ok : EOk W X Z G) (e : Expr) : PE X e (TEof W Z (stepE2 r G e)) := by
  unfold stepE2
  split
  · rename_i f p h p2 a pos2 pos
    by_cases q : f = "sorted" ∧ h = "set"
    · simp only [q, and_self, ↓reduceIte]
      exact pe_srt R ok a p p2 pos pos2
    · simp only [q, ↓reduceIte]
      exact pe_stepE R ok _
  · exact pe_stepE R ok _
end Pu

set_option Elab.async false
set_option linter.all false
set_option maxRecDepth 100000
/-! Pu19: methods and instances, where no repr is under way. -/
namespace Pu
open PySem L2
theorem make_guards {A : Around} {C : Addr} {us : List Value} {kw : List (Str × Value)} : (A.under (.builtin "type.__call__" ⟨.ref C :: us, kw⟩)).guards = A.guards := by
  first | rfl | simp [Around.under, Code.isGuard, guardIds]
section
variable {X : Cx} {k : Nat} {f C : Addr} {fd : FuncData} {ps : List Str} {sp : Sp} {Z : WX} {x m : Str} {p pos apos : Pos} {e o : Expr} {es : List Expr} {ta : TE} {t : TA}
/-- C(..): a new instance, then __init__ -/
theorem run_makeG {pins : List (Addr × Obj)} {σ : St} {H : Hp} {s : Shared} {Q : VK} {us : List Value} {vs : List V} (M : L2.Mk X.K C f) (F : FnG X.prog X.w X.K X.mg X.base k f fd ps sp) (room : Room (k + 1) X.A) (gd : X.A.guards = some []) (bs : Binds X.K fd ps []) (tk : Takes X Z)
    (I : Inv X pins σ H s) (r : Vals vs us) (h : ∀ y dx, H y = none → H dx = none → dx ≠ y → sp (.ref y :: vs) (upd (upd H dx (.own y)) y (.ins C dx [])) (fun v H2 => v = .non ∧ Q (.ref y) H2) (WE Z σ)) :
    wpAny (model X.prog X.w) X.A (call (.ref C) us) (EP X pins σ Q) X.xe s := by
  have q := h (s.heap.objs.size + 1) s.heap.objs.size (I.hok.fresh (Nat.le_succ _)) (I.hok.fresh (Nat.le_refl _)) (Nat.ne_of_lt (Nat.lt_add_one _))
  have J := Inv.made (C := C) I
  have r2 : Vals (V.ref (s.heap.objs.size + 1) :: vs) (Value.ref (s.heap.objs.size + 1) :: us) := .cons rfl r
  have n : (Value.ref (s.heap.objs.size + 1) :: us).length = ps.length := by rw [← r2.length]; exact F.arity _ _ _ _ q
  have bb := bs _ (Value.ref (s.heap.objs.size + 1) :: us) J.kIn (by rw [List.append_nil]; exact n)
  rw [List.append_nil] at bb
  refine wpAny_call (make_map (f := f) I.kIn M.makes M.init (beq_iff_eq.mp M.fn) (codeAny_mono (F.go _ X.stack _ _ ⟨Value.ref (s.heap.objs.size + 1) :: us, []⟩ _ _ _ (WE Z σ) (room.make C us []) (by rw [make_guards]; exact gd) (J.env0.make C us []) bb r2 q) fun res s' c => ?_))
  match res, c with
  | .error err, c => exact passAt tk σ pins _ _ err s' J c
  | .ok .next, c => exact c.elim
  | .ok .brk, c => exact c.elim
  | .ok .cont, c => exact c.elim
  | .ok (.ret u), c =>
    obtain ⟨v, H', J2, rv, ev, q2⟩ := J.after c
    subst ev
    exact ⟨rv, V.ref (s.heap.objs.size + 1), H', J2, rfl, q2⟩
/-- a call by values, as code -/
theorem code_G {pins : List (Addr × Obj)} {σ : St} {H : Hp} {s : Shared} {Q : VK} {us : List Value} {vs : List V} (F : FnG X.prog X.w X.K X.mg X.base k f fd ps sp) (room : Room k X.A) (gd : X.A.guards = some []) (bs : Binds X.K fd ps []) (tk : Takes X Z)
    (I : Inv X pins σ H s) (r : Vals vs us) (h : sp vs H Q (WE Z σ)) : codeAny (model X.prog X.w) X.A (.call (.ref f) ⟨us, []⟩) (fun r s' => match r with | .ok (.ret v) => EP X pins σ Q v s' | .ok _ => False | .error e => X.xe e s') s := by
  have n : us.length = ps.length := by rw [← r.length]; exact F.arity _ _ _ _ h
  have bb := bs s us I.kIn (by rw [List.append_nil]; exact n)
  rw [List.append_nil] at bb
  refine codeAny_mono (F.go X.A X.stack s H ⟨us, []⟩ us vs Q (WE Z σ) room gd I.env0 bb r h) fun res s' q => ?_
  match res, q with
  | .error err, q => exact passAt tk σ pins H s err s' I q
  | .ok .next, q => exact q.elim
  | .ok .brk, q => exact q.elim
  | .ok .cont, q => exact q.elim
  | .ok (.ret u), q => exact I.after q
/-- .. out of the machine's own code; nothing is raised -/
theorem code_in {A : Around} {pins : List (Addr × Obj)} {σ : St} {H : Hp} {s : Shared} {Q : VK} {us : List Value} {vs : List V} (F : FnG X.prog X.w X.K X.mg X.base k f fd ps sp) (room : Room k A) (gd : A.guards = some []) (e0 : Env0 X.prog X.w X.K X.mg X.base A X.stack s H)
    (bs : Binds X.K fd ps []) (I : Inv X pins σ H s) (r : Vals vs us) (h : sp vs H Q fun _ _ _ => False) : codeAny (model X.prog X.w) A (.call (.ref f) ⟨us, []⟩) (fun r s' => match r with | .ok (.ret v) => EP X pins σ Q v s' | .ok _ => False | .error e => False) s := by
  have n : us.length = ps.length := by rw [← r.length]; exact F.arity _ _ _ _ h
  have bb := bs s us I.kIn (by rw [List.append_nil]; exact n)
  rw [List.append_nil] at bb
  refine codeAny_mono (F.go A X.stack s H ⟨us, []⟩ us vs Q (fun _ _ _ => False) room gd e0 bb r h) fun res s' q => ?_
  match res, q with
  | .error err, q => obtain ⟨_, _, _, _, _, _, _, _, _, _, _, _, z⟩ := q; exact z.elim
  | .ok .next, q => exact q.elim
  | .ok .brk, q => exact q.elim
  | .ok .cont, q => exact q.elim
  | .ok (.ret u), q => exact I.after q
/-- a property, read -/
theorem getprop_G {a p dx : Addr} {fs : List (Str × V)} {pins : List (Addr × Obj)} {σ : St} {H : Hp} {s : Shared} {Q : VK} {b : Bool} {E' : Value → Shared → Prop} (I : Inv X pins σ H s) (ea : H a = some (.ins C dx fs)) (c : Cls X.K C) (hp : PropOf X.K C m p f)
    (F : FnG X.prog X.w X.K X.mg X.base k f fd ps sp) (hr : Room (k + 1) X.A) (gd : X.A.guards = some []) (hb : Binds X.K fd ps []) (h : sp [.ref a] H Q fun _ _ _ => False) :
    wpAny (model X.prog X.w) X.A (getAttr (.ref a) m b) (EP X pins σ Q) E' s := by
  obtain ⟨mA, O, _, _, _, _⟩ := ins_get I.hok ea
  obtain ⟨od, J, _⟩ := O.look
  obtain ⟨rest, hrec⟩ := hp.rec_
  have I1 := I.tok (s.toks + 1)
  have hc : (PySem.W.clsIn X.K C).isSome = true := by
    obtain ⟨cd, hc, _⟩ := PySem.W.any_some c.hd
    rw [hc]
    rfl
  refine PySem.W.get_bind I.kIn J (PySem.W.plainGet_of (c.get m)).1 (PySem.W.findObj_data hc hp.at_ hp.get hp.tak) (PySem.W.plainGet_of (c.get m)).2 (wpAny_call (PySem.W.prop_get (s := { s with toks := s.toks + 1 }) I.kIn hrec ?_))
  refine codeAny_mono (code_in F hr.in1 (by exact gd) I1.env0.in1 hb I1 (vs := [V.ref a]) (us := [Value.ref a]) (.cons rfl .nil) h) fun r s' hq => ?_
  match r, hq with
  | .error er, hq => exact hq.elim
  | .ok .next, hq => exact hq.elim
  | .ok .brk, hq => exact hq.elim
  | .ok .cont, hq => exact hq.elim
  | .ok (.ret u), hq =>
    obtain ⟨v, H', I3, rv, q3⟩ := hq
    show wpAny _ _ (handedOut u) _ _ _
    rw [PySem.W.handedOut_of (handed_of rv)]
    exact wpAny_pure ⟨v, H', I3, rv, q3⟩
/-- the call of a class method's record -/
theorem run_cmG {q : Addr} {pins : List (Addr × Obj)} {σ : St} {H : Hp} {s : Shared} {Q : VK} {us : List Value} {vs : List V} (F : FnG X.prog X.w X.K X.mg X.base k f fd ps sp) (room : Room k X.A) (gd : X.A.guards = some []) (bs : Binds X.K fd ps []) (tk : Takes X Z)
    (I : Inv X ((q, PySem.W.methodObj (.ref f) (.ref C)) :: pins) σ H s) (r : Vals vs us) (h : sp (.ref C :: vs) H Q (WE Z σ)) : wpAny (model X.prog X.w) X.A (call (.ref q) us) (EP X pins σ Q) X.xe s := by
  have z : wpAny (model X.prog X.w) X.A (call (.ref q) us) (EP X ((q, PySem.W.methodObj (.ref f) (.ref C)) :: pins) σ Q) X.xe s :=
    wpAny_call (PySem.W.method_call (ClX.pin_at I) (code_G (us := .ref C :: us) (vs := .ref C :: vs) F room gd bs tk I (.cons rfl r) h))
  exact thn z fun _ _ y => ClX.unpinE y
theorem pe_cmethG {mc : Value} {g : Addr} {pl : Sem Bool} (ho : PE X o ta) (rd : ClX.CRead X.K C mc) (c : ClX.CMet X.K C mc m g f) (F : FnG X.prog X.w X.K X.mg X.base k f fd ps sp) (room : Room k X.A) (gd : X.A.guards = some []) (bs : Binds X.K fd ps []) (tk : Takes X Z) (ha : PA X (e :: es) t)
    (st : starEach (e :: es) X.env = (false, eval e X.env) :: starEach es X.env) (pn : (backTo pos (starEach es X.env)).any (·.1) = false)
    (hev : eval (.Call (.Attribute o m apos) (e :: es) [] pos) X.env = (do
      let ov ← eval o X.env
      standAt apos.atName
      let (g, first) ← holding [ov] (getMethod ov m pl)
      callWith pos g first (backTo pos (starEach (e :: es) X.env)) (backToKw pos (keywordEach [] X.env)))) :
    PE X (.Call (.Attribute o m apos) (e :: es) [] pos) (fun σ H Q => ta σ H fun y H1 => y = .ref C ∧ t σ H1 fun vs H2 => sp (.ref C :: vs) H2 Q (WE Z σ)) := by
  refine ⟨fun pins s σ H Q I h => PySem.W.methodCall_KW (pl := pl) (thn (ho.run pins s σ H _ I h) fun u s1 ⟨y, H1, I1, ry, ey, q⟩ => ?_) hev⟩
  subst ey
  cases (show u = Value.ref C from ry)
  refine ClX.getmethcm_ok I1 rd c fun s2 I2 => ?_
  refine ClX.callwith_cm I2 (ClX.base_none I1 (Nat.le_refl _)) c.fi (thn (ha.run pos _ s2 σ H1 _ I2 q) fun us s3 ⟨vs, H2, I3, rv, q2⟩ => ⟨⟨ClX.pin_at I3, I3.kIn⟩, ?_⟩) st pn
  exact run_cmG F room gd bs tk I3 rv q2
/-- f(e, ..), f a name of the def whose value is an instance or a class -/
theorem pe_callV {fe : Expr} {tf : TE} (hf : PE X fe tf) (ha : PA X (e :: es) t)
    (ht : eval (.Call fe (e :: es) [] pos) X.env = (do callWith pos (← eval fe X.env) [] (backTo pos (starEach (e :: es) X.env)) (backToKw pos (keywordEach [] X.env))))
    (st : starEach (e :: es) X.env = (false, eval e X.env) :: starEach es X.env) (pn : (backTo pos (starEach es X.env)).any (·.1) = false) (gd : X.A.guards = some []) (tk : Takes X Z) :
    PE X (.Call fe (e :: es) [] pos) (fun σ H Q => tf σ H fun y H1 => ∃ a, y = V.ref a ∧
      ((∃ C g k fd ps sp, StX.CallO X.K C g ∧ FnG X.prog X.w X.K X.mg X.base k g fd ps sp ∧ Room k X.A ∧ Binds X.K fd ps [] ∧ t σ H1 fun vs H2 => (∃ dx fs, H2 a = some (.ins C dx fs)) ∧ sp (V.ref a :: vs) H2 Q (WE Z σ)) ∨
       (∃ g k fd ps sp, L2.Mk X.K a g ∧ FnG X.prog X.w X.K X.mg X.base k g fd ps sp ∧ Room (k + 1) X.A ∧ Binds X.K fd ps [] ∧ t σ H1 fun vs H2 => ∀ y dx, H2 y = none → H2 dx = none → dx ≠ y → sp (.ref y :: vs) (upd (upd H2 dx (.own y)) y (.ins a dx [])) (fun v H3 => v = .non ∧ Q (.ref y) H3) (WE Z σ)))) := by
  refine ⟨fun pins s σ H Q I h => ?_⟩
  refine PyProof.Rows.Call_ (thn (hf.run pins s σ H _ I h) fun u s1 ⟨y, H1, I1, ry, a, ey, q⟩ => ?_) ht
  subst ey
  obtain rfl : u = Value.ref a := ry
  rcases q with ⟨C, g, k, fd, ps, sp, c, F, room, bs, q⟩ | ⟨g, k, fd, ps, sp, M, F, room, bs, q⟩
  · refine StX.callO_with (thn (ha.run pos pins s1 σ H1 _ I1 q) fun us s2 ⟨vs, H2, I2, r, hi, q2⟩ => ?_) st pn
    obtain ⟨ox, od, J, hd⟩ := StX.insC_at (X := X) (C := C) I2 (.inr hi)
    exact ⟨⟨C, ox, od, J, hd⟩, wpAny_call (PySem.W.kco_code I2.kIn J hd c.at_ c.fn c.fi (code_G (us := .ref a :: us) (vs := .ref a :: vs) F room gd bs tk I2 (.cons rfl r) q2))⟩
  · exact PySem.W.callWith_K (h₀ := X.base) I1.ok.mod.kin M.kp (thn (ha.run pos pins s1 σ H1 _ I1 q) fun us s2 ⟨vs, H2, I2, rv, q2⟩ => ⟨I2.kIn, run_makeG M F room gd bs tk I2 rv q2⟩) st pn
/-- o.m(e, ..) -/
theorem pe_methG {pl : Sem Bool} (ho : PE X o ta) (c : Cls X.K C) (hm : Meth X.K C m f) (F : FnG X.prog X.w X.K X.mg X.base k f fd ps sp) (room : Room k X.A) (gd : X.A.guards = some []) (bs : Binds X.K fd ps []) (tk : Takes X Z) (ha : PA X (e :: es) t)
    (st : starEach (e :: es) X.env = (false, eval e X.env) :: starEach es X.env) (pn : (backTo pos (starEach es X.env)).any (·.1) = false)
    (hev : eval (.Call (.Attribute o m apos) (e :: es) [] pos) X.env = (do
      let ov ← eval o X.env
      standAt apos.atName
      let (g, first) ← holding [ov] (getMethod ov m pl)
      callWith pos g first (backTo pos (starEach (e :: es) X.env)) (backToKw pos (keywordEach [] X.env)))) :
    PE X (.Call (.Attribute o m apos) (e :: es) [] pos) (fun σ H Q => ta σ H fun y H1 => ∃ a dx fs, y = .ref a ∧ H1 a = some (.ins C dx fs) ∧ fs.lookup m = none ∧ t σ H1 fun vs H2 => sp (y :: vs) H2 Q (WE Z σ)) := by
  refine ⟨fun pins s σ H Q I h => PySem.W.methodCall_KW (pl := pl) (thn (ho.run pins s σ H _ I h) fun u s1 ⟨y, H1, I1, ry, a, dx, fs, ey, ea, no, q⟩ => ?_) hev⟩
  subst ey
  cases (show u = Value.ref a from ry)
  refine getmeth_ok I1 ea c hm no (PySem.W.callWith_K (first := [.ref a]) (h₀ := X.base) I.ok.mod.kin hm.kp (thn (ha.run pos pins s1 σ H1 _ I1 q) fun us s2 ⟨vs, H2, I2, r, q2⟩ => ⟨I2.kIn, ?_⟩) st pn)
  exact run_G (us := .ref a :: us) (vs := .ref a :: vs) F room gd bs tk I2 (.cons rfl r) q2
/-- o.m() -/
theorem pe_methG0 {pl : Sem Bool} (ho : PE X o ta) (c : Cls X.K C) (hm : Meth X.K C m f) (F : FnG X.prog X.w X.K X.mg X.base k f fd ps sp) (room : Room k X.A) (gd : X.A.guards = some []) (bs : Binds X.K fd ps []) (tk : Takes X Z)
    (hev : eval (.Call (.Attribute o m apos) [] [] pos) X.env = (do
      let ov ← eval o X.env
      standAt apos.atName
      let (g, first) ← holding [ov] (getMethod ov m pl)
      callWith pos g first (backTo pos (starEach [] X.env)) (backToKw pos (keywordEach [] X.env)))) :
    PE X (.Call (.Attribute o m apos) [] [] pos) (fun σ H Q => ta σ H fun y H1 => ∃ a dx fs, y = .ref a ∧ H1 a = some (.ins C dx fs) ∧ fs.lookup m = none ∧ sp [y] H1 Q (WE Z σ)) := by
  refine ⟨fun pins s σ H Q I h => PySem.W.methodCall_KW (pl := pl) (thn (ho.run pins s σ H _ I h) fun u s1 ⟨y, H1, I1, ry, a, dx, fs, ey, ea, no, q⟩ => ?_) hev⟩
  subst ey
  cases (show u = Value.ref a from ry)
  exact getmeth_ok I1 ea c hm no (PySem.W.callWith_K0 (first := [.ref a]) I1.kIn hm.kp (run_G (us := [.ref a]) (vs := [.ref a]) F room gd bs tk I1 (.cons rfl .nil) q))
end
end Pu

set_option Elab.async false
set_option linter.all false
set_option maxRecDepth 100000
/-! Pu22: append and pop of a list that changes. -/
namespace Pu
open PySem L2
def chkL (x : D) : M Unit := fun μ => match x with
  | .cell c => match μ[c]? with
    | some (.lst _) => .ok () μ
    | _ => .stuck
  | _ => .stuck
def appD (x y : D) : M D := fun μ => match x with
  | .cell c => match μ[c]? with
    | some (.lst xs) => if xs.length < sizeLine then .ok .non (μ.set c (.lst (xs ++ [y]))) else .stuck
    | _ => .stuck
  | _ => .stuck
def popD (x y : D) : M D := fun μ => match x, y with
  | .cell c, .int i => match μ[c]? with
    | some (.lst xs) => if -(2 ^ 63) ≤ i ∧ i < 2 ^ 63 then (match seqIndex? i xs.length with
      | some k => (match xs[k]? with
        | some z => .ok z (μ.set c (.lst (xs.eraseIdx k)))
        | none => .stuck)
      | none => .stuck) else .stuck
    | _ => .stuck
  | _, _ => .stuck
def extD (x y : D) : M D := fun μ => match x with
  | .cell c => match μ[c]? with
    | some (.lst xs) => (match y with
      | .lst ys => if xs.length + ys.length ≤ sizeLine then .ok .non (μ.set c (.lst (xs ++ ys))) else .stuck
      | _ => .stuck)
    | _ => .stuck
  | _ => .stuck
def pop0D (x : D) : M D := fun μ => match x with
  | .cell c => match μ[c]? with
    | some (.lst xs) => (match xs[xs.length - 1]? with
      | some z => .ok z (μ.set c (.lst xs.dropLast))
      | none => .stuck)
    | _ => .stuck
  | _ => .stuck
/-- xs.append(e), xs.pop(e), xs.extend(e), xs.pop() -/
def methL (r : Dn) (G : Ctx) (o : Expr) (m : Str) (es : List Expr) (ok : Bool) (ρ : Sl) : M D :=
  if plainO o = true ∧ noStar es = true ∧ ok = true ∧ G.hot = false then
    match es with
    | [] => if m = "pop" then (do let x ← r.e G o ρ; chkL x; pop0D x) else stuck
    | [e] => if m = "append" then (do let x ← r.e G o ρ; chkL x; let y ← r.e G e ρ; appD x y) else if m = "pop" then (do let x ← r.e G o ρ; chkL x; let y ← r.e G e ρ; popD x y) else if m = "extend" then (do let x ← r.e G o ρ; chkL x; let y ← r.e G e ρ; extD x y) else stuck
    | _ => stuck
  else stuck
section
variable {W : Wd} {Z : WX} {X : Cx} {G : Ctx} {r : Dn}
theorem chk_den {m : Mem} {d : D} {v : V} {E : Ex → Mem → Prop} {Q : Unit → Mem → Prop} (g : Okm W m) (hv : Den W m d v) (w : wpR W m E Q (chkL d m.μ)) : (∃ c a xs, d = .cell c ∧ v = .ref a ∧ m.as[c]? = some a ∧ m.H a = some (.lst xs)) ∧ Q () m := by
  unfold chkL at w
  split at w
  · rename_i c
    split at w
    · rename_i xs e
      cases hv with
      | @cell _ a h1 =>
        obtain ⟨vs, h2, _⟩ := g.ok c _ a e h1
        exact ⟨⟨c, a, vs, rfl, rfl, h1, h2⟩, w m (Step.refl m) g rfl⟩
    · exact w.elim
  · exact w.elim
theorem denL_erase {m : Mem} : ∀ {ds : List D} {vs : List V}, DenL W m ds vs → ∀ k, DenL W m (ds.eraseIdx k) (vs.eraseIdx k)
  | _, _, .nil, _ => .nil
  | _, _, .cons h t, 0 => t
  | _, _, .cons h t, k + 1 => .cons h (denL_erase t k)
theorem denL_app1 {m : Mem} {d : D} {v : V} (h : Den W m d v) : ∀ {ds : List D} {vs : List V}, DenL W m ds vs → DenL W m (ds ++ [d]) (vs ++ [v])
  | _, _, .nil => .cons h .nil
  | _, _, .cons h1 t => .cons h1 (denL_app1 h t)
theorem denL_at {m : Mem} : ∀ {ds : List D} {vs : List V}, DenL W m ds vs → ∀ (i : Nat) (d : D), ds[i]? = some d → ∃ v, vs[i]? = some v ∧ Den W m d v
  | _, _, .nil, i, d, h => by simp at h
  | _, _, .cons h t, 0, d, e => by cases e; exact ⟨_, rfl, h⟩
  | _, _, .cons h t, i + 1, d, e => denL_at t i d e
theorem app_out {m : Mem} {x y : D} {a : Addr} {u : V} {E : Ex → Mem → Prop} {Q : VK} (g : Okm W m) (hx : Den W m x (.ref a)) (hy : Den W m y u) (w : out W m E Q (appD x y m.μ)) : rAppend (.ref a) [u] m.H Q := by
  unfold appD at w
  split at w
  · rename_i c
    split at w
    · rename_i xs e1
      by_cases hl : xs.length < sizeLine
      · rw [if_pos hl] at w
        cases hx with
        | @cell _ _ h1 =>
          obtain ⟨vs, h2, l⟩ := g.ok c _ a e1 h1
          have lv : m.live a := .inl ⟨c, _, h1, e1, fun z => nomatch z⟩
          have st : Step m (m.wr c a (.lst (vs ++ [u])) (.lst (xs ++ [y]))) := step_wr g h1 lv
          refine ⟨a, vs, u, rfl, rfl, h2, by rw [← l.length]; exact hl, ?_⟩
          exact w (m.wr c a (.lst (vs ++ [u])) (.lst (xs ++ [y]))) st (good_wr g h1 lv ⟨_, upd_same, (denL_app1 hy l).mono st⟩) rfl _ .non
      · rw [if_neg hl] at w
        exact (show False from w).elim
    · exact (show False from w).elim
  · exact (show False from w).elim
theorem pop_out {m : Mem} {x y : D} {a : Addr} {u : V} {E : Ex → Mem → Prop} {Q : VK} (g : Okm W m) (hx : Den W m x (.ref a)) (hy : Den W m y u) (w : out W m E Q (popD x y m.μ)) : rPopAt (.ref a) [u] m.H Q := by
  unfold popD at w
  split at w
  · rename_i c i
    split at w
    · rename_i xs e1
      by_cases hb : -(2 ^ 63) ≤ i ∧ i < 2 ^ 63
      · rw [if_pos hb] at w
        cases q : seqIndex? i xs.length with
        | none => rw [q] at w; exact (show False from w).elim
        | some k =>
          rw [q] at w
          cases q2 : xs[k]? with
          | none => simp only [q2] at w; exact (show False from w).elim
          | some z =>
            simp only [q2] at w
            cases den_int hy
            cases hx with
            | @cell _ _ h1 =>
              obtain ⟨vs, h2, l⟩ := g.ok c _ a e1 h1
              obtain ⟨vz, e2, e3⟩ := denL_at l k z q2
              have lv : m.live a := .inl ⟨c, _, h1, e1, fun z => nomatch z⟩
              have st : Step m (m.wr c a (.lst (vs.eraseIdx k)) (.lst (xs.eraseIdx k))) := step_wr g h1 lv
              refine ⟨a, vs, i, k, vz, rfl, rfl, h2, hb.1, hb.2, by rw [← l.length]; exact q, e2, ?_⟩
              exact w (m.wr c a (.lst (vs.eraseIdx k)) (.lst (xs.eraseIdx k))) st (good_wr g h1 lv ⟨_, upd_same, (denL_erase l k).mono st⟩) rfl _ (e3.mono st)
      · rw [if_neg hb] at w
        exact (show False from w).elim
    · exact (show False from w).elim
  · exact (show False from w).elim
theorem ext_out {m : Mem} {x y : D} {a : Addr} {u : V} {E : Ex → Mem → Prop} {Q : VK} (g : Okm W m) (hx : Den W m x (.ref a)) (hy : Den W m y u) (w : out W m E Q (extD x y m.μ)) : rExtend (.ref a) [u] m.H Q := by
  unfold extD at w
  split at w
  · rename_i c
    split at w
    · rename_i xs e1
      split at w
      · rename_i ys
        by_cases hl : xs.length + ys.length ≤ sizeLine
        · rw [if_pos hl] at w
          cases hx with
          | @cell _ _ h1 =>
            cases hy with
            | @lst _ b zs hb nb lb =>
              obtain ⟨vs, h2, l⟩ := g.ok c _ a e1 h1
              have lv : m.live a := .inl ⟨c, _, h1, e1, fun z => nomatch z⟩
              have st : Step m (m.wr c a (.lst (vs ++ zs)) (.lst (xs ++ ys))) := step_wr g h1 lv
              refine ⟨a, b, vs, zs, rfl, rfl, h2, hb, by rw [← l.length, ← lb.length]; exact hl, ?_⟩
              exact w (m.wr c a (.lst (vs ++ zs)) (.lst (xs ++ ys))) st (good_wr g h1 lv ⟨_, upd_same, (l.append lb).mono st⟩) rfl _ .non
        · rw [if_neg hl] at w
          exact (show False from w).elim
      · exact (show False from w).elim
    · exact (show False from w).elim
  · exact (show False from w).elim
theorem pop0_out {m : Mem} {x : D} {a : Addr} {E : Ex → Mem → Prop} {Q : VK} (g : Okm W m) (hx : Den W m x (.ref a)) (w : out W m E Q (pop0D x m.μ)) : rPop (.ref a) [] m.H Q := by
  unfold pop0D at w
  split at w
  · rename_i c
    split at w
    · rename_i xs e1
      cases q2 : xs[xs.length - 1]? with
      | none => simp only [q2] at w; exact (show False from w).elim
      | some z =>
        simp only [q2] at w
        cases hx with
        | @cell _ _ h1 =>
          obtain ⟨vs, h2, l⟩ := g.ok c _ a e1 h1
          obtain ⟨vz, e2, e3⟩ := denL_at l _ z q2
          have lv : m.live a := .inl ⟨c, _, h1, e1, fun z => nomatch z⟩
          have st : Step m (m.wr c a (.lst vs.dropLast) (.lst xs.dropLast)) := step_wr g h1 lv
          refine ⟨a, vs, vz, rfl, rfl, h2, by rw [← l.length]; exact e2, ?_⟩
          have ld : DenL W m xs.dropLast vs.dropLast := by
            rw [List.dropLast_eq_take, List.dropLast_eq_take, ← l.length]
            exact l.take _
          exact w (m.wr c a (.lst vs.dropLast) (.lst xs.dropLast)) st (good_wr g h1 lv ⟨_, upd_same, ld.mono st⟩) rfl _ (e3.mono st)
    · exact (show False from w).elim
  · exact (show False from w).elim
theorem te_else {c : Prop} [Decidable c] {f k : Sl → M D} {σ : St} {H : Hp} {Q : VK} (hc : ¬ c) (h : TEof W Z (fun ρ => if c then f ρ else k ρ) σ H Q) : TEof W Z k σ H Q := by
  obtain ⟨ρ, m, e, g, rr, w⟩ := h
  refine ⟨ρ, m, e, g, rr, ?_⟩
  simp only [hc, ↓reduceIte] at w
  exact w
theorem few1 {pos : Pos} {env : Env} {e : Expr} (h : noStar [e] = true) : ((backTo pos (starEach [e] env)).all (fun x => !x.1) && (backToKw pos (keywordEach [] env)).all (fun x => x.1.isSome) && decide (([e] : List Expr).length + ([] : List Keyword).length + (if ([] : List Keyword).isEmpty then 0 else 1) < 30)) = true := by
  obtain ⟨h1, _⟩ := star_cons (env := env) h
  rw [h1]
  rfl
theorem pe_methL (R : EnOk W r) (ok : EOk W X Z G) (o : Expr) (m : Str) (es : List Expr) (ap pos : Pos) : PE X (.Call (.Attribute o m ap) es [] pos) (TEof W Z (methL r G o m es (ap.endLine == pos.line))) := by
  have none_of : (∀ ρ, methL r G o m es (ap.endLine == pos.line) ρ = stuck) → PE X (.Call (.Attribute o m ap) es [] pos) (TEof W Z (methL r G o m es (ap.endLine == pos.line))) := fun z => PE.weak PE.any fun σ H Q h => te_none z h
  by_cases h0 : plainO o = true ∧ noStar es = true ∧ (ap.endLine == pos.line) = true ∧ G.hot = false
  · match es, h0 with
    | [], h0 =>
      by_cases hp : m = "pop"
      · subst hp
        refine PE.weak (pe_bm0 PySem.F.plainAttrs_list PySem.F.slot_list_pop PySem.F.type_list_pop mt_pop (R.e ok o) (plainO_base h0.1 _ X.env) h0.2.2.1) fun σ H Q h => ?_
        obtain ⟨ρ, mm, ee, g, rr, w⟩ := (te_if (te_if h).2).2
        refine ⟨ρ, mm, ee, g, rr, (wpR_bind w).mono (fun _ _ _ _ z => z) fun x m1 s1 g1 w1 xv hxv => ?_⟩
        obtain ⟨⟨c, a, xs, rfl, rfl, h1, h2⟩, w2⟩ := chk_den g1 hxv (wpR_bind w1)
        exact ⟨.inl ⟨rfl, xs, .inl (.inl h2)⟩, pop0_out g1 hxv w2⟩
      · refine none_of fun ρ => ?_
        unfold methL
        rw [if_pos h0]
        simp only
        rw [if_neg hp]
    | _ :: _ :: _, h0 => exact none_of fun ρ => by unfold methL; rw [if_pos h0]
    | [e], h0 =>
      obtain ⟨z1, z2⟩ := star_cons (env := X.env) h0.2.1
      by_cases hj : m = "append"
      · subst hj
        refine PE.weak (pe_bm PySem.F.plainAttrs_list PySem.F.slot_list_append PySem.F.type_list_append mt_append (R.e ok o) (pa_cons (R.e ok e) pa_nil (hs := z1)) (plainO_base h0.1 _ X.env) (few1 h0.2.1) h0.2.2.1 z1 (star_any z2)) fun σ H Q h => ?_
        obtain ⟨ρ, mm, ee, g, rr, w⟩ := (te_if (te_if h).2).2
        refine ⟨ρ, mm, ee, g, rr, (wpR_bind w).mono (fun _ _ _ _ z => z) fun x m1 s1 g1 w1 xv hxv => ?_⟩
        obtain ⟨⟨c, a, xs, rfl, rfl, h1, h2⟩, w2⟩ := chk_den g1 hxv (wpR_bind w1)
        refine ⟨.inl ⟨rfl, xs, .inl (.inl h2)⟩, ρ, m1, rfl, g1, rr.mono s1, (wpR_bind w2).mono (fun _ _ _ _ z => z) fun y m2 s2 g2 w3 u hu => ?_⟩
        exact app_out g2 (hxv.mono s2) hu w3
      · by_cases hp : m = "pop"
        · subst hp
          refine PE.weak (pe_bm PySem.F.plainAttrs_list PySem.F.slot_list_pop PySem.F.type_list_pop mt_popAt (R.e ok o) (pa_cons (R.e ok e) pa_nil (hs := z1)) (plainO_base h0.1 _ X.env) (few1 h0.2.1) h0.2.2.1 z1 (star_any z2)) fun σ H Q h => ?_
          obtain ⟨ρ, mm, ee, g, rr, w⟩ := (te_if (te_else hj (te_if h).2)).2
          refine ⟨ρ, mm, ee, g, rr, (wpR_bind w).mono (fun _ _ _ _ z => z) fun x m1 s1 g1 w1 xv hxv => ?_⟩
          obtain ⟨⟨c, a, xs, rfl, rfl, h1, h2⟩, w2⟩ := chk_den g1 hxv (wpR_bind w1)
          refine ⟨.inl ⟨rfl, xs, .inl (.inl h2)⟩, ρ, m1, rfl, g1, rr.mono s1, (wpR_bind w2).mono (fun _ _ _ _ z => z) fun y m2 s2 g2 w3 u hu => ?_⟩
          exact pop_out g2 (hxv.mono s2) hu w3
        · by_cases hx : m = "extend"
          · subst hx
            refine PE.weak (pe_bm PySem.F.plainAttrs_list PySem.F.slot_list_extend PySem.F.type_list_extend mt_extend (R.e ok o) (pa_cons (R.e ok e) pa_nil (hs := z1)) (plainO_base h0.1 _ X.env) (few1 h0.2.1) h0.2.2.1 z1 (star_any z2)) fun σ H Q h => ?_
            obtain ⟨ρ, mm, ee, g, rr, w⟩ := (te_if (te_else hp (te_else hj (te_if h).2))).2
            refine ⟨ρ, mm, ee, g, rr, (wpR_bind w).mono (fun _ _ _ _ z => z) fun x m1 s1 g1 w1 xv hxv => ?_⟩
            obtain ⟨⟨c, a, xs, rfl, rfl, h1, h2⟩, w2⟩ := chk_den g1 hxv (wpR_bind w1)
            refine ⟨.inl ⟨rfl, xs, .inl (.inl h2)⟩, ρ, m1, rfl, g1, rr.mono s1, (wpR_bind w2).mono (fun _ _ _ _ z => z) fun y m2 s2 g2 w3 u hu => ?_⟩
            exact ext_out g2 (hxv.mono s2) hu w3
          · refine none_of fun ρ => ?_
            unfold methL
            rw [if_pos h0]
            simp only
            rw [if_neg hj, if_neg hp, if_neg hx]
  · refine none_of fun ρ => ?_
    unfold methL
    rw [if_neg h0]
end
end Pu

set_option Elab.async false
set_option linter.all false
set_option maxRecDepth 100000
/-! Pu20: attributes and methods of instances. -/
namespace Pu
open PySem L2
def attrD (G : Ctx) (f : Str) (d : D) : M D := fun μ => match asO μ d with
  | some (C, fs) => match G.prop C f with
    | some F => if G.hot = false then noX (F [d]) μ else .stuck
    | none => if G.fld C f = true then (match fs.lookup f with | some v => .ok v μ | none => .stuck) else .stuck
  | none => .stuck
def attrE (r : Dn) (G : Ctx) (o : Expr) (f : Str) (ρ : Sl) : M D := if plainO o = true then (do let d ← r.e G o ρ; attrD G f d) else stuck
section
variable {W : Wd} {Z : WX} {X : Cx} {G : Ctx} {r : Dn}
theorem pe_attrE (R : EnOk W r) (ok : EOk W X Z G) (o : Expr) (f : Str) (pos : Pos) : PE X (.Attribute o f pos) (TEof W Z (attrE r G o f)) := by
  by_cases hz : plainO o = true
  · refine ⟨fun pins s σ H Q I h => ?_⟩
    obtain ⟨ρ, m, ee, g, rr, w⟩ := (te_if h).2
    refine attr_of (plainO_base hz f X.env) (thn ((R.e ok o).run pins s σ H (fun v H1 => ∃ m1 d, m1.H = H1 ∧ Okm W m1 ∧ Den W m1 d v ∧ wpR W m1 (EWish W Z σ) (fun d m' => ∀ v, Den W m' d v → Q v m'.H) (attrD G f d m1.μ)) I ⟨ρ, m, ee, g, rr, (wpR_bind w).mono (fun _ _ _ _ z => z) fun d m1 s1 g1 w1 v hv => ⟨m1, d, rfl, g1, hv, w1⟩⟩) fun u s1 ⟨v, H1, I1, rv, m1, d, e1, g1, hv, w1⟩ => ?_)
    subst e1
    unfold attrD at w1
    cases q : asO m1.μ d with
    | none => rw [q] at w1; exact w1.elim
    | some cf =>
      obtain ⟨C, fs⟩ := cf
      rw [q] at w1
      simp only at w1
      obtain ⟨a, dx, fv, rfl, h1, h3⟩ := asO_den g1 hv q
      cases (show u = Value.ref a from rv)
      cases qp : G.prop C f with
      | some F =>
        rw [qp] at w1
        simp only at w1
        by_cases hh : G.hot = false
        · rw [if_pos hh] at w1
          obtain ⟨p, g, fd, ps, j, hj, c, hp, FG, bs⟩ := ok.g.ob.prop C f F qp
          rw [← ok.K] at c hp FG bs
          exact getprop_G I1 h1 c hp FG ((ok.room hh).mono hj) ok.gd bs ⟨rfl, [d], m1, rfl, g1, .cons hv .nil, noX_wp w1⟩
        · rw [if_neg hh] at w1; exact w1.elim
      | none =>
        rw [qp] at w1
        simp only at w1
        by_cases hf : G.fld C f = true
        · rw [if_pos hf] at w1
          cases q2 : fs.lookup f with
          | none => rw [q2] at w1; exact w1.elim
          | some y =>
            rw [q2] at w1
            obtain ⟨u, e1, e2⟩ := (denF_get h3 f).1 y q2
            obtain ⟨c1, c2⟩ := ok.g.ob.fld C f hf
            rw [← ok.K] at c1 c2
            exact getattr_ok I1 h1 c1 c2 e1 fun u' s' I' ru => ⟨u, m1.H, I', ru, w1 m1 (Step.refl m1) g1 rfl u e2⟩
        · rw [if_neg hf] at w1; exact w1.elim
  · exact PE.weak PE.any fun σ H Q h => hz (te_if h).1
/-! ### o.m(..) -/
/-- a method of an instance's class -/
def instD (r : Dn) (G : Ctx) (C m : Str) (d : D) (fs : List (Str × D)) (es : List Expr) (ρ : Sl) : M D := match G.meth C m with
  | some (n, F) => if fs.lookup m = none then (do let ds ← aD r G es ρ; if ds.length = n then F (d :: ds) else stuck) else stuck
  | none => stuck
/-- methods of lists and texts -/
def methF (r : Dn) (G : Ctx) (o : Expr) (m : Str) (es : List Expr) (ok : Bool) (ρ : Sl) : M D := if m = "append" ∨ m = "pop" ∨ m = "extend" then methL r G o m es ok ρ else methD r G o m es ok ρ
theorem pe_methF (R : EnOk W r) (ok : EOk W X Z G) (o : Expr) (m : Str) (es : List Expr) (ap pos : Pos) : PE X (.Call (.Attribute o m ap) es [] pos) (TEof W Z (methF r G o m es (ap.endLine == pos.line))) := by
  by_cases h : m = "append" ∨ m = "pop" ∨ m = "extend"
  · have e : methF r G o m es (ap.endLine == pos.line) = methL r G o m es (ap.endLine == pos.line) := by
      funext ρ
      unfold methF
      rw [if_pos h]
    rw [e]
    exact pe_methL R ok o m es ap pos
  · have e : methF r G o m es (ap.endLine == pos.line) = methD r G o m es (ap.endLine == pos.line) := by
      funext ρ
      unfold methF
      rw [if_neg h]
    rw [e]
    exact pe_methD R ok o m es ap pos
/-- a class method -/
def clsmD (r : Dn) (G : Ctx) (C m : Str) (es : List Expr) (ρ : Sl) : M D := match G.cmeth C m with
  | some (n, F) => if es ≠ [] then (do let ds ← aD r G es ρ; if ds.length = n then F (.adr C :: ds) else stuck) else stuck
  | none => stuck
def asC : D → Option Str
  | .adr C => some C
  | _ => none
theorem asC_den {W : Wd} {m : Mem} {d : D} {C : Str} (h : asC d = some C) : d = .adr C := by
  cases d <;> first | cases h <;> rfl | cases h
def methE (r : Dn) (G : Ctx) (o : Expr) (m : Str) (es : List Expr) (ok : Bool) (ρ : Sl) : M D := fun μ => match r.e G o ρ μ with
  | .ok d μ1 => (match asO μ1 d with
    | some (C, fs) => if plainO o = true ∧ noStar es = true ∧ ok = true ∧ G.hot = false ∧ es.length < 30 then instD r G C m d fs es ρ μ1 else .stuck
    | none => match asC d with
      | some C => if plainO o = true ∧ noStar es = true ∧ ok = true ∧ G.hot = false ∧ es.length < 30 then clsmD r G C m es ρ μ1 else .stuck
      | none => methF r G o m es ok ρ μ)
  | .exc _ _ => methF r G o m es ok ρ μ
  | .stuck => methF r G o m es ok ρ μ
theorem few_of {pos : Pos} {env : Env} : ∀ {es : List Expr}, noStar es = true → (backTo pos (starEach es env)).all (fun x => !x.1) = true
  | [], _ => rfl
  | e :: es, h => by
    obtain ⟨h1, h2⟩ := star_cons (env := env) h
    rw [h1]
    have ih := few_of (pos := pos) (env := env) h2
    unfold backTo at ih ⊢
    first
      | (rw [List.map_cons, List.all_cons]; rw [ih]; rfl)
      | (simp only [List.all_cons, Bool.not_false, Bool.true_and] at ih ⊢; exact ih)
      | (simp at ih ⊢; exact ih)
theorem hev_of {o : Expr} {m : Str} {apos pos : Pos} {es : List Expr} {env : Env} (h : plainO o = true) (hn : noStar es = true) (hl : es.length < 30) (hp : (apos.endLine == pos.line) = true) : eval (.Call (.Attribute o m apos) es [] pos) env = (do
      let ov ← eval o env
      standAt apos.atName
      let (g, first) ← holding [ov] (getMethod ov m (do return (← importBound o env).getD true))
      callWith pos g first (backTo pos (starEach es env)) (backToKw pos (keywordEach [] env))) := by
  have hf : methodCallForm (es.length + ([] : List Keyword).length) (backTo pos (starEach es env)) (backToKw pos (keywordEach [] env)) = true := by
    show ((backTo pos (starEach es env)).all (fun x => !x.1) && true && decide (es.length + 0 + 0 < 30)) = true
    rw [few_of hn, decide_eq_true (by omega)]
    rfl
  rw [arm_eval_Call, plainO_base h]
  unfold methodCall
  rw [hf]
  unfold calleeOf methodCallPos
  simp only [Bool.not_true, hp, Bool.or_true, ↓reduceIte, pure_bind]
theorem pe_methE (R : EnOk W r) (ok : EOk W X Z G) (old : ∀ (o : Expr) (m : Str) (es : List Expr) (apos pos : Pos), PE X (.Call (.Attribute o m apos) es [] pos) (TEof W Z (methF r G o m es (apos.endLine == pos.line)))) (o : Expr) (m : Str) (es : List Expr) (apos pos : Pos) :
    PE X (.Call (.Attribute o m apos) es [] pos) (TEof W Z (methE r G o m es (apos.endLine == pos.line))) := by
  refine ⟨fun pins s σ H Q I h => ?_⟩
  obtain ⟨ρ, mm, ee, g, rr, w⟩ := h
  unfold methE at w
  cases q : r.e G o ρ mm.μ with
  | stuck => rw [q] at w; exact (old o m es apos pos).run pins s σ H Q I ⟨ρ, mm, ee, g, rr, w⟩
  | exc x μ1 => rw [q] at w; exact (old o m es apos pos).run pins s σ H Q I ⟨ρ, mm, ee, g, rr, w⟩
  | ok d μ1 =>
    rw [q] at w
    cases q2 : asO μ1 d with
    | none =>
      simp only [q2] at w
      cases q4 : asC d with
      | none => simp only [q4] at w; exact (old o m es apos pos).run pins s σ H Q I ⟨ρ, mm, ee, g, rr, w⟩
      | some C =>
        simp only [q4] at w
        have ed := asC_den (W := W) (m := mm) q4
        subst ed
        by_cases hz : plainO o = true ∧ noStar es = true ∧ (apos.endLine == pos.line) = true ∧ G.hot = false ∧ es.length < 30
        · rw [if_pos hz] at w
          obtain ⟨z1, z2, z3, z4, z5⟩ := hz
          have w' : wpR W mm (EWish W Z σ) (fun d m' => ∀ v, Den W m' d v → Q v m'.H) (clsmD r G C m es ρ μ1) := w
          unfold clsmD at w'
          cases q3 : G.cmeth C m with
          | none => rw [q3] at w'; exact (show False from w').elim
          | some nF =>
            obtain ⟨n, F⟩ := nF
            rw [q3] at w'
            replace w' : wpR W mm (EWish W Z σ) (fun d m' => ∀ v, Den W m' d v → Q v m'.H) ((if es ≠ [] then (do let ds ← aD r G es ρ; if ds.length = n then F (.adr C :: ds) else stuck) else stuck : M D) μ1) := w'
            cases es with
            | nil => rw [if_neg (fun z => z rfl)] at w'; exact (show False from w').elim
            | cons e0 es =>
              rw [if_pos (fun z => nomatch z)] at w'
              obtain ⟨mc, p, f, fd, ps, rd, cm, FG, bs⟩ := ok.g.ob.cmeth C m n F q3
              rw [← ok.K] at rd cm FG bs
              obtain ⟨y1, y2⟩ := star_cons (env := X.env) z2
              refine (pe_cmethG (R.e ok o) rd cm FG (ok.room z4) ok.gd bs ok.tk (pa_D R ok z2) y1 (star_any y2) (hev_of z1 z2 z5 z3)).run pins s σ H Q I ⟨ρ, mm, ee, g, rr, ?_⟩
              rw [q]
              intro m1 s1 g1 e1 v hv
              rw [← e1] at w'
              refine ⟨den_adr hv, ρ, m1, rfl, g1, rr.mono s1, (wpR_bind (w'.behind s1)).mono (fun _ _ _ _ z => z) fun ds m2 s2 g2 w2 vs hvs => ?_⟩
              split at w2
              · rename_i hn
                exact ⟨by rw [List.length_cons, hvs.lenEq, hn], .adr C :: ds, m2, rfl, g2, .cons (.adr C) hvs, w2⟩
              · exact (show False from w2).elim
        · rw [if_neg hz] at w; exact w.elim
    | some cf =>
      obtain ⟨C, fs⟩ := cf
      simp only [q2] at w
      by_cases hz : plainO o = true ∧ noStar es = true ∧ (apos.endLine == pos.line) = true ∧ G.hot = false ∧ es.length < 30
      · rw [if_pos hz] at w
        obtain ⟨z1, z2, z3, z4, z5⟩ := hz
        cases q3 : G.meth C m with
        | none =>
          have w' : wpR W mm (EWish W Z σ) (fun d m' => ∀ v, Den W m' d v → Q v m'.H) (instD r G C m d fs es ρ μ1) := w
          unfold instD at w'
          rw [q3] at w'
          exact (show False from w').elim
        | some nF =>
          obtain ⟨n, F⟩ := nF
          have w' : wpR W mm (EWish W Z σ) (fun d m' => ∀ v, Den W m' d v → Q v m'.H) (instD r G C m d fs es ρ μ1) := w
          unfold instD at w'
          rw [q3] at w'
          replace w' : wpR W mm (EWish W Z σ) (fun d m' => ∀ v, Den W m' d v → Q v m'.H) ((if fs.lookup m = none then (do let ds ← aD r G es ρ; if ds.length = n then F (d :: ds) else stuck) else stuck : M D) μ1) := w'
          by_cases hno : fs.lookup m = none
          · rw [if_pos hno] at w'
            obtain ⟨f, fd, ps, c, hm, FG, bs⟩ := ok.g.ob.meth C m n F q3
            rw [← ok.K] at c hm FG bs
            have fin : wpR W mm (EWish W Z σ) (fun d1 m1 => ∀ v, Den W m1 d1 v → ∃ a dx fv, v = .ref a ∧ m1.H a = some (.ins (W.ca C) dx fv) ∧ fv.lookup m = none ∧ TAof W Z (aD r G es) σ m1.H fun vs H2 => spOf W (n + 1) F (v :: vs) H2 Q (WE Z σ)) (r.e G o ρ mm.μ) := by
              rw [q]
              intro m1 s1 g1 e1 v hv
              rw [← e1] at q2 w'
              obtain ⟨a, dx, fv, rfl, h1, h3⟩ := asO_den g1 hv q2
              refine ⟨a, dx, fv, rfl, h1, (denF_get h3 m).2 hno, ρ, m1, rfl, g1, rr.mono s1, (wpR_bind (w'.behind s1)).mono (fun _ _ _ _ z => z) fun ds m2 s2 g2 w2 vs hvs => ?_⟩
              split at w2
              · rename_i hn
                exact ⟨by rw [List.length_cons, hvs.lenEq, hn], d :: ds, m2, rfl, g2, .cons (hv.mono s2) hvs, w2⟩
              · exact (show False from w2).elim
            cases es with
            | nil =>
              refine (pe_methG0 (R.e ok o) c hm FG (ok.room z4) ok.gd bs ok.tk (hev_of z1 z2 z5 z3)).run pins s σ H Q I ⟨ρ, mm, ee, g, rr, fin.mono (fun _ _ _ _ z => z) fun d1 m1 s1 g1 w1 v hv => ?_⟩
              obtain ⟨a, dx, fv, e1, e2, e3, ρ2, m2, e4, g2, r2, w2⟩ := w1 v hv
              refine ⟨a, dx, fv, e1, e2, e3, ?_⟩
              rw [← e4]
              exact w2 m2 (Step.refl m2) g2 rfl [] .nil
            | cons e0 es =>
              obtain ⟨y1, y2⟩ := star_cons (env := X.env) z2
              exact (pe_methG (R.e ok o) c hm FG (ok.room z4) ok.gd bs ok.tk (pa_D R ok z2) y1 (star_any y2) (hev_of z1 z2 z5 z3)).run pins s σ H Q I ⟨ρ, mm, ee, g, rr, fin⟩
          · rw [if_neg hno] at w'
            exact (show False from w').elim
      · rw [if_neg hz] at w
        exact w.elim
end
def stepE3 (r : Dn) (G : Ctx) (e : Expr) (ρ : Sl) : M D := match e with
  | .Attribute o f _ => attrE r G o f ρ
  | .Call (.Attribute o m ap) es [] pos => methE r G o m es (ap.endLine == pos.line) ρ
  | e => stepE2 r G e ρ
theorem pe_stepE3 {W : Wd} {Z : WX} {X : Cx} {G : Ctx} {r : Dn} (R : EnOk W r) (ok : EOk W X Z G) (e : Expr) : PE X e (TEof W Z (stepE3 r G e)) := by
  unfold stepE3
  split
  · exact pe_attrE R ok _ _ _
  · exact pe_methE R ok (fun o m es apos pos => pe_methF R ok o m es apos pos) _ _ _ _ _
  · exact pe_stepE2 R ok _
end Pu

set_option Elab.async false
set_option linter.all false
set_option maxRecDepth 100000
/-! Pu21: a new instance. -/
namespace Pu
open PySem L2
/-- behind __init__: the instance, plain unless it is to change further -/
def madeD (keep : Bool) (i : Nat) (d : D) : M D := fun μ => match d, μ[i]? with
  | .non, some (.obj C fs) => if keep = true then .ok (.cell i) μ else .ok (.obj C fs) (μ.set i .dead)
  | _, _ => .stuck
def newO (C : Str) : M Nat := fun μ => .ok μ.length (μ ++ [.obj C []])
def makeE (r : Dn) (G : Ctx) (x : Str) (n : Nat) (F : List D → M D) (es : List Expr) (pos : Pos) (ρ : Sl) : M D :=
  if okName x = true ∧ noStar es = true ∧ glB G.sc x = true ∧ G.hot = false then (do
    let ds ← aD r G es ρ
    if ds.length = n then (do
      let i ← newO x
      let d ← F (.cell i :: ds)
      madeD (G.hint pos == 3) i d) else stuck) else stuck
section
variable {W : Wd} {Z : WX} {X : Cx} {G : Ctx} {r : Dn}
theorem made_out {m m2 : Mem} {i : Nat} {a : Addr} {C : Str} {keep : Bool} {d : D} {v : V} {E : Ex → Mem → Prop} {Q : VK} (g : Okm W m) (ha : m.as[i]? = some a) (hv : Den W m d v) (w : out W m E Q (madeD keep i d m.μ)) : v = .non ∧ Q (.ref a) m.H := by
  unfold madeD at w
  split at w
  · rename_i C fs e
    cases hv
    refine ⟨rfl, ?_⟩
    by_cases hk : keep = true
    · rw [if_pos hk] at w
      exact w m (Step.refl m) g rfl _ (.cell ha)
    · rw [if_neg hk] at w
      obtain ⟨dx, fv, h2, h3⟩ := g.ok i _ a e ha
      exact w (m.die i) step_die (good_die g) rfl _ (.obj h2 (die_live g ha) (h3.mono step_die))
  · exact (show False from w).elim
theorem pe_makeE (R : EnOk W r) (ok : EOk W X Z G) (x : Str) (n : Nat) (F : List D → M D) (hF : G.make x = some (n, F)) (p : Pos) (es : List Expr) (pos : Pos) : PE X (.Call (.Name x p) es [] pos) (TEof W Z (makeE r G x n F es pos)) := by
  by_cases h0 : okName x = true ∧ noStar es = true ∧ glB G.sc x = true ∧ G.hot = false
  · obtain ⟨h1, h2, h3, h4⟩ := id h0
    obtain ⟨hm, f, fd, ps, j, hj, M, FG, bs⟩ := ok.g.ob.make x n F hF
    rw [← ok.K] at M FG bs
    have room : Room (j + 1) X.A := (ok.room h4).mono hj
    -- what __init__ is asked
    have fin : ∀ {σ H Q}, TEof W Z (makeE r G x n F es pos) σ H Q → TAof W Z (aD r G es) σ H fun vs H1 => ∀ y dx, H1 y = none → H1 dx = none → dx ≠ y → spOf W (n + 1) F (.ref y :: vs) (upd (upd H1 dx (.own y)) y (.ins (W.ca x) dx [])) (fun v H2 => v = .non ∧ Q (.ref y) H2) (WE Z σ) := by
      rintro σ H Q h
      obtain ⟨ρ, m, e, g, rr, w⟩ := (te_if h).2
      refine ⟨ρ, m, e, g, rr, (wpR_bind w).mono (fun _ _ _ _ z => z) fun ds m1 s1 g1 w1 vs hvs y dx hy hdx hne => ?_⟩
      split at w1
      · rename_i hn
        have s2 : Step m1 (m1.put dx (.own y)) := step_put g1 hdx
        have g2 : Okm W (m1.put dx (.own y)) := good_put g1 hdx
        have hy2 : (m1.put dx (.own y)).H y = none := by
          show upd m1.H dx (.own y) y = none
          rw [upd_ne (Ne.symm hne)]
          exact hy
        let m3 : Mem := (m1.put dx (.own y)).grow y (.ins (W.ca x) dx []) (.obj x [])
        have s3 : Step (m1.put dx (.own y)) m3 := step_grow g2 hy2
        have g3 : Okm W m3 := good_grow g2 hy2 ⟨dx, [], upd_same, .nil⟩
        have hi : m3.as[m1.μ.length]? = some y := by
          show (m1.as ++ [y])[m1.μ.length]? = some y
          rw [← g1.len]
          simp
        have w2 := w1.behind (s2.trans s3)
        refine ⟨by rw [List.length_cons, hvs.lenEq, hn], .cell m1.μ.length :: ds, m3, rfl, g3, .cons (.cell hi) ((hvs.mono s2).mono s3), ?_⟩
        have w3 : wpR W m3 (EWish W Z σ) (fun d m' => ∀ v, Den W m' d v → Q v m'.H) ((F (.cell m1.μ.length :: ds) >>= fun d => madeD (G.hint pos == 3) m1.μ.length d) m3.μ) := w2
        exact (wpR_bind w3).mono (fun _ _ _ _ z => z) fun d m4 s4 g4 w4 v hv => made_out (m2 := m4) (C := x) g4 (s4.as hi) hv w4
      · exact (show False from w1).elim
    cases es with
    | nil =>
      refine ⟨fun pins s σ H Q I h => wpAny_Call_Name_kw (ld_glob I (gl_of ok h3) hm ?_ (okName_1 h1))⟩
      obtain ⟨ρ, m, e, g, rr, w⟩ := fin h
      subst e
      exact PySem.W.callWith_K0 I.kIn M.kp (run_makeG (us := []) M FG room ok.gd bs ok.tk I .nil (w m (Step.refl m) g rfl [] .nil))
    | cons e0 es =>
      obtain ⟨z1, z2⟩ := star_cons (env := X.env) h2
      refine ⟨fun pins s σ H Q I h => wpAny_Call_Name_kw (ld_glob I (gl_of ok h3) hm ?_ (okName_1 h1))⟩
      exact PySem.W.callWith_K (h₀ := X.base) I.ok.mod.kin M.kp (thn ((pa_D R ok h2).run pos pins s σ H _ I (fin h)) fun us s1 ⟨vs, H1, I1, rv, q⟩ => ⟨I1.kIn, run_makeG M FG room ok.gd bs ok.tk I1 rv q⟩) z1 (star_any z2)
  · exact PE.weak PE.any fun σ H Q h => h0 (te_if h).1
end
/-- x(e, ..), x a name of the def: an instance, a class -/
def asP : D → Option Str
  | .obj C _ => some C
  | _ => none
def callVD (r : Dn) (G : Ctx) (d : D) (es : List Expr) (pos : Pos) (ρ : Sl) : M D := match asP d with
  | some C => match G.dun C "__call__" with
    | some (n, F) => do
      let ds ← aD r G es ρ
      if ds.length = n then F (d :: ds) else stuck
    | none => stuck
  | none => match asC d with
    | some C => match G.make C with
      | some (n, F) => do
        let ds ← aD r G es ρ
        if ds.length = n then (do
          let i ← newO C
          let y ← F (.cell i :: ds)
          madeD (G.hint pos == 3) i y) else stuck
      | none => stuck
    | none => stuck
def callV (r : Dn) (G : Ctx) (x : Str) (p : Pos) (es : List Expr) (pos : Pos) (ρ : Sl) : M D :=
  if noStar es = true ∧ es ≠ [] ∧ G.hot = false then (do let d ← r.e G (.Name x p) ρ; callVD r G d es pos ρ) else stuck
section
variable {W : Wd} {Z : WX} {X : Cx} {G : Ctx} {r : Dn}
theorem pe_callV' (R : EnOk W r) (ok : EOk W X Z G) (x : Str) (p : Pos) (es : List Expr) (pos : Pos) : PE X (.Call (.Name x p) es [] pos) (TEof W Z (callV r G x p es pos)) := by
  by_cases h0 : noStar es = true ∧ es ≠ [] ∧ G.hot = false
  · obtain ⟨h2, h3, h4⟩ := id h0
    cases es with
    | nil => exact absurd rfl h3
    | cons e0 es =>
      obtain ⟨z1, z2⟩ := star_cons (env := X.env) h2
      refine PE.weak (pe_callV (R.e ok (.Name x p)) (pa_D R ok h2) rfl z1 (star_any z2) ok.gd ok.tk) fun σ H Q h => ?_
      obtain ⟨ρ, m, e, g, rr, w⟩ := (te_if h).2
      refine ⟨ρ, m, e, g, rr, (wpR_bind w).mono (fun _ _ _ _ z => z) fun d m1 s1 g1 w1 v hv => ?_⟩
      unfold callVD at w1
      cases q : asP d with
      | some C =>
        rw [q] at w1
        simp only at w1
        cases d with
        | obj C' fs =>
          cases q
          cases q2 : G.dun C "__call__" with
          | none => rw [q2] at w1; exact (show False from w1).elim
          | some nF =>
            obtain ⟨n, F⟩ := nF
            rw [q2] at w1
            simp only at w1
            cases hv with
            | @obj _ _ a dx fv ha hl hf =>
              obtain ⟨f, fd, ps, j, hj, c, hm, FG, bs, fi⟩ := ok.g.ob.dun C "__call__" n F q2
              rw [← ok.K] at c hm FG bs fi
              refine ⟨a, rfl, .inl ⟨W.ca C, f, j, fd, ps, _, ⟨hm.at_, hm.fn, fi⟩, FG, (ok.room h4).mono (by omega), bs, ρ, m1, rfl, g1, rr.mono s1, (wpR_bind w1).mono (fun _ _ _ _ z => z) fun ds m2 s2 g2 w2 vs hvs => ?_⟩⟩
              have hd2 : Den W m2 (.obj C fs) (.ref a) := (Den.obj ha hl hf).mono s2
              refine ⟨⟨dx, fv, s2.keep a _ ha hl⟩, ?_⟩
              split at w2
              · rename_i hn
                exact ⟨by rw [List.length_cons, hvs.lenEq, hn], .obj C fs :: ds, m2, rfl, g2, .cons hd2 hvs, w2⟩
              · exact (show False from w2).elim
        | _ => cases q
      | none =>
        rw [q] at w1
        simp only at w1
        cases q4 : asC d with
        | none => rw [q4] at w1; exact (show False from w1).elim
        | some C =>
          rw [q4] at w1
          simp only at w1
          have ed := asC_den (W := W) (m := m1) q4
          subst ed
          cases q2 : G.make C with
          | none => rw [q2] at w1; exact (show False from w1).elim
          | some nF =>
            obtain ⟨n, F⟩ := nF
            rw [q2] at w1
            simp only at w1
            obtain ⟨hm, f, fd, ps, j, hj, M, FG, bs⟩ := ok.g.ob.make C n F q2
            rw [← ok.K] at M FG bs
            refine ⟨W.ca C, den_adr hv, .inr ⟨f, j, fd, ps, _, M, FG, (ok.room h4).mono hj, bs, ρ, m1, rfl, g1, rr.mono s1, (wpR_bind w1).mono (fun _ _ _ _ z => z) fun ds m1 s1 g1 w1 vs hvs y dx hy hdx hne => ?_⟩⟩
            split at w1
            · rename_i hn
              have s2 : Step m1 (m1.put dx (.own y)) := step_put g1 hdx
              have g2 : Okm W (m1.put dx (.own y)) := good_put g1 hdx
              have hy2 : (m1.put dx (.own y)).H y = none := by
                show upd m1.H dx (.own y) y = none
                rw [upd_ne (Ne.symm hne)]
                exact hy
              let m3 : Mem := (m1.put dx (.own y)).grow y (.ins (W.ca C) dx []) (.obj C [])
              have s3 : Step (m1.put dx (.own y)) m3 := step_grow g2 hy2
              have g3 : Okm W m3 := good_grow g2 hy2 ⟨dx, [], upd_same, .nil⟩
              have hi : m3.as[m1.μ.length]? = some y := by
                show (m1.as ++ [y])[m1.μ.length]? = some y
                rw [← g1.len]
                simp
              have w2 := w1.behind (s2.trans s3)
              refine ⟨by rw [List.length_cons, hvs.lenEq, hn], .cell m1.μ.length :: ds, m3, rfl, g3, .cons (.cell hi) ((hvs.mono s2).mono s3), ?_⟩
              have w3 : wpR W m3 (EWish W Z σ) (fun d m' => ∀ v, Den W m' d v → Q v m'.H) ((F (.cell m1.μ.length :: ds) >>= fun d => madeD (G.hint pos == 3) m1.μ.length d) m3.μ) := w2
              exact (wpR_bind w3).mono (fun _ _ _ _ z => z) fun d m4 s4 g4 w4 v hv => made_out (m2 := m4) (C := C) g4 (s4.as hi) hv w4
            · exact (show False from w1).elim
  · exact PE.weak PE.any fun σ H Q h => h0 (te_if h).1
end
def stepE4 (r : Dn) (G : Ctx) (e : Expr) (ρ : Sl) : M D := match e with
  | .Call (.Name x p) es [] pos => if glB G.sc x = true then (match G.make x with
    | some (n, F) => makeE r G x n F es pos ρ
    | none => stepE3 r G (.Call (.Name x p) es [] pos) ρ) else callV r G x p es pos ρ
  | e => stepE3 r G e ρ
theorem pe_stepE4 {W : Wd} {Z : WX} {X : Cx} {G : Ctx} {r : Dn} (R : EnOk W r) (ok : EOk W X Z G) (e : Expr) : PE X e (TEof W Z (stepE4 r G e)) := by
  unfold stepE4
  split
  · rename_i x p es pos
    by_cases hg : glB G.sc x = true
    · simp only [hg, ↓reduceIte]
      cases q : G.make x with
      | none => exact pe_stepE3 R ok _
      | some nF => exact pe_makeE R ok x nF.1 nF.2 q p es pos
    · simp only [hg, ↓reduceIte]
      exact pe_callV' R ok x p es pos
  · exact pe_stepE3 R ok _
end Pu

set_option Elab.async false
set_option linter.all false
set_option maxRecDepth 100000
/-! Pu25: f-strings, displays with a star, d.get. -/
namespace Pu
open PySem L2
/-! ### f-strings -/
def fmtD (d : D) : M D := fun μ => match d with
  | .str y => if y.length ≤ sizeLine then .ok (.str y) μ else .stuck
  | .int i => if i.natAbs.log2 < 1920 then .ok (.str (toString i)) μ else .stuck
  | _ => .stuck
def fmtE (r : Dn) (G : Ctx) (a : Expr) (c : Int) (ρ : Sl) : M D := if c = -1 then (do let d ← r.e G a ρ; fmtD d) else stuck
def partsD (r : Dn) (G : Ctx) : List Expr → Sl → Str → M Str
  | [], _, acc => yes acc
  | e :: es, ρ, acc => do
    let d ← r.e G e ρ
    let y ← isStr d
    if (acc ++ y).length ≤ sizeLine then partsD r G es ρ (acc ++ y) else stuck
def jsE (r : Dn) (G : Ctx) (vs : List Expr) (ρ : Sl) : M D := match vs with
  | [] => stuck
  | [a] => r.e G a ρ
  | a :: b :: rest => do let y ← partsD r G (a :: b :: rest) ρ Str.empty; yes (.str y)
/-! ### displays with a star -/
def spliceD (d : D) : M (List D) := fun μ => match asS μ d with
  | some ds => .ok ds μ
  | none => .stuck
def aSD (r : Dn) (G : Ctx) : List Expr → Sl → M (List D)
  | [], _ => yes []
  | .Starred e _ :: es, ρ => do
    let d ← r.e G e ρ
    let ds ← spliceD d
    let rest ← aSD r G es ρ
    yes (ds ++ rest)
  | e :: es, ρ => do let d ← r.e G e ρ; let ds ← aSD r G es ρ; yes (d :: ds)
def starE (r : Dn) (G : Ctx) (es : List Expr) (pos : Pos) (ρ : Sl) : M D := do let ds ← aSD r G es ρ; newL (G.hint pos) ds
/-! ### d.get -/
def isDic (d : D) : M Unit := fun μ => match asD μ d with
  | some _ => .ok () μ
  | none => .stuck
def getK (d x z : D) : M D := fun μ => match asD μ d, keyOf x with
  | some kvs, some k => .ok ((valD kvs k).getD z) μ
  | _, _ => .stuck
def getE1 (r : Dn) (G : Ctx) (o a : Expr) (ok : Bool) (ρ : Sl) : M D :=
  if plainO o = true ∧ noStar [a] = true ∧ ok = true then (do let d ← r.e G o ρ; let _ ← isDic d; let x ← r.e G a ρ; getK d x .non) else stuck
def getE2 (r : Dn) (G : Ctx) (o a b : Expr) (ok : Bool) (ρ : Sl) : M D :=
  if plainO o = true ∧ noStar [a, b] = true ∧ ok = true then (do let d ← r.e G o ρ; let _ ← isDic d; let x ← r.e G a ρ; let z ← r.e G b ρ; getK d x z) else stuck
section
variable {W : Wd} {Z : WX} {X : Cx} {G : Ctx} {r : Dn}
theorem pe_fmtE (R : EnOk W r) (ok : EOk W X Z G) (a : Expr) (c : Int) (pos : Pos) : PE X (.FormattedValue a c none pos) (TEof W Z (fmtE r G a c)) := by
  by_cases hc : c = -1
  · subst hc
    refine PE.weak (pe_fmt (R.e ok a)) fun σ H Q h => ?_
    obtain ⟨ρ, m, e, g, rr, w⟩ := (te_if h).2
    refine ⟨ρ, m, e, g, rr, (wpR_bind w).mono (fun _ _ _ _ z => z) fun d m1 s1 g1 w1 v hv => ?_⟩
    unfold fmtD at w1
    cases d with
    | str y =>
      cases den_str hv
      simp only at w1
      by_cases hy : y.length ≤ sizeLine
      · rw [if_pos hy] at w1; exact .inl ⟨y, rfl, hy, w1 m1 (Step.refl m1) g1 rfl _ (.str y)⟩
      · rw [if_neg hy] at w1; exact w1.elim
    | int i =>
      cases den_int hv
      simp only at w1
      by_cases hy : i.natAbs.log2 < 1920
      · rw [if_pos hy] at w1; exact .inr ⟨i, rfl, hy, w1 m1 (Step.refl m1) g1 rfl _ (.str _)⟩
      · rw [if_neg hy] at w1; exact w1.elim
    | _ => exact (show False from w1).elim
  · exact PE.weak PE.any fun σ H Q h => hc (te_if h).1
theorem pj_D (R : EnOk W r) (ok : EOk W X Z G) : ∀ es : List Expr, PJ X es (es.map fun e => TEof W Z (r.e G e))
  | [] => .nil
  | e :: es => .cons (R.e ok e) (pj_D R ok es)
theorem parts_read {σ : St} {ρ : Sl} : ∀ (es : List Expr) (acc : Str) (P : Str → Hp → Prop) (m : Mem), EnvOk W m ρ σ → Okm W m → wpR W m (EWish W Z σ) (fun y m' => P y m'.H) (partsD r G es ρ acc m.μ) → tJs (es.map fun e => TEof W Z (r.e G e)) acc σ m.H P
  | [], acc, P, m, rr, g, w => w m (Step.refl m) g rfl
  | e :: es, acc, P, m, rr, g, w => by
    refine ⟨ρ, m, rfl, g, rr, (wpR_bind w).mono (fun _ _ _ _ z => z) fun d m1 s1 g1 w1 v hv => ?_⟩
    obtain ⟨y, rfl, w2⟩ := isStr_wp hv w1
    by_cases hy : (acc ++ y).length ≤ sizeLine
    · rw [if_pos hy] at w2
      exact ⟨y, rfl, hy, parts_read es (acc ++ y) P m1 (rr.mono s1) g1 w2⟩
    · rw [if_neg hy] at w2; exact (show False from w2).elim
theorem pe_jsE (R : EnOk W r) (ok : EOk W X Z G) (vs : List Expr) (pos : Pos) : PE X (.JoinedStr vs pos) (TEof W Z (jsE r G vs)) := by
  match vs with
  | [] => exact PE.weak PE.any fun σ H Q h => te_none (f := fun _ => stuck) (fun _ => rfl) h
  | [a] => exact pe_joined1 (R.e ok a)
  | a :: b :: rest =>
    refine PE.weak (pe_joined (pj_D R ok (a :: b :: rest))) fun σ H Q h => ?_
    obtain ⟨ρ, m, e, g, rr, w⟩ := h
    subst e
    exact parts_read (a :: b :: rest) Str.empty _ m rr g ((wpR_bind w).mono (fun _ _ _ _ z => z) fun y m1 s1 g1 w1 => w1 m1 (Step.refl m1) g1 rfl _ (.str y))
/-! ### displays -/
theorem pas_D (R : EnOk W r) (ok : EOk W X Z G) : ∀ es : List Expr, PA X es (TAof W Z (aSD r G es))
  | [] => PA.weak pa_nil fun σ H Q h => by obtain ⟨ρ, m, rfl, g, rr, w⟩ := h; exact w m (Step.refl m) g rfl _ .nil
  | e :: es => by
    have pl : noStar [e] = true → aSD r G (e :: es) = (fun ρ => do let d ← r.e G e ρ; let ds ← aSD r G es ρ; yes (d :: ds)) → PA X (e :: es) (TAof W Z (aSD r G (e :: es))) := fun hs he => by
      refine PA.weak (pa_cons (R.e ok e) (pas_D R ok es) (hs := (by cases e <;> first | rfl | cases hs))) fun σ H Q h => ?_
      rw [he] at h
      obtain ⟨ρ, m, e1, g, rr, w⟩ := h
      exact ⟨ρ, m, e1, g, rr, (wpR_bind w).mono (fun _ _ _ _ z => z) fun d m1 s1 g1 w1 v hv => ⟨ρ, m1, rfl, g1, rr.mono s1, (wpR_bind w1).mono (fun _ _ _ _ z => z) fun ds m2 s2 g2 w2 vs hvs => w2 m2 (Step.refl m2) g2 rfl _ (.cons (hv.mono s2) hvs)⟩⟩
    cases e with
    | Starred a p =>
      refine PA.weak (StX.pa_star (R.e ok a) (pas_D R ok es)) fun σ H Q h => ?_
      obtain ⟨ρ, m, e1, g, rr, w⟩ := h
      refine ⟨ρ, m, e1, g, rr, (wpR_bind w).mono (fun _ _ _ _ z => z) fun d m1 s1 g1 w1 v hv => ?_⟩
      have w1' := wpR_bind w1
      unfold spliceD at w1'
      cases q : asS m1.μ d with
      | none => rw [q] at w1'; exact w1'.elim
      | some ds =>
        rw [q] at w1'
        obtain ⟨a2, vs, rfl, h1, l1⟩ := asS_den g1 hv q
        refine ⟨a2, vs, rfl, by rw [ok.K]; exact h1.symm, ρ, m1, rfl, g1, rr.mono s1, (wpR_bind (w1' m1 (Step.refl m1) g1 rfl)).mono (fun _ _ _ _ z => z) fun rest m2 s2 g2 w2 ws hws => w2 m2 (Step.refl m2) g2 rfl _ ((l1.mono s2).append hws)⟩
    | _ => exact pl rfl rfl
theorem pe_starE (R : EnOk W r) (ok : EOk W X Z G) (es : List Expr) (pos : Pos) : PE X (.List es pos) (TEof W Z (starE r G es pos)) := by
  refine PE.weak (pe_lst (pas_D R ok es)) fun σ H Q h => ?_
  obtain ⟨ρ, m, e, g, rr, w⟩ := h
  refine ⟨ρ, m, e, g, rr, (wpR_bind w).mono (fun _ _ _ _ z => z) fun ds m1 s1 g1 w1 vs hvs => newL_out g1 hvs w1⟩
/-! ### d.get -/
theorem isDic_wp {α : Type} {m : Mem} {d : D} {v : V} {E : Ex → Mem → Prop} {P : α → Mem → Prop} {f : Unit → M α} (g : Okm W m) (hv : Den W m d v) (w : wpR W m E P ((do let z ← isDic d; f z) m.μ)) : ∃ a kv, v = .ref a ∧ Rd m.H a (.dK kv) ∧ wpR W m E P (f () m.μ) := by
  have w' : wpR W m E P (M.bind (isDic d) f m.μ) := w
  unfold M.bind isDic at w'
  cases q : asD m.μ d with
  | none => rw [q] at w'; exact w'.elim
  | some kvs =>
    rw [q] at w'
    obtain ⟨a, kv, e, h, _⟩ := asD_den g hv q
    exact ⟨a, kv, e, h, w'⟩
theorem getK_out {m : Mem} {d x z : D} {a : Addr} {vx vz : V} {E : Ex → Mem → Prop} {Q : VK} (g : Okm W m) (hd : Den W m d (.ref a)) (hx : Den W m x vx) (hz : Den W m z vz) (w : out W m E Q (getK d x z m.μ)) : ∃ o, DGet m.H a vx o ∧ Q (o.getD vz) m.H := by
  unfold getK at w
  cases q0 : asD m.μ d with
  | none => rw [q0] at w; exact (show False from w).elim
  | some kvs =>
    obtain ⟨a', kv, e, ha, l⟩ := asD_den g hd q0
    cases e
    cases q : keyOf x with
    | none => rw [q0, q] at w; exact (show False from w).elim
    | some k =>
      rw [q0, q] at w
      simp only at w
      refine ⟨valV kv k, .inl ⟨kv, k, ha, keyOf_den hx q, rfl⟩, ?_⟩
      obtain ⟨i1, i2⟩ := valD_den (k := k) l
      cases q2 : valD kvs k with
      | none =>
        rw [i2 q2]
        rw [q2] at w
        exact out.same w g hz
      | some d =>
        obtain ⟨v, e1, e2⟩ := i1 d q2
        rw [e1]
        rw [q2] at w
        exact out.same w g e2
theorem pe_getE1 (R : EnOk W r) (ok : EOk W X Z G) (o a : Expr) (ap pos : Pos) : PE X (.Call (.Attribute o "get" ap) [a] [] pos) (TEof W Z (getE1 r G o a (ap.endLine == pos.line))) := by
  by_cases h0 : plainO o = true ∧ noStar [a] = true ∧ (ap.endLine == pos.line) = true
  · obtain ⟨z1, z2⟩ := star_cons (env := X.env) h0.2.1
    refine PE.weak (pe_dget1 (by have := ok.un; omega) (R.e ok o) (R.e ok a) ⟨plainO_base h0.1 _ X.env, few1 h0.2.1, h0.2.2, by rw [z1]; rfl⟩) fun σ H Q h => ?_
    obtain ⟨ρ, m, e, g, rr, w⟩ := (te_if h).2
    refine ⟨ρ, m, e, g, rr, (wpR_bind w).mono (fun _ _ _ _ z => z) fun d m1 s1 g1 w1 v hv => ?_⟩
    obtain ⟨b, kv, rfl, h1, w2⟩ := isDic_wp g1 hv w1
    refine ⟨b, rfl, .inl ⟨kv, h1⟩, ρ, m1, rfl, g1, rr.mono s1, (wpR_bind w2).mono (fun _ _ _ _ z => z) fun x m2 s2 g2 w3 vx hx => ?_⟩
    exact getK_out g2 (hv.mono s2) hx .non w3
  · exact PE.weak PE.any fun σ H Q h => h0 (te_if h).1
theorem few2 {pos : Pos} {env : Env} {e f : Expr} (h : noStar [e, f] = true) : ((backTo pos (starEach [e, f] env)).all (fun x => !x.1) && (backToKw pos (keywordEach [] env)).all (fun x => x.1.isSome) && decide (([e, f] : List Expr).length + ([] : List Keyword).length + (if ([] : List Keyword).isEmpty then 0 else 1) < 30)) = true := by
  obtain ⟨h1, h2⟩ := star_cons (env := env) h
  obtain ⟨h3, _⟩ := star_cons (env := env) h2
  rw [h1, h3]
  rfl
theorem pe_getE2 (R : EnOk W r) (ok : EOk W X Z G) (o a b : Expr) (ap pos : Pos) : PE X (.Call (.Attribute o "get" ap) [a, b] [] pos) (TEof W Z (getE2 r G o a b (ap.endLine == pos.line))) := by
  by_cases h0 : plainO o = true ∧ noStar [a, b] = true ∧ (ap.endLine == pos.line) = true
  · obtain ⟨z1, z2⟩ := star_cons (env := X.env) h0.2.1
    obtain ⟨z3, _⟩ := star_cons (env := X.env) z2
    refine PE.weak (pe_dget2 (by have := ok.un; omega) (R.e ok o) (R.e ok a) (R.e ok b) ⟨plainO_base h0.1 _ X.env, few2 h0.2.1, h0.2.2, by rw [z1, z3]; rfl⟩) fun σ H Q h => ?_
    obtain ⟨ρ, m, e, g, rr, w⟩ := (te_if h).2
    refine ⟨ρ, m, e, g, rr, (wpR_bind w).mono (fun _ _ _ _ z => z) fun d m1 s1 g1 w1 v hv => ?_⟩
    obtain ⟨b, kv, rfl, h1, w2⟩ := isDic_wp g1 hv w1
    refine ⟨b, rfl, .inl ⟨kv, h1⟩, ρ, m1, rfl, g1, rr.mono s1, (wpR_bind w2).mono (fun _ _ _ _ z => z) fun x m2 s2 g2 w3 vx hx => ?_⟩
    refine ⟨ρ, m2, rfl, g2, (rr.mono s1).mono s2, (wpR_bind w3).mono (fun _ _ _ _ z => z) fun y m3 s3 g3 w4 vy hy => ?_⟩
    exact getK_out g3 (hv.mono (s2.trans s3)) (hx.mono s3) hy w4
  · exact PE.weak PE.any fun σ H Q h => h0 (te_if h).1
end
end Pu

set_option Elab.async false
set_option linter.all false
set_option maxRecDepth 100000
set_option maxHeartbeats 1000000
/-! Pu26: {k: v for .. for ..} in the machine: a clause's walk, told once for both clauses. -/
namespace Pu
open PySem PySem.Spec PyProof.Rows L2
/-! ### a clause's walk -/
/-- the tests of a clause -/
abbrev testsM (ifs : List Expr) (env : Env) : Sem Bool := forIn ifs true fun c r => if r = true then do let ok ← isTrue c env (eval c env); pure (ForInStep.yield ok) else pure (ForInStep.yield r)
/-- one turn: Body runs where the tests hold -/
def TurnW (M : Model) (A : Around) (tg : Expr) (ifs : List Expr) (env : Env) (it : Value) (Er : Value → Shared → Prop) (Body : Shared → (Shared → Prop) → Prop) (stop : Shared → Prop) (Post : Shared → Prop) (s : Shared) : Prop :=
  wpAny M A (pyNext it) (fun r s1 => match r with
    | none => stop s1
    | some v => wpAny M A (letOwnedTupleGo tg it v) (fun _ s2 => wpAny M A (assign tg env v) (fun _ s3 => wpAny M A (testsM ifs env) (fun b s4 => if b = true then Body s4 Post else Post s4) Er s3) Er s2) Er s1) Er s
/-- a loop of a comprehension as a reading -/
def Loop (J : It) (g : TG) (tt : TT) (bd : L2.St → Hp → (Hp → Prop) → Prop) (vs : List Nat) (σ : L2.St) (H0 : Hp) (Qe : Hp → Prop) : Prop :=
  ∃ W : Nat → Nat → Hp → Prop, (∃ m, W 0 m H0) ∧ ∀ i m H, W i m H → (J.stop i H ∧ Qe H) ∨ (J.go i H ∧ ∃ Nx : Hp → Prop, (∀ H', Nx H' → ∃ m', m' < m ∧ W (i + 1) m' H') ∧
    ∀ x H', J.yld i H x H' → g x (wipe σ vs) H' fun σ2 H2 => wipe σ2 vs = wipe σ vs ∧ tt σ2 H2 fun b H3 => if b = true then bd σ2 H3 Nx else Nx H3)
section
variable {B : Cx} {tg : Expr} {ifs : List Expr} {J : It} {fp : List Addr} {it : Addr} {tn : Nat → Heap → Prop} {g : TG} {tt : TT} {bd : L2.St → Hp → (Hp → Prop) → Prop} {vs : List Nat} {Body : Shared → (Shared → Prop) → Prop} {c : Code} {R : Result → Shared → Prop} {Er : Value → Shared → Prop}
theorem clause_run (hc : B.calm = true) (T : Turn B.prog B.w B.K tg J fp it tn) (pg : PG B tg g) (pt : PTs B ifs tt) (hx : ∀ e s, B.xe e s → Er e s) (mono : ∀ s P P', Body s P → (∀ s', P s' → P' s') → Body s P')
    (body : ∀ pins s σ H Nx, Inv B pins σ H s → bd σ H Nx → Body s fun s' => ∃ σ' H', Inv B pins σ' H' s' ∧ σ'.length = σ.length ∧ (∀ j, j ∉ vs → σ'[j]? = σ[j]?) ∧ Nx H')
    (lp : ∀ I : Nat → Shared → Prop, (∀ n s, I n s → TurnW (model B.prog B.w) B.A tg ifs B.env (.ref it) Er Body (R (.ok .next)) (fun s' => ∃ k, k < n ∧ I k s') s) → ∀ n s, I n s → codeAny (model B.prog B.w) B.A c R s)
    {pins : List (Addr × Obj)} {σ : L2.St} {H : Hp} {s : Shared} {Qe : Hp → Prop} (I0 : Inv B pins (wipe σ vs) H s) (st0 : tn 0 s.heap) (hf : ∀ b ∈ fp, FpOk B pins H b) (L : Loop J g tt bd vs σ H Qe)
    (fin : ∀ s' H', Inv B pins (wipe σ vs) H' s' → Qe H' → R (.ok .next) s') : codeAny (model B.prog B.w) B.A c R s := by
  obtain ⟨Wf, ⟨n0, w0⟩, turn⟩ := L
  have free : ∀ {H' : Hp}, (∀ b ∈ fp, H' b = none) → ∀ b ∈ fp, FpOk B pins H' b := fun hn b hb => ⟨hn b hb, (hf b hb).2⟩
  refine lp (fun n t => ∃ i Ht, Inv B pins (wipe σ vs) Ht t ∧ tn i t.heap ∧ (∀ b ∈ fp, Ht b = none) ∧ Wf i n Ht) ?_ n0 s ⟨0, H, I0, st0, fun b hb => (hf b hb).1, w0⟩
  rintro n t ⟨i, Ht, It, stt, nt, wt⟩
  rcases turn i n Ht wt with ⟨stop, qe⟩ | ⟨go, Nx, hNx, step⟩
  · refine wpAny_mono (T.done B rfl rfl rfl hc i pins t _ Ht (fun _ _ => False) It (free nt) stt stop) (fun r t1 hr => ?_) fun _ _ z => z.elim
    obtain ⟨rfl, It1⟩ := hr
    exact fin t1 Ht It1 qe
  · refine wpAny_mono (T.item B rfl rfl rfl hc i pins t _ Ht (fun _ _ => False) It (free nt) stt go) (fun r t1 hr => ?_) fun _ _ z => z.elim
    obtain ⟨u, rfl, hr⟩ := hr
    refine wpAny_mono hr (fun _ t2 h2 => ?_) fun _ _ z => z.elim
    obtain ⟨x, H2, I2, rx, yd, st2, n2⟩ := h2
    -- the iterator's own objects are held while the turn runs
    have P2 := I2.pinned (free n2) (T.obj _ _ st2)
    -- a turn's end
    have close : ∀ {t' : Shared} {σ' : L2.St} {H' : Hp}, Inv B (pins ++ pinsAt fp t2.heap) σ' H' t' → σ'.length = (wipe σ vs).length → (∀ j, j ∉ vs → σ'[j]? = (wipe σ vs)[j]?) → Nx H' → ∃ k, k < n ∧ ∃ i Ht, Inv B pins (wipe σ vs) Ht t' ∧ tn i t'.heap ∧ (∀ b ∈ fp, Ht b = none) ∧ Wf i k Ht := by
      intro t' σ' H' I' hl hk nx
      obtain ⟨k, hk2, w'⟩ := hNx H' nx
      have held : ∀ b ∈ fp, ∀ o, t2.heap.get? b = some o → t'.heap.get? b = some o ∧ H' b = none := fun b hb o e => by
        have z := I'.pin (b, o) (List.mem_append_right _ (List.mem_append_right _ (mem_pinsAt hb e)))
        exact ⟨z.1, z.2.1⟩
      refine ⟨k, hk2, i + 1, H', I'.unpinned.weak hl.symm (fun j v e => ?_), T.keep _ _ _ st2 fun b hb o e => (held b hb o e).1, fun b hb => ?_, w'⟩
      · obtain ⟨e1, e2⟩ := wipe_some e
        rw [hk j e2]
        exact e
      · obtain ⟨o, e, _⟩ := T.obj _ _ st2 b hb
        exact (held b hb o e).2
    refine wpAny_mono (pg.run _ t2 _ H2 x u _ P2 rx (step x H2 yd)) (fun _ t3 h3 => ?_) hx
    obtain ⟨σ3, H3, I3, hw, q3⟩ := h3
    have l3 : σ3.length = (wipe σ vs).length := by rw [← hw, wipe_length]
    have k3 : ∀ j, j ∉ vs → σ3[j]? = (wipe σ vs)[j]? := fun j hj => by rw [← hw, wipe_out hj]
    refine wpAny_mono (pt.run _ t3 σ3 H3 _ I3 q3) (fun b t4 h4 => ?_) hx
    obtain ⟨H4, I4, q4⟩ := h4
    cases b with
    | false =>
      simp only [Bool.false_eq_true, if_false] at q4 ⊢
      exact close I4 l3 k3 q4
    | true =>
      simp only [if_true] at q4 ⊢
      refine mono _ _ _ (body _ t4 σ3 H4 Nx I4 q4) fun t5 h5 => ?_
      obtain ⟨σ5, H5, I5, l5, k5, nx⟩ := h5
      exact close I5 (l5.trans l3) (fun j hj => (k5 j hj).trans (k3 j hj)) nx
end
/-! ### the two loops of {k: v for .. for ..} -/
abbrev dc2 (kx vx t0 i0 t1 i1 : Expr) (f0 f1 : List Expr) (sc : Scope) (pos : Pos) : Expr := .DictComp kx vx [⟨t0, i0, f0, 0⟩, ⟨t1, i1, f1, 0⟩] sc pos
section
variable {prog : Program} {w : World} {A : Around} {R : Result → Shared → Prop} {kx vx t0 i0 t1 i1 : Expr} {f0 f1 : List Expr} {sc : Scope} {pos : Pos} {it : Value} {D : Addr} {env : Env}
theorem turn_0 : compTurn (dc2 kx vx t0 i0 t1 i1 f0 f1 sc pos) 0 it (.ref D) env = (do
    standAt i0.pos
    match ← pyNext it with
    | none => pure (.done .next)
    | some v =>
      letOwnedTupleGo t0 it v
      assign t0 env v
      let b ← testsM f0 env
      if b then
        let x ← eval i1 env
        standAt i1.pos
        let x ← foldedSetIterable i1 env x
        let _ ← runOwn (.compStart (dc2 kx vx t0 i0 t1 i1 f0 f1 sc pos) 1 (← holding [x] (pyIter x)) (.ref D) env) env
      again (.compLoop (dc2 kx vx t0 i0 t1 i1 f0 f1 sc pos) 0 it (.ref D) env)) := by rfl
theorem turn_1 : compTurn (dc2 kx vx t0 i0 t1 i1 f0 f1 sc pos) 1 it (.ref D) env = (do
    standAt i1.pos
    match ← pyNext it with
    | none => pure (.done .next)
    | some v =>
      letOwnedTupleGo t1 it v
      assign t1 env v
      let b ← testsM f1 env
      if b then
        (do
          let kv ← eval kx env
          let vv ← holding [kv] (eval vx env)
          standAt { kx.pos with endLine := vx.pos.endLine, endCol := vx.pos.endCol }
          holding [kv, vv] (dictSet D kv vv))
      again (.compLoop (dc2 kx vx t0 i0 t1 i1 f0 f1 sc pos) 1 it (.ref D) env)) := by rfl
abbrev Noted (M : Model) (A : Around) (env : Env) (R : Result → Shared → Prop) : Value → Shared → Prop := notedBy M A env fun e s' => R (.error e) s'
/-- the first clause's body: the second clause's walk -/
def Body0 (M : Model) (A : Around) (i1 : Expr) (E : Expr) (D : Addr) (env : Env) (Er : Value → Shared → Prop) (s : Shared) (Post : Shared → Prop) : Prop :=
  wpAny M A (eval i1 env) (fun x s1 => wpAny M A (pyIter x) (fun t s2 => codeAny M A (.compStart E 1 t (.ref D) env) (fun r s3 => match r with | .ok _ => Post s3 | .error _ => False) s2) Er s1) Er s
/-- the second clause's body: a pair is put in -/
def Body1 (M : Model) (A : Around) (kx vx : Expr) (D : Addr) (env : Env) (Er : Value → Shared → Prop) (s : Shared) (Post : Shared → Prop) : Prop :=
  wpAny M A (eval kx env) (fun kv s1 => wpAny M A (eval vx env) (fun vv s2 => wpAny M A (dictSet D kv vv) (fun _ s3 => Post s3) Er s2) Er s1) Er s
theorem lp_0 (hs : ∀ x, foldedSetIterable i1 env x = pure x) (I : Nat → Shared → Prop)
    (turn : ∀ n s, I n s → TurnW (model prog w) A t0 f0 env it (Noted (model prog w) A env R) (Body0 (model prog w) A i1 (dc2 kx vx t0 i0 t1 i1 f0 f1 sc pos) D env (Noted (model prog w) A env R)) (R (.ok .next)) (fun s' => ∃ k, k < n ∧ I k s') s) (n : Nat) (s : Shared) (h : I n s) :
    codeAny (model prog w) A (.compLoop (dc2 kx vx t0 i0 t1 i1 f0 f1 sc pos) 0 it (.ref D) env) R s := by
  refine codeAny_loop rfl I (fun n s hI => ?_) n h
  show wpAny _ A ((compTurn (dc2 kx vx t0 i0 t1 i1 f0 f1 sc pos) 0 it (.ref D) env).onRaise _) _ _ s
  refine wpAny_noted ?_
  rw [turn_0]
  refine wpAny_bind (wpAny_standAt (wpAny_bind (thn (turn n s hI) fun r s1 h1 => ?_)))
  cases r with
  | none => exact wpAny_pure h1
  | some v =>
    refine wpAny_bind (thn h1 fun _ s2 h2 => wpAny_bind (thn h2 fun _ s3 h3 => wpAny_bind (thn h3 fun b s4 h4 => ?_)))
    cases b with
    | false => exact wpAny_pure ⟨rfl, h4⟩
    | true =>
      have h4 : Body0 (model prog w) A i1 (dc2 kx vx t0 i0 t1 i1 f0 f1 sc pos) D env (Noted (model prog w) A env R) s4 (fun s' => ∃ k, k < n ∧ I k s') := h4
      refine wpAny_bind (thn h4 fun x s5 h5 => wpAny_bind (wpAny_standAt (wpAny_bind (wpAny_of_eq (hs x) (wpAny_bind (wpAny_holding (thn h5 fun t s6 h6 => wpAny_bind (wpAny_runOwn ?_))))))))
      rw [Around.mark_none]
      refine codeAny_mono h6 fun r s7 h7 => ?_
      cases r with
      | ok f => first | exact wpAny_pure ⟨rfl, h7⟩ | exact wpAny_bind (wpAny_pure (wpAny_pure ⟨rfl, h7⟩))
      | error e => exact h7.elim
theorem lp_1 (I : Nat → Shared → Prop)
    (turn : ∀ n s, I n s → TurnW (model prog w) A t1 f1 env it (Noted (model prog w) A env R) (Body1 (model prog w) A kx vx D env (Noted (model prog w) A env R)) (R (.ok .next)) (fun s' => ∃ k, k < n ∧ I k s') s) (n : Nat) (s : Shared) (h : I n s) :
    codeAny (model prog w) A (.compLoop (dc2 kx vx t0 i0 t1 i1 f0 f1 sc pos) 1 it (.ref D) env) R s := by
  refine codeAny_loop rfl I (fun n s hI => ?_) n h
  show wpAny _ A ((compTurn (dc2 kx vx t0 i0 t1 i1 f0 f1 sc pos) 1 it (.ref D) env).onRaise _) _ _ s
  refine wpAny_noted ?_
  rw [turn_1]
  refine wpAny_bind (wpAny_standAt (wpAny_bind (thn (turn n s hI) fun r s1 h1 => ?_)))
  cases r with
  | none => exact wpAny_pure h1
  | some v =>
    refine wpAny_bind (thn h1 fun _ s2 h2 => wpAny_bind (thn h2 fun _ s3 h3 => wpAny_bind (thn h3 fun b s4 h4 => ?_)))
    cases b with
    | false => exact wpAny_pure ⟨rfl, h4⟩
    | true =>
      have h4 : Body1 (model prog w) A kx vx D env (Noted (model prog w) A env R) s4 (fun s' => ∃ k, k < n ∧ I k s') := h4
      exact wpAny_bind (wpAny_bind (thn h4 fun kv s5 h5 => wpAny_bind (wpAny_holding (thn h5 fun vv s6 h6 => wpAny_bind (wpAny_standAt (wpAny_holding (thn h6 fun _ s7 h7 => wpAny_pure ⟨rfl, h7⟩)))))))
theorem start_1 {s : Shared} (h0 : codeAny (model prog w) A (.compLoop (dc2 kx vx t0 i0 t1 i1 f0 f1 sc pos) 1 it (.ref D) env) R s)
    (h : wpAny (model prog w) A (pyIter it) (fun it' s' => codeAny (model prog w) A (.compLoop (dc2 kx vx t0 i0 t1 i1 f0 f1 sc pos) 1 it' (.ref D) env) R s') (Noted (model prog w) A env R) s) :
    codeAny (model prog w) A (.compStart (dc2 kx vx t0 i0 t1 i1 f0 f1 sc pos) 1 it (.ref D) env) R s := by
  refine codeAny_of_tree ?_
  show wpAny _ _ ((compStart (dc2 kx vx t0 i0 t1 i1 f0 f1 sc pos) 1 it (.ref D) env).onRaise _) _ _ s
  refine wpAny_notedAt ?_
  unfold compStart
  show wpAny _ _ (ask >>= _) _ _ s
  refine wpAny_bind (wpAny_askSetting (wpAny_ite ?_))
  split
  · first | exact wpAny_bind (wpAny_pure (wpAny_pure ⟨rfl, h0⟩)) | exact wpAny_pure ⟨rfl, h0⟩
  · first
      | exact wpAny_bind (wpAny_rule (wpAny_bind (wpAny_standAt (wpAny_bind (thn h fun it' s' h' => wpAny_pure ⟨rfl, h'⟩)))))
      | (refine wpAny_bind (wpAny_rule ?_); show wpAny _ _ (standAt i1.pos >>= _) _ _ s; exact wpAny_bind (wpAny_standAt (wpAny_bind (thn h fun it' s' h' => wpAny_pure ⟨rfl, h'⟩))))
end
/-! ### the whole -/
def leafK (D : Addr) (tk tv : TE) : L2.St → Hp → (Hp → Prop) → Prop := fun σ H Nx => tk σ H fun y H1 => tv σ H1 fun z H2 => ∃ kvs k, y = kV k ∧ H2 D = some (.dK kvs) ∧ kvs.length < sizeLine ∧ Nx (upd H2 D (.dK (putK kvs k z)))
def tDc2 (wi : TI) (g : TG) (tt : TT) (wi1 : TI) (g1 : TG) (tt1 : TT) (tk tv : TE) (vs vs1 : List Nat) : TE := fun σ H Q => wi σ H fun J H1 => ∀ D, H1 D = none →
  Loop J g tt (fun σ2 H2 Nx => wi1 σ2 H2 fun J1 H3 => Loop J1 g1 tt1 (leafK D tk tv) vs1 σ2 H3 Nx) vs σ (upd H1 D (.dK [])) (Q (.ref D))
abbrev InBlk (X : Cx) (sc : Scope) (P : Cx → Prop) : Prop := ∀ (s : Shared) (H : Hp) (C : Addr) (cl : List (Str × Addr)) (fp : List Addr), P (X.blk s H sc (compEnvC sc cl C X.env) fp)
theorem pe_dc2 {X : Cx} {kx vx t0 i0 t1 i1 : Expr} {f0 f1 : List Expr} {sc : Scope} {own : List (Str × Nat)} {vs1 : List Nat} {pos : Pos} {wi wi1 : TI} {g g1 : TG} {tt tt1 : TT} {tk tv : TE} (hc : X.calm = true) (hN : X.N.Nodup) (hi : PI X t0 i0 wi) (ok : BlkOk X.N X.env.scope sc own) (hv : ∀ i ∈ vs1, i ∈ own.map (·.2))
    (hg : InBlk X sc fun B => PG B t0 g) (ht : InBlk X sc fun B => PTs B f0 tt) (hi1 : InBlk X sc fun B => PI B t1 i1 wi1) (hg1 : InBlk X sc fun B => PG B t1 g1) (ht1 : InBlk X sc fun B => PTs B f1 tt1) (hk : InBlk X sc fun B => PE B kx tk) (he : InBlk X sc fun B => PE B vx tv)
    (hs : ∀ x, foldedSetIterable i0 X.env x = pure x) (hs1 : ∀ env x, foldedSetIterable i1 env x = pure x) : PE X (dc2 kx vx t0 i0 t1 i1 f0 f1 sc pos) (tDc2 wi g tt wi1 g1 tt1 tk tv (own.map (·.2)) vs1) := by
  refine ⟨fun pins s σ H Q I h => ?_⟩
  rw [arm_eval_DictComp]
  have cap : ∀ y ∈ sc.names, y.2 = .free → ∃ c, X.env.cells.lookup y.1 = some c := fun y hy e => (ok.free y hy e).elim (fun z => I.ok.has _ (.inl z)) fun z => I.ok.has _ (.inr z)
  refine wpAny_comprehension_free rfl hs (closure_ok cap) ok.kind (fun y hy e => by rw [ok.uniq y hy, e]) (thn (hi.run pins s σ H _ I h) fun v sa ha => thn ha fun itv sb hb => ?_)
  obtain ⟨it, fp, tn, J, Hb, rfl, Ib, T, stb, fb, q⟩ := hb
  refine wpAny_newObj_type (newEnv_comp ?_)
  -- the new dict
  have nD : Hb sb.heap.objs.size = none := Ib.hok.fresh (Nat.le_refl _)
  have L := q _ nD
  have Ic : Inv X pins σ (upd Hb sb.heap.objs.size (.dK [])) { sb with heap := sb.heap.push { cls := .type "dict", data := .dict #[] } } :=
    Ib.laid (t' := sb.toks) (fun b o e => Heap.get?_push_of_some _ e) (Nat.le_refl _) (dk_empty sb.heap Ib.big)
  have below : ∀ b ∈ fp, b < sb.heap.objs.size := fun b hb => let ⟨o, e, _⟩ := T.obj _ _ stb b hb; Heap.lt_size e
  have fc : ∀ b ∈ fp, FpOk X pins (upd Hb sb.heap.objs.size (.dK [])) b ∧ b < (sb.heap.push { cls := .type "dict", data := .dict #[] }).objs.size := fun b hb =>
    ⟨⟨by rw [upd_ne (Nat.ne_of_lt (below b hb))]; exact (fb b hb).1, (fb b hb).2⟩, by rw [Heap.size_push]; exact Nat.lt_succ_of_lt (below b hb)⟩
  have stc : tn 0 (sb.heap.push { cls := .type "dict", data := .dict #[] }) := T.keep _ _ _ stb fun b _ o e => Heap.get?_push_of_some _ e
  generalize hDe : sb.heap.objs.size = D at *
  generalize hsc : ({ sb with heap := sb.heap.push { cls := .type "dict", data := .dict #[] } } : Shared) = c at *
  have hch : c.heap = sb.heap.push { cls := .type "dict", data := .dict #[] } := by rw [← hsc]
  rw [← hch] at fc stc
  have Id := block_start Ic ok hN fc
  show codeAny _ _ (.compStart (dc2 kx vx t0 i0 t1 i1 f0 f1 sc pos) 0 (.ref it) (.ref D) (compEnvC sc (cellsFrom (c.heap.objs.size + 1) sc.names (cloFrom X.env.cells sc.names [])) c.heap.objs.size X.env)) (compPost (model X.prog X.w) X.A X.xe none (EP X pins σ Q) (.ref D) c.heap.objs.size) { c with heap := pushCells (c.heap.push { cls := .type "dict", data := .dict #[] }) sc.names }
  have bg := hg c (upd Hb D (.dK [])) c.heap.objs.size (cellsFrom (c.heap.objs.size + 1) sc.names (cloFrom X.env.cells sc.names [])) fp
  have bt := ht c (upd Hb D (.dK [])) c.heap.objs.size (cellsFrom (c.heap.objs.size + 1) sc.names (cloFrom X.env.cells sc.names [])) fp
  have bi1 := hi1 c (upd Hb D (.dK [])) c.heap.objs.size (cellsFrom (c.heap.objs.size + 1) sc.names (cloFrom X.env.cells sc.names [])) fp
  have bg1 := hg1 c (upd Hb D (.dK [])) c.heap.objs.size (cellsFrom (c.heap.objs.size + 1) sc.names (cloFrom X.env.cells sc.names [])) fp
  have bt1 := ht1 c (upd Hb D (.dK [])) c.heap.objs.size (cellsFrom (c.heap.objs.size + 1) sc.names (cloFrom X.env.cells sc.names [])) fp
  have bk := hk c (upd Hb D (.dK [])) c.heap.objs.size (cellsFrom (c.heap.objs.size + 1) sc.names (cloFrom X.env.cells sc.names [])) fp
  have be := he c (upd Hb D (.dK [])) c.heap.objs.size (cellsFrom (c.heap.objs.size + 1) sc.names (cloFrom X.env.cells sc.names [])) fp
  have eL : (compEnvC sc (cellsFrom (c.heap.objs.size + 1) sc.names (cloFrom X.env.cells sc.names [])) c.heap.objs.size X.env).locals = c.heap.objs.size := rfl
  generalize compEnvC sc (cellsFrom (c.heap.objs.size + 1) sc.names (cloFrom X.env.cells sc.names [])) c.heap.objs.size X.env = ce at *
  have std : tn 0 ({ c with heap := pushCells (c.heap.push { cls := .type "dict", data := .dict #[] }) sc.names } : Shared).heap := T.keep _ _ _ stc fun b _ o e => pushCells_keeps _ _ _ _ (Heap.get?_push_of_some _ e)
  generalize ({ c with heap := pushCells (c.heap.push { cls := .type "dict", data := .dict #[] }) sc.names } : Shared) = d at *
  have fB : ∀ b ∈ fp, FpOk (X.blk c (upd Hb D (.dK [])) sc ce fp) [] (upd Hb D (.dK [])) b := fun b hb =>
    ⟨(fc b hb).1.1, (Id.ok.exf b hb).1, Id.ok.exfs b hb, .inl hb, (fun x k e => (Id.ok.exf b hb).2 x k e), fun p hp => absurd (show p ∈ ([] : List (Addr × Obj)) ++ [] from hp) (by simp)⟩
  -- the second clause
  have inner : ∀ {Er : Value → Shared → Prop} (pl : List (Addr × Obj)) (t : Shared) (τ : L2.St) (Ht : Hp) (Nx : Hp → Prop), L2.Inv (X.blk c (upd Hb D (.dK [])) sc ce fp) pl τ Ht t → (wi1 τ Ht fun J1 H3 => Loop J1 g1 tt1 (leafK D tk tv) vs1 τ H3 Nx) →
      Body0 (model X.prog X.w) X.A i1 (dc2 kx vx t0 i0 t1 i1 f0 f1 sc pos) D ce Er t fun t' => ∃ τ' H', L2.Inv (X.blk c (upd Hb D (.dK [])) sc ce fp) pl τ' H' t' ∧ τ'.length = τ.length ∧ (∀ j, j ∉ own.map (·.2) → τ'[j]? = τ[j]?) ∧ Nx H' := by
    intro Er pl t τ Ht Nx It qt
    refine wpAny_mono (bi1.run pl t τ Ht _ It qt) (fun v1 t1' h1 => wpAny_mono h1 (fun iv t2 h2 => ?_) fun _ _ z => False.elim z) fun _ _ z => False.elim z
    obtain ⟨it1, fp1, tn1, J1, H2, rfl, I2, T1, st2, f2, L1⟩ := h2
    have run1 := clause_run (B := X.blk c (upd Hb D (.dK [])) sc ce fp) (vs := vs1) (Body := Body1 (model X.prog X.w) X.A kx vx D ce (Noted (model X.prog X.w) X.A ce fun r s3 => match r with | .ok _ => ∃ τ' H', L2.Inv (X.blk c (upd Hb D (.dK [])) sc ce fp) pl τ' H' s3 ∧ τ'.length = τ.length ∧ (∀ j, j ∉ own.map (·.2) → τ'[j]? = τ[j]?) ∧ Nx H' | .error _ => False))
      (c := .compLoop (dc2 kx vx t0 i0 t1 i1 f0 f1 sc pos) 1 (.ref it1) (.ref D) ce) (R := fun r s3 => match r with | .ok _ => ∃ τ' H', L2.Inv (X.blk c (upd Hb D (.dK [])) sc ce fp) pl τ' H' s3 ∧ τ'.length = τ.length ∧ (∀ j, j ∉ own.map (·.2) → τ'[j]? = τ[j]?) ∧ Nx H' | .error _ => False)
      hc T1 bg1 bt1 (fun _ _ z => False.elim z) (fun t P P' hb hp => wpAny_mono hb (fun _ _ z => wpAny_mono z (fun _ _ z => wpAny_mono z (fun _ _ z => hp _ z) fun _ _ z => z) fun _ _ z => z) fun _ _ z => z)
      (fun pl2 t3 τ3 H3 Nx3 I3 q3 => wpAny_mono (bk.run pl2 t3 τ3 H3 _ I3 q3) (fun kv t4 h4 => by
        obtain ⟨y, H4, I4, r4, q4⟩ := h4
        refine wpAny_mono (be.run pl2 t4 τ3 H4 _ I4 q4) (fun vv t5 h5 => ?_) fun _ _ z => False.elim z
        obtain ⟨z, H5, I5, r5, kvs, k, rfl, hD5, hz5, nx⟩ := h5
        exact d_dictSet (X := X.blk c (upd Hb D (.dK [])) sc ce fp) I5 hD5 hz5 r4 r5 fun t6 I6 => ⟨τ3, _, I6, rfl, fun _ _ => rfl, nx⟩) fun _ _ z => False.elim z)
      (fun Iv tr n t hI => lp_1 Iv tr n t hI) (I2.weak (wipe_length _ _) fun j v e => (wipe_some e).1) st2 f2 L1
      (fun t3 H3 I3 nx => ⟨wipe τ vs1, H3, I3, wipe_length _ _, fun j hj => wipe_out fun z => hj (hv j z), nx⟩)
    exact start_1 run1 (T1.self X.A 0 _ _ _ st2 run1)
  have loop := clause_run (B := X.blk c (upd Hb D (.dK [])) sc ce fp) (Body := Body0 (model X.prog X.w) X.A i1 (dc2 kx vx t0 i0 t1 i1 f0 f1 sc pos) D ce (Noted (model X.prog X.w) X.A ce (compPost (model X.prog X.w) X.A X.xe none (EP X pins σ Q) (.ref D) c.heap.objs.size)))
    (c := .compLoop (dc2 kx vx t0 i0 t1 i1 f0 f1 sc pos) 0 (.ref it) (.ref D) ce) (R := compPost (model X.prog X.w) X.A X.xe none (EP X pins σ Q) (.ref D) c.heap.objs.size)
    hc T bg bt (fun _ _ z => False.elim z) (fun t P P' hb hp => wpAny_mono hb (fun _ _ z => wpAny_mono z (fun _ _ z => codeAny_mono z fun r _ y => by cases r with | ok f => exact hp _ y | error e => exact y) fun _ _ z => z) fun _ _ z => z)
    (fun pl t τ Ht Nx It qt => inner pl t τ Ht Nx It qt) (fun Iv tr n t hI => lp_0 (hs1 ce) Iv tr n t hI) Id std fB L (fun t Ht It qe => by
      have J2 : L2.Inv X pins σ Ht t := Ic.call' (ch := fp) It.os It.base It.hok It.bare fun b hb => ⟨(fc b hb).1.2.2.2.1, (fc b hb).1.2.1, (fc b hb).1.2.2.2.2.1, (fc b hb).1.2.2.2.2.2⟩
      have nC : Ht c.heap.objs.size = none := by rw [← eL]; exact It.free
      obtain ⟨mm, hn, _⟩ := It.loc
      have hn : t.heap.Ns ce.locals mm := hn
      rw [eL] at hn
      obtain ⟨a0, a1, a2, a3, a4, a5⟩ := Ic.fpOk (Nat.le_refl _) nC
      exact ⟨mm, hn, fun h2 same => ⟨.ref D, Ht, J2.turned (t' := t.toks) (fun b o hb e => (same.2 b hb).trans e) a0 a1 a3 a4 a5, rfl, qe⟩⟩)
  exact codeAny_compStart_dict loop (T.self X.A 0 _ _ _ std loop)
end Pu

set_option Elab.async false
set_option linter.all false
set_option maxRecDepth 100000
/-! Pu27: comprehensions of one or two clauses, lists and dicts, by plain functions. -/
namespace Pu
open PySem L2
/-! ### the plain part -/
/-- the turns of a clause, from a start -/
def clS {α : Type} (u : D → Sl → Option Sl) (t : Sl → M Bool) (body : Sl → α → M α) (ρ : Sl) : List D → α → M α
  | [], a => yes a
  | d :: ds, a => match u d ρ with
    | some ρ' => do
      let b ← t ρ'
      let a' ← (if b then body ρ' a else yes a)
      clS u t body ρ ds a'
    | none => stuck
abbrev clauseD {α : Type} (r : Dn) (G : Ctx) (tg : Expr) (ifs : List Expr) (body : Sl → α → M α) (ρ : Sl) (ds : List D) (a : α) : M α := clS (gD G tg) (testsD r G ifs) body ρ ds a
def innerD {α : Type} (r : Dn) (G : Ctx) (tg iter : Expr) (ifs : List Expr) (vs : List Nat) (body : Sl → α → M α) (ρ : Sl) (a : α) : M α := do
  let ds ← iD r G tg iter ρ
  clauseD r G tg ifs body (wipeL ρ vs) ds a
def leafL (r : Dn) (G : Ctx) (elt : Expr) (ρ : Sl) (acc : List D) : M (List D) := do
  let y ← r.e G elt ρ
  if acc.length < sizeLine then yes (acc ++ [y]) else stuck
def leafD (r : Dn) (G : Ctx) (kx vx : Expr) (ρ : Sl) (acc : List (Key × D)) : M (List (Key × D)) := do
  let x ← r.e G kx ρ
  let y ← r.e G vx ρ
  fun μ => match keyOf x with
    | some k => if acc.length < sizeLine then .ok (putD acc k y) μ else .stuck
    | none => .stuck
def comp2Ok (G : Ctx) (c0 c1 : Comprehension) (sc : Scope) : Prop := G.hot = false ∧ blkC G.N G.sc sc (ownOf G.N sc) = true ∧ (∀ i ∈ gslots G c0.target, i ∈ (ownOf G.N sc).map (·.2)) ∧ (∀ i ∈ gslots G c1.target, i ∈ (ownOf G.N sc).map (·.2)) ∧ notSet c0.iter = true ∧ notSet c1.iter = true ∧ c0.is_async = 0 ∧ c1.is_async = 0
instance (G : Ctx) (c0 c1 : Comprehension) (sc : Scope) : Decidable (comp2Ok G c0 c1 sc) := by unfold comp2Ok; infer_instance
def lc2D (r : Dn) (G : Ctx) (elt : Expr) (c0 c1 : Comprehension) (sc : Scope) (pos : Pos) (ρ : Sl) : M D := if comp2Ok G c0 c1 sc then (do
    let ds ← iD r G c0.target c0.iter ρ
    let ys ← noX (clauseD r (blkG G sc) c0.target c0.ifs (innerD r (blkG G sc) c1.target c1.iter c1.ifs (gslots G c1.target) (leafL r (blkG G sc) elt)) (wipeL ρ ((ownOf G.N sc).map (·.2))) ds [])
    fixL (G.hint pos) ys) else stuck
def dc2D (r : Dn) (G : Ctx) (kx vx : Expr) (c0 c1 : Comprehension) (sc : Scope) (ρ : Sl) : M D := if comp2Ok G c0 c1 sc then (do
    let ds ← iD r G c0.target c0.iter ρ
    let ys ← noX (clauseD r (blkG G sc) c0.target c0.ifs (innerD r (blkG G sc) c1.target c1.iter c1.ifs (gslots G c1.target) (leafD r (blkG G sc) kx vx)) (wipeL ρ ((ownOf G.N sc).map (·.2))) ds [])
    yes (.dic ys)) else stuck
def comp1Ok (G : Ctx) (c0 : Comprehension) (sc : Scope) : Prop := G.hot = false ∧ blkC G.N G.sc sc (ownOf G.N sc) = true ∧ (∀ i ∈ gslots G c0.target, i ∈ (ownOf G.N sc).map (·.2)) ∧ notSet c0.iter = true ∧ c0.is_async = 0
instance (G : Ctx) (c0 : Comprehension) (sc : Scope) : Decidable (comp1Ok G c0 sc) := by unfold comp1Ok; infer_instance
def dc1D (r : Dn) (G : Ctx) (kx vx : Expr) (c0 : Comprehension) (sc : Scope) (ρ : Sl) : M D := if comp1Ok G c0 sc then (do
    let ds ← iD r G c0.target c0.iter ρ
    let ys ← noX (clauseD r (blkG G sc) c0.target c0.ifs (leafD r (blkG G sc) kx vx) (wipeL ρ ((ownOf G.N sc).map (·.2))) ds [])
    yes (.dic ys)) else stuck
/-! ### readings -/
def okR {α : Type} (C : α → Sto → Prop) : R α → Prop
  | .ok a μ => C a μ
  | _ => False
theorem okR_bind {α β : Type} {x : M β} {f : β → M α} {C : α → Sto → Prop} {μ : Sto} (h : okR C ((x >>= f) μ)) : okR (fun b μ' => okR C (f b μ')) (x μ) := by
  have h' : okR C (M.bind x f μ) := h
  unfold M.bind at h'
  cases q : x μ with
  | ok b μ' => rw [q] at h'; exact h'
  | exc e μ' => rw [q] at h'; exact h'.elim
  | stuck => rw [q] at h'; exact h'.elim
abbrev noZ : WX := fun _ _ _ _ => False
/-- what is in the making at L: what it holds -/
structure Acc (W : Wd) (m1 : Mem) (L : Addr) (α : Type) where
  at_ : Mem → α → Prop
  step : ∀ mm m2 a, Step mm m2 → L ∈ mm.pv → at_ mm a → at_ m2 a
section
variable {W : Wd} {m1 : Mem} {L : Addr} {α : Type} {r : Dn} {G : Ctx}
def GoodB (A : Acc W m1 L α) (body : Sl → α → M α) (bd : L2.St → Hp → (Hp → Prop) → Prop) : Prop :=
  ∀ (ρ : Sl) (σ : L2.St) (mm : Mem) (a : α) (C : α → Sto → Prop) (Nx : Hp → Prop), Okm W mm → Mk m1 mm L → A.at_ mm a → EnvOk W mm ρ σ → okR C (body ρ a mm.μ) →
    (∀ m' a', Okm W m' → Mk m1 m' L → Up mm m' → A.at_ m' a' → C a' m'.μ → Nx m'.H) → bd σ mm.H Nx
theorem loop_read (A : Acc W m1 L α) {tg : Expr} {ifs : List Expr} {body : Sl → α → M α} {bd : L2.St → Hp → (Hp → Prop) → Prop} (gb : GoodB A body bd) {vs : List Nat} (hv : ∀ i ∈ gslots G tg, i ∈ vs) {J : It} {ds : List D} {mm : Mem} (itm : Itm W J mm ds)
    {a : α} {ρ : Sl} {σ : L2.St} {C : α → Sto → Prop} {Qe : Hp → Prop} (g : Okm W mm) (k : Mk m1 mm L) (ha : A.at_ mm a) (rr : EnvOk W mm (wipeL ρ vs) (wipe σ vs)) (w : okR C (clauseD r G tg ifs body (wipeL ρ vs) ds a mm.μ))
    (fin : ∀ m' a', Okm W m' → Mk m1 m' L → Up mm m' → A.at_ m' a' → C a' m'.μ → Qe m'.H) : Loop J (TGp W (gslots G tg) (gD G tg)) (TTof W noZ (testsD r G ifs)) bd vs σ mm.H Qe := by
  let Iv : Nat → Hp → Prop := fun i H' => ∃ m' a', m'.H = H' ∧ Okm W m' ∧ Mk m1 m' L ∧ Up mm m' ∧ A.at_ m' a' ∧ okR C (clauseD r G tg ifs body (wipeL ρ vs) (ds.drop i) a' m'.μ)
  refine ⟨fun i n H' => n = ds.length - i ∧ i ≤ ds.length ∧ Iv i H', ⟨ds.length, by simp, Nat.zero_le _, mm, a, rfl, g, k, Up.refl mm, ha, w⟩, ?_⟩
  rintro i n H' ⟨rfl, hi, m', a', rfl, g', k', u', ha', w'⟩
  by_cases hlt : i < ds.length
  · refine .inr ⟨itm.go i m' u' g' hlt, Iv (i + 1), fun H2 z => ⟨ds.length - (i + 1), by omega, rfl, hlt, z⟩, fun x H2 y => ?_⟩
    obtain ⟨m2, d, rfl, s2, g2, e2, _, e3, hd⟩ := itm.yld i m' x H2 u' g' hlt y
    have hdrop : ds.drop i = d :: ds.drop (i + 1) := by
      obtain ⟨hi', he⟩ := List.getElem?_eq_some_iff.mp e3
      rw [← he]
      exact List.drop_eq_getElem_cons hi'
    rw [hdrop, ← e2] at w'
    unfold clauseD clS at w'
    cases q1 : gD G tg d (wipeL ρ vs) with
    | none => rw [q1] at w'; exact w'.elim
    | some ρ1 =>
      rw [q1] at w'
      have u2 : Up mm m2 := u'.trans s2.up
      have k2 := k'.step s2
      have ha2 := A.step _ _ _ s2 k'.mem ha'
      refine ⟨wipeL ρ vs, m2, d, ρ1, rfl, g2, rr.up u2, hd, q1, fun σ2 r3 ag => ⟨(ag.wipe (vs := vs) hv).trans wipe_idem, ρ1, m2, rfl, g2, r3, ?_⟩⟩
      have w2 := okR_bind w'
      cases q2 : testsD r G ifs ρ1 m2.μ with
      | stuck => rw [q2] at w2; exact w2.elim
      | exc x' μ' => rw [q2] at w2; exact w2.elim
      | ok b μ3 =>
        rw [q2] at w2
        intro m3 s3 g3 e4
        have k3 := k2.step s3
        have ha3 := A.step _ _ _ s3 k2.mem ha2
        have w3 := okR_bind (show okR C ((do let a' ← (if b then body ρ1 a' else yes a'); clauseD r G tg ifs body (wipeL ρ vs) (ds.drop (i + 1)) a' : M α) μ3) from w2)
        rw [← e4] at w3
        cases b with
        | false =>
          show (if false = true then _ else _)
          rw [if_neg Bool.false_ne_true]
          exact ⟨m3, a', rfl, g3, k3, u2.trans s3.up, ha3, w3⟩
        | true =>
          show (if true = true then _ else _)
          rw [if_pos rfl]
          exact gb ρ1 σ2 m3 a' _ _ g3 k3 ha3 (r3.mono s3) w3 fun m4 a4 g4 k4 u4 ha4 w4 => ⟨m4, a4, rfl, g4, k4, (u2.trans s3.up).trans u4, ha4, w4⟩
  · have ei : i = ds.length := by omega
    subst ei
    rw [List.drop_length] at w'
    exact .inl ⟨itm.stop m' u' g', fin m' a' g' k' u' ha' w'⟩
theorem good_inner (A : Acc W m1 L α) {tg iter : Expr} {ifs : List Expr} {body : Sl → α → M α} {bd : L2.St → Hp → (Hp → Prop) → Prop} (gb : GoodB A body bd) :
    GoodB A (innerD r G tg iter ifs (gslots G tg) body) (fun σ H Nx => TIof W noZ (iD r G tg iter) σ H fun J H1 => Loop J (TGp W (gslots G tg) (gD G tg)) (TTof W noZ (testsD r G ifs)) bd (gslots G tg) σ H1 Nx) := by
  intro ρ σ mm a C Nx g k ha rr w fin
  refine ⟨ρ, mm, rfl, g, rr, ?_⟩
  have w1 := okR_bind w
  cases q : iD r G tg iter ρ mm.μ with
  | stuck => rw [q] at w1; exact w1.elim
  | exc e μ' => rw [q] at w1; exact w1.elim
  | ok ds μ' =>
    rw [q] at w1
    intro m2 s2 g2 e2 J itm
    rw [← e2] at w1
    exact loop_read A gb (fun _ z => z) itm g2 (k.step s2) (A.step _ _ _ s2 k.mem ha) ((rr.mono s2).wipes _) w1 fun m' a' g' k' u' ha' w' => fin m' a' g' k' (s2.up.trans u') ha' w'
/-! lists -/
def accL (W : Wd) (m1 : Mem) (L : Addr) : Acc W m1 L (List D) := ⟨fun mm acc => ∃ vacc, mm.H L = some (.lst vacc) ∧ DenL W mm acc vacc, fun mm m2 a s hp h => let ⟨v, h1, h2⟩ := h; ⟨v, (s.pvk L hp).trans h1, h2.mono s⟩⟩
theorem good_leafL (g0 : Okm W m1) (hL : m1.H L = none) {elt : Expr} : GoodB (accL W m1 L) (leafL r G elt) (fun σ H Nx => TEof W noZ (r.e G elt) σ H fun y H1 => ∃ acc, H1 L = some (.lst acc) ∧ acc.length < sizeLine ∧ Nx (upd H1 L (.lst (acc ++ [y])))) := by
  intro ρ σ mm a C Nx g k ha rr w fin
  refine ⟨ρ, mm, rfl, g, rr, ?_⟩
  have w1 := okR_bind w
  cases q : r.e G elt ρ mm.μ with
  | stuck => rw [q] at w1; exact w1.elim
  | exc e μ' => rw [q] at w1; exact w1.elim
  | ok y μ' =>
    rw [q] at w1
    intro m2 s2 g2 e2 v hv
    obtain ⟨vacc, h1, h2⟩ := (accL W m1 L).step _ _ _ s2 k.mem ha
    have k2 := k.step s2
    have w2 : okR C ((if a.length < sizeLine then yes (a ++ [y]) else stuck : M (List D)) μ') := w1
    by_cases hz : a.length < sizeLine
    · rw [if_pos hz] at w2
      refine ⟨vacc, h1, by rw [h2.lenEq]; exact hz, ?_⟩
      refine fin (m2.gro L (.lst (vacc ++ [v]))) (a ++ [y]) (okm_gro g2 k2.mem) (k2.gro g0 hL) (s2.up.trans (up_gro k2.mem)) ⟨_, upd_same, (h2.append (.cons hv .nil)).up (up_gro k2.mem)⟩ ?_
      show C (a ++ [y]) m2.μ
      rw [e2]
      exact w2
    · rw [if_neg hz] at w2; exact w2.elim
/-! dicts -/
def accK (W : Wd) (m1 : Mem) (L : Addr) : Acc W m1 L (List (Key × D)) := ⟨fun mm acc => ∃ kv, mm.H L = some (.dK kv) ∧ DenK W mm acc kv, fun mm m2 a s hp h => let ⟨v, h1, h2⟩ := h; ⟨v, (s.pvk L hp).trans h1, h2.mono s⟩⟩
theorem good_leafD (g0 : Okm W m1) (hL : m1.H L = none) {kx vx : Expr} : GoodB (accK W m1 L) (leafD r G kx vx) (leafK L (TEof W noZ (r.e G kx)) (TEof W noZ (r.e G vx))) := by
  intro ρ σ mm a C Nx g k ha rr w fin
  refine ⟨ρ, mm, rfl, g, rr, ?_⟩
  have w1 := okR_bind w
  cases q : r.e G kx ρ mm.μ with
  | stuck => rw [q] at w1; exact w1.elim
  | exc e μ' => rw [q] at w1; exact w1.elim
  | ok x μ' =>
    rw [q] at w1
    intro m2 s2 g2 e2 vk hk
    refine ⟨ρ, m2, rfl, g2, rr.mono s2, ?_⟩
    have w2 := okR_bind w1
    rw [← e2] at w2
    cases q2 : r.e G vx ρ m2.μ with
    | stuck => rw [q2] at w2; exact w2.elim
    | exc e μ' => rw [q2] at w2; exact w2.elim
    | ok y μ3 =>
      rw [q2] at w2
      intro m3 s3 g3 e3 v hv
      obtain ⟨kv, h1, h2⟩ := (accK W m1 L).step _ _ _ s3 (k.step s2).mem ((accK W m1 L).step _ _ _ s2 k.mem ha)
      have k3 := (k.step s2).step s3
      cases q3 : keyOf x with
      | none => rw [q3] at w2; exact w2.elim
      | some key =>
        rw [q3] at w2
        have w3 : okR C (if a.length < sizeLine then R.ok (putD a key y) μ3 else .stuck) := w2
        by_cases hz : a.length < sizeLine
        · rw [if_pos hz] at w3
          refine ⟨kv, key, keyOf_den hk q3, h1, by rw [← h2.length]; exact hz, ?_⟩
          refine fin (m3.gro L (.dK (putK kv key v))) (putD a key y) (okm_gro g3 k3.mem) (k3.gro g0 hL) ((s2.up.trans s3.up).trans (up_gro k3.mem)) ⟨_, upd_same, (h2.put key hv).up (up_gro k3.mem)⟩ ?_
          show C (putD a key y) m3.μ
          rw [e3]
          exact w3
        · rw [if_neg hz] at w3; exact w3.elim
end
theorem noX_okR {α β : Type} {W : Wd} {m : Mem} {E : Ex → Mem → Prop} {P : β → Mem → Prop} {x : M α} {f : α → M β} (w : wpR W m E P ((do let a ← noX x; f a) m.μ)) : okR (fun a μ' => wpR W m E P (f a μ')) (x m.μ) := by
  have w' : wpR W m E P (M.bind (noX x) f m.μ) := w
  unfold M.bind noX at w'
  cases q : x m.μ with
  | ok a μ' => rw [q] at w'; exact w'
  | exc e μ' => rw [q] at w'; exact (show False from w').elim
  | stuck => rw [q] at w'; exact (show False from w').elim
section
variable {W : Wd} {Z : WX} {X : Cx} {G : Ctx} {r : Dn}
theorem notSet_fold {e : Expr} (h : notSet e = true) (env : Env) (x : Value) : foldedSetIterable e env x = pure x := by
  unfold foldedSetIterable
  cases e <;> first | rfl | cases h
theorem pe_lc2D (R : EnOk W r) (ok : EOk W X Z G) (elt : Expr) (c0 c1 : Comprehension) (sc : Scope) (pos : Pos) : PE X (.ListComp elt [c0, c1] sc pos) (TEof W Z (lc2D r G elt c0 c1 sc pos)) := by
  by_cases h0 : comp2Ok G c0 c1 sc
  · obtain ⟨h1, h2, h3, h4, h5, h6, h7, h8⟩ := id h0
    obtain ⟨t0, i0, f0, a0⟩ := c0
    obtain ⟨t1, i1, f1, a1⟩ := c1
    cases (show a0 = 0 from h7)
    cases (show a1 = 0 from h8)
    have bo : BlkOk X.N X.env.scope sc (ownOf G.N sc) := by rw [ok.N, ok.sc]; exact blkOk_by h2
    refine PE.weak (pe_lc2 (own := ownOf G.N sc) (vs1 := gslots G t1) (ok.calm h1) ok.nd (pi_D R ok t0 i0) bo h4 (fun s H C cl fp => pg_gD (blk_ok ok s H C cl fp) (ok.calm h1) t0) (fun s H C cl fp => pts_D R (blk_ok ok s H C cl fp) f0)
      (fun s H C cl fp => pi_D R (blk_ok ok s H C cl fp) t1 i1) (fun s H C cl fp => pg_gD (blk_ok ok s H C cl fp) (ok.calm h1) t1) (fun s H C cl fp => pts_D R (blk_ok ok s H C cl fp) f1) (fun s H C cl fp => R.e (blk_ok ok s H C cl fp) elt)
      (notSet_fold h5 X.env) (notSet_fold h6)) fun σ H Q h => ?_
    obtain ⟨ρ, m, e, g, rr, w⟩ := (te_if h).2
    refine ⟨ρ, m, e, g, rr, (wpR_bind w).mono (fun _ _ _ _ z => z) fun ds m2 s2 g2 w2 J itm L hL => ?_⟩
    have w3 := noX_okR w2
    have itm2 : Itm W J (m2.opn L (.lst [])) ds := ⟨fun i n u => itm.go i n ((up_opn hL).trans u), fun n u => itm.stop n ((up_opn hL).trans u), fun i n x H' u => itm.yld i n x H' ((up_opn hL).trans u)⟩
    exact loop_read (accL W m2 L) (good_inner (accL W m2 L) (good_leafL g2 hL)) (G := blkG G sc) h3 itm2 (okm_opn g2 hL) (Mk.opn g2 hL) ⟨[], upd_same, .nil⟩ (((rr.mono s2).wipes _).up (up_opn hL)) w3
      fun m' a' g' k' u' ⟨vacc, hv1, hv2⟩ w' => fix_out (E := fun _ _ => True) g2 hL g' k' hv1 hv2 (w'.mono (fun _ _ _ _ _ => trivial) fun _ _ _ _ z => z)
  · exact PE.weak PE.any fun σ H Q h => h0 (te_if h).1
theorem pe_dc2D (R : EnOk W r) (ok : EOk W X Z G) (kx vx : Expr) (c0 c1 : Comprehension) (sc : Scope) (pos : Pos) : PE X (.DictComp kx vx [c0, c1] sc pos) (TEof W Z (dc2D r G kx vx c0 c1 sc)) := by
  by_cases h0 : comp2Ok G c0 c1 sc
  · obtain ⟨h1, h2, h3, h4, h5, h6, h7, h8⟩ := id h0
    obtain ⟨t0, i0, f0, a0⟩ := c0
    obtain ⟨t1, i1, f1, a1⟩ := c1
    cases (show a0 = 0 from h7)
    cases (show a1 = 0 from h8)
    have bo : BlkOk X.N X.env.scope sc (ownOf G.N sc) := by rw [ok.N, ok.sc]; exact blkOk_by h2
    refine PE.weak (pe_lk (pe_dc2 (own := ownOf G.N sc) (vs1 := gslots G t1) (ok.calm h1) ok.nd (pi_D R ok t0 i0) bo h4 (fun s H C cl fp => pg_gD (blk_ok ok s H C cl fp) (ok.calm h1) t0) (fun s H C cl fp => pts_D R (blk_ok ok s H C cl fp) f0)
      (fun s H C cl fp => pi_D R (blk_ok ok s H C cl fp) t1 i1) (fun s H C cl fp => pg_gD (blk_ok ok s H C cl fp) (ok.calm h1) t1) (fun s H C cl fp => pts_D R (blk_ok ok s H C cl fp) f1) (fun s H C cl fp => R.e (blk_ok ok s H C cl fp) kx) (fun s H C cl fp => R.e (blk_ok ok s H C cl fp) vx)
      (notSet_fold h5 X.env) (notSet_fold h6))) fun σ H Q h => ?_
    obtain ⟨ρ, m, e, g, rr, w⟩ := (te_if h).2
    refine ⟨ρ, m, e, g, rr, (wpR_bind w).mono (fun _ _ _ _ z => z) fun ds m2 s2 g2 w2 J itm L hL => ?_⟩
    have w3 := noX_okR w2
    have itm2 : Itm W J (m2.opn L (.dK [])) ds := ⟨fun i n u => itm.go i n ((up_opn hL).trans u), fun n u => itm.stop n ((up_opn hL).trans u), fun i n x H' u => itm.yld i n x H' ((up_opn hL).trans u)⟩
    refine loop_read (accK W m2 L) (good_inner (accK W m2 L) (good_leafD g2 hL)) (G := blkG G sc) h3 itm2 (okm_opn g2 hL) (Mk.opn g2 hL) ⟨[], upd_same, .nil⟩ (((rr.mono s2).wipes _).up (up_opn hL)) w3
      fun m' a' g' k' u' ⟨kv, hv1, hv2⟩ w' => .inr ⟨L, .dK kv, hv1, trivial, fun od => dic_end g2 hL k' g' hv2 w'⟩
  · exact PE.weak PE.any fun σ H Q h => h0 (te_if h).1
theorem pe_dc1D (R : EnOk W r) (ok : EOk W X Z G) (kx vx : Expr) (c0 : Comprehension) (sc : Scope) (pos : Pos) : PE X (.DictComp kx vx [c0] sc pos) (TEof W Z (dc1D r G kx vx c0 sc)) := by
  by_cases h0 : comp1Ok G c0 sc
  · obtain ⟨h1, h2, h3, h5, h7⟩ := id h0
    obtain ⟨t0, i0, f0, a0⟩ := c0
    cases (show a0 = 0 from h7)
    have bo : BlkOk X.N X.env.scope sc (ownOf G.N sc) := by rw [ok.N, ok.sc]; exact blkOk_by h2
    refine PE.weak (pe_lk (pe_dc (own := ownOf G.N sc) (ok.calm h1) ok.nd (pi_D R ok t0 i0) bo (fun s H C cl fp => pg_gD (blk_ok ok s H C cl fp) (ok.calm h1) t0) (fun s H C cl fp => pts_D R (blk_ok ok s H C cl fp) f0)
      (fun s H C cl fp => R.e (blk_ok ok s H C cl fp) kx) (fun s H C cl fp => R.e (blk_ok ok s H C cl fp) vx) (notSet_fold h5 X.env))) fun σ H Q h => ?_
    obtain ⟨ρ, m, e, g, rr, w⟩ := (te_if h).2
    refine ⟨ρ, m, e, g, rr, (wpR_bind w).mono (fun _ _ _ _ z => z) fun ds m2 s2 g2 w2 J itm L hL => ?_⟩
    have w3 := noX_okR w2
    have itm2 : Itm W J (m2.opn L (.dK [])) ds := ⟨fun i n u => itm.go i n ((up_opn hL).trans u), fun n u => itm.stop n ((up_opn hL).trans u), fun i n x H' u => itm.yld i n x H' ((up_opn hL).trans u)⟩
    refine loop_read (accK W m2 L) (good_leafD g2 hL) (G := blkG G sc) h3 itm2 (okm_opn g2 hL) (Mk.opn g2 hL) ⟨[], upd_same, .nil⟩ (((rr.mono s2).wipes _).up (up_opn hL)) w3
      fun m' a' g' k' u' ⟨kv, hv1, hv2⟩ w' => .inr ⟨L, .dK kv, hv1, trivial, fun od => dic_end g2 hL k' g' hv2 w'⟩
  · exact PE.weak PE.any fun σ H Q h => h0 (te_if h).1
end
/-! ### list(x) that will change -/
def listCD (xs : List D) : M D := fun μ => match xs with
  | [d] => match asS μ d with
    | some ys => .ok (.cell μ.length) (μ ++ [.lst ys])
    | none => .stuck
  | _ => .stuck
def listCE (r : Dn) (G : Ctx) (a : Expr) (ρ : Sl) : M D := if G.isB "list" = true ∧ glB G.sc "list" = true ∧ noStar [a] = true then (do let d ← r.e G a ρ; listCD [d]) else stuck
section
variable {W : Wd} {Z : WX} {X : Cx} {G : Ctx} {r : Dn}
theorem call_listCD (hK : X.K = W.K) : CallR X (.type "list") (RCof W listCD) := by
  intro pins s σ H xs us Q I r h
  obtain ⟨E, ds, m, rfl, g, l, q⟩ := h
  unfold listCD at q
  split at q
  · rename_i d
    obtain ⟨x, rfl, hd⟩ := dl1 l
    split at q
    · rename_i ys e
      obtain ⟨a, vs, rfl, h1, l1⟩ := asS_den g hd e
      exact call_list_of pins s σ m.H _ us Q I r ⟨a, vs, rfl, by rw [hK]; exact h1, fun p hp => out.cel q g l1 hp⟩
    · exact q.elim
  · exact q.elim
theorem pe_listCE (R : EnOk W r) (ok : EOk W X Z G) (a : Expr) (p pos : Pos) : PE X (.Call (.Name "list" p) [a] [] pos) (TEof W Z (listCE r G a)) := by
  by_cases hz : G.isB "list" = true ∧ glB G.sc "list" = true ∧ noStar [a] = true
  · obtain ⟨z1, z2⟩ := star_cons (env := X.env) hz.2.2
    refine PE.weak (pe_callTy (call_listCD ok.K) (gl_of ok hz.2.1) (ok.g.bl _ hz.1) (by decide +kernel) (pa_cons (R.e ok a) pa_nil (hs := z1)) (by decide +kernel) (by decide +kernel) z1 (star_any z2)) fun σ H Q h => ?_
    obtain ⟨ρ, m, e, g, rr, w⟩ := (te_if h).2
    exact ⟨ρ, m, e, g, rr, (wpR_bind w).mono (fun _ _ _ _ z => z) fun d m1 s1 g1 w1 v hv => ⟨EWish W Z σ, [d], m1, rfl, g1, .cons hv .nil, w1⟩⟩
  · exact PE.weak PE.any fun σ H Q h => hz (te_if h).1
end
/-! ### one step more -/
def stepE5 (r : Dn) (G : Ctx) (e : Expr) (ρ : Sl) : M D := match e with
  | .FormattedValue a c none _ => fmtE r G a c ρ
  | .JoinedStr vs _ => jsE r G vs ρ
  | .List es pos => if noStar es = true then stepE4 r G (.List es pos) ρ else starE r G es pos ρ
  | .Call (.Attribute o m ap) [a] [] pos => if m = "get" then getE1 r G o a (ap.endLine == pos.line) ρ else stepE4 r G (.Call (.Attribute o m ap) [a] [] pos) ρ
  | .Call (.Attribute o m ap) [a, b] [] pos => if m = "get" then getE2 r G o a b (ap.endLine == pos.line) ρ else stepE4 r G (.Call (.Attribute o m ap) [a, b] [] pos) ρ
  | .Call (.Name f p) [a] [] pos => if f = "list" ∧ G.hint pos = 1 then listCE r G a ρ else stepE4 r G (.Call (.Name f p) [a] [] pos) ρ
  | .ListComp elt [c0, c1] sc pos => lc2D r G elt c0 c1 sc pos ρ
  | .DictComp kx vx [c0] sc _ => dc1D r G kx vx c0 sc ρ
  | .DictComp kx vx [c0, c1] sc _ => dc2D r G kx vx c0 c1 sc ρ
  | e => stepE4 r G e ρ
theorem pe_stepE5 {W : Wd} {Z : WX} {X : Cx} {G : Ctx} {r : Dn} (R : EnOk W r) (ok : EOk W X Z G) (e : Expr) : PE X e (TEof W Z (stepE5 r G e)) := by
  unfold stepE5
  split
  · exact pe_fmtE R ok _ _ _
  · exact pe_jsE R ok _ _
  · rename_i es pos
    by_cases h : noStar es = true
    · simp only [h, ↓reduceIte]; exact pe_stepE4 R ok _
    · simp only [h, ↓reduceIte]; exact pe_starE R ok es pos
  · rename_i o m ap a pos
    by_cases h : m = "get"
    · subst h; simp only [↓reduceIte]; exact pe_getE1 R ok o a ap pos
    · simp only [h, ↓reduceIte]; exact pe_stepE4 R ok _
  · rename_i o m ap a b pos
    by_cases h : m = "get"
    · subst h; simp only [↓reduceIte]; exact pe_getE2 R ok o a b ap pos
    · simp only [h, ↓reduceIte]; exact pe_stepE4 R ok _
  · rename_i f p a pos
    by_cases h : f = "list" ∧ G.hint pos = 1
    · obtain ⟨rfl, h2⟩ := id h; simp only [h2, and_self, ↓reduceIte]; exact pe_listCE R ok a p pos
    · simp only [h, ↓reduceIte]; exact pe_stepE4 R ok _
  · exact pe_lc2D R ok _ _ _ _ _
  · exact pe_dc1D R ok _ _ _ _ _
  · exact pe_dc2D R ok _ _ _ _ _ _
  · exact pe_stepE4 R ok _
end Pu

set_option Elab.async false
set_option linter.all false
set_option maxRecDepth 100000
/-! Pu34: dicts as cells; list(range(n)). -/
namespace Pu
open PySem L2
def dispC (r : Dn) (G : Ctx) (ks : List (Option Expr)) (vs : List Expr) (ρ : Sl) : M D :=
  if ks.all (·.isSome) = true ∧ ks.length = vs.length ∧ ks.length ≤ 15 then (do let l ← noX (pairsD r G ks vs ρ); fun μ => .ok (.cell μ.length) (μ ++ [.dic (mergeD [] l)])) else stuck
def newT (ks : List (Option Expr)) (vs : List Expr) : M D := match ks, vs with
  | [], [] => fun μ => .ok (.cell μ.length) (μ ++ [.dt []])
  | _, _ => stuck
section
variable {W : Wd} {Z : WX} {X : Cx} {G : Ctx} {σ : St} {H : Hp} {Q : VK} {r : Dn}
theorem out_new {m : Mem} {p : Addr} {o : HO} {c : MO} {E : Ex → Mem → Prop} (g : Okm W m) (hp : m.H p = none) (hc : CellOk W (m.grow p o c) c p) (w : out W m E Q (.ok (.cell m.μ.length) (m.μ ++ [c]))) : Q (.ref p) (upd m.H p o) := by
  refine w (m.grow p o c) (step_grow g hp) (good_grow g hp hc) rfl _ ?_
  rw [← g.len]
  exact den_grow
theorem cell_end {m m2 : Mem} {p : Addr} {ds : List (Key × D)} {kv : List (Key × V)} {E : Ex → Mem → Prop} (g : Okm W m) (hp : m.H p = none) (k : Mk m m2 p) (g2 : Okm W m2) (l : DenK W m2 ds kv) (w : out W m E Q (.ok (.cell m2.μ.length) (m2.μ ++ [.dic ds]))) : Q (.ref p) (upd m2.H p (.dK kv)) := by
  have k3 : Mk m (m2.gro p (.dK kv)) p := k.gro g hp
  have g3 : Okm W (m2.gro p (.dK kv)) := okm_gro g2 k.mem
  obtain ⟨st, gg⟩ := k3.fixK g hp g3 upd_same (l.up (up_gro k.mem))
  refine w ((m2.gro p (.dK kv)).fixC p m.pv (.dic ds)) st gg rfl _ (.cell ?_)
  show (m2.as ++ [p])[m2.μ.length]? = some p
  rw [← g2.len]
  simp
theorem pe_dispC (R : EnOk W r) (ok : EOk W X Z G) (ks : List (Option Expr)) (vs : List Expr) (pos : Pos) : PE X (.Dict ks vs pos) (TEof W Z (dispC r G ks vs)) := by
  by_cases hz : ks.all (·.isSome) = true ∧ ks.length = vs.length ∧ ks.length ≤ 15
  · obtain ⟨h1, h2, h3⟩ := id hz
    have open_ : ∀ {σ H Q}, TEof W Z (dispC r G ks vs) σ H Q → ∃ ρ m l μ', m.H = H ∧ Okm W m ∧ EnvOk W m ρ σ ∧ pairsD r G ks vs ρ m.μ = .ok l μ' ∧ out W m (EWish W Z σ) Q (.ok (.cell μ'.length) (μ' ++ [.dic (mergeD [] l)])) := by
      rintro σ H Q ⟨ρ, m, e, g, rr, w⟩
      unfold dispC at w
      rw [if_pos hz] at w
      replace w : out W m (EWish W Z σ) Q (M.bind (noX (pairsD r G ks vs ρ)) (fun l => fun μ => .ok (.cell μ.length) (μ ++ [.dic (mergeD [] l)])) m.μ) := w
      unfold M.bind noX at w
      cases q : pairsD r G ks vs ρ m.μ with
      | ok l μ' => rw [q] at w; exact ⟨ρ, m, l, μ', e, g, rr, q, w⟩
      | exc x μ' => rw [q] at w; exact (show False from w).elim
      | stuck => rw [q] at w; exact (show False from w).elim
    by_cases h0 : ks = []
    · subst h0
      have e1 : vs = [] := by cases vs with | nil => rfl | cons _ _ => cases h2
      subst e1
      refine PE.weak pe_dnewK fun σ H Q h => ?_
      obtain ⟨ρ, m, l, μ', e, g, rr, q, w⟩ := open_ h
      cases q
      subst e
      exact fun p hp => out_new (c := .dic []) g hp ⟨[], upd_same, .nil⟩ w
    · refine PE.weak (pe_disp (pps_D R ok h1 h2) h1 h2 h0 h3) fun σ H Q h => ?_
      obtain ⟨ρ, m, l, μ', e, g, rr, q, w⟩ := open_ h
      subst e
      intro p hp
      refine pairs_read (E := fun _ _ => True) (P := fun _ _ => True) ks vs _ (m.opn p (.dK [])) (rr.up (up_opn hp)) (okm_opn g hp) ?_
      rw [show pairsD r G ks vs ρ (m.opn p (.dK [])).μ = .ok l μ' from q]
      intro m2 s2 g2 e2 kvs hk
      have hl : kvs.length ≤ 15 := by rw [← hk.length, pairs_len ks vs _ _ _ q]; exact h3
      rw [← e2] at w
      exact ⟨(s2.pvk p List.mem_cons_self).trans upd_same, kvs, rfl, hl, cell_end g hp ((Mk.opn g hp).step s2) g2 (DenK.merge hk .nil) w⟩
  · exact PE.weak PE.any fun σ H Q h => by
      obtain ⟨ρ, m, e, g, rr, w⟩ := h
      unfold dispC at w
      rw [if_neg hz] at w
      exact w
theorem pe_newT (ks : List (Option Expr)) (vs : List Expr) (pos : Pos) : PE X (.Dict ks vs pos) (TEof W Z (fun _ => newT ks vs)) := by
  match ks, vs with
  | [], [] =>
    refine PE.weak pe_dnewT fun σ H Q h => ?_
    obtain ⟨ρ, m, e, g, rr, w⟩ := h
    subst e
    exact fun p hp => out_new (c := .dt []) g hp ⟨[], upd_same, .nil⟩ w
  | [], _ :: _ => exact PE.weak PE.any fun σ H Q h => te_none (f := fun _ => stuck) (fun _ => rfl) h
  | _ :: _, _ => exact PE.weak PE.any fun σ H Q h => te_none (f := fun _ => stuck) (fun _ => rfl) h
/-! ### list(range(n)) -/
def rgD (d : D) : M D := fun μ => match d with
  | .int j => if 0 ≤ j ∧ j ≤ 16777216 then .ok (.lst (rangeL 0 j.toNat)) μ else .stuck
  | _ => .stuck
def rgE (r : Dn) (G : Ctx) (a : Expr) (ρ : Sl) : M D := if (G.isB "list" = true ∧ G.isB "range" = true) ∧ (glB G.sc "list" = true ∧ glB G.sc "range" = true) ∧ noStar [a] = true ∧ G.hot = false then (do let d ← r.e G a ρ; rgD d) else stuck
theorem den_range {m : Mem} {j : Int} (h : 0 ≤ j) : DenL W m (rangeL 0 j.toNat) (rgV 0 j) := by
  unfold rangeL rgV
  rw [Int.sub_zero]
  have gen : ∀ l : List Nat, DenL W m (l.map fun (i : Nat) => D.int (0 + i)) (l.map fun (i : Nat) => V.int (0 + i)) := fun l => by
    induction l with
    | nil => exact .nil
    | cons x r ih => exact .cons (.int _) ih
  exact gen _
theorem pe_rgE (R : EnOk W r) (ok : EOk W X Z G) (a : Expr) (p p2 pos pos2 : Pos) : PE X (.Call (.Name "list" p) [.Call (.Name "range" p2) [a] [] pos2] [] pos) (TEof W Z (rgE r G a)) := by
  by_cases hz : (G.isB "list" = true ∧ G.isB "range" = true) ∧ (glB G.sc "list" = true ∧ glB G.sc "range" = true) ∧ noStar [a] = true ∧ G.hot = false
  · obtain ⟨⟨b1, b2⟩, ⟨g1, g2⟩, hs, hot⟩ := id hz
    obtain ⟨z1, z2⟩ := star_cons (env := X.env) hs
    refine PE.weak (pe_listRg (ok.calm hot) (gl_of ok g1) (ok.g.bl _ b1) (prg_1 (gl_of ok g2) (ok.g.bl _ b2) (R.e ok a) z1)) fun σ H Q h => ?_
    obtain ⟨ρ, m, e, g, rr, w⟩ := (te_if h).2
    refine ⟨ρ, m, e, g, rr, (wpR_bind w).mono (fun _ _ _ _ z => z) fun d m1 s1 g1 w1 v hv => ?_⟩
    unfold rgD at w1
    cases d with
    | int j =>
      cases den_int hv
      simp only at w1
      by_cases hj : 0 ≤ j ∧ j ≤ 16777216
      · rw [if_pos hj] at w1
        exact ⟨j, rfl, RgOk.of_le (by omega) (by omega) (by omega) (by omega), fun q hq => out.lst (E := EWish W Z σ) w1 g1 (den_range hj.1) hq⟩
      · rw [if_neg hj] at w1; exact w1.elim
    | _ => exact (show False from w1).elim
  · exact PE.weak PE.any fun σ H Q h => hz (te_if h).1
end
/-- list(range(a)) seen in the text -/
def lrArg : Expr → Option Expr
  | .Call (.Name f _) [.Call (.Name h _) [a] [] _] [] _ => if f = "list" ∧ h = "range" then some a else none
  | _ => none
theorem lrArg_of {e a : Expr} (h : lrArg e = some a) : ∃ p p2 pos pos2, e = .Call (.Name "list" p) [.Call (.Name "range" p2) [a] [] pos2] [] pos := by
  unfold lrArg at h
  split at h
  · split at h
    · rename_i z
      cases h
      obtain ⟨rfl, rfl⟩ := z
      exact ⟨_, _, _, _, rfl⟩
    · cases h
  · cases h
def stepE6 (r : Dn) (G : Ctx) (e : Expr) (ρ : Sl) : M D := match e with
  | .Dict ks vs pos => if G.hint pos = 4 then dispC r G ks vs ρ else if G.hint pos = 5 then newT ks vs else stepE5 r G (.Dict ks vs pos) ρ
  | e => match lrArg e with
    | some a => rgE r G a ρ
    | none => stepE5 r G e ρ
theorem pe_stepE6 {W : Wd} {Z : WX} {X : Cx} {G : Ctx} {r : Dn} (R : EnOk W r) (ok : EOk W X Z G) (e : Expr) : PE X e (TEof W Z (stepE6 r G e)) := by
  have gen : (∀ ρ, stepE6 r G e ρ = match lrArg e with | some a => rgE r G a ρ | none => stepE5 r G e ρ) → PE X e (TEof W Z (stepE6 r G e)) := fun z => by
    have z' : stepE6 r G e = fun ρ => match lrArg e with | some a => rgE r G a ρ | none => stepE5 r G e ρ := funext z
    rw [z']
    cases q : lrArg e with
    | none => exact pe_stepE5 R ok e
    | some a =>
      obtain ⟨p, p2, pos, pos2, rfl⟩ := lrArg_of q
      exact pe_rgE R ok a p p2 pos pos2
  cases e with
  | Dict ks vs pos =>
    by_cases h4 : G.hint pos = 4
    · have e1 : stepE6 r G (.Dict ks vs pos) = dispC r G ks vs := by
        funext ρ
        unfold stepE6
        simp only [h4, ↓reduceIte]
      rw [e1]
      exact pe_dispC R ok ks vs pos
    · by_cases h5 : G.hint pos = 5
      · have e1 : stepE6 r G (.Dict ks vs pos) = fun _ => newT ks vs := by
          funext ρ
          unfold stepE6
          simp only [h5, ↓reduceIte]
          rfl
        rw [e1]
        exact pe_newT ks vs pos
      · have e1 : stepE6 r G (.Dict ks vs pos) = stepE5 r G (.Dict ks vs pos) := by
          funext ρ
          unfold stepE6
          simp only [h4, h5, ↓reduceIte]
        rw [e1]
        exact pe_stepE5 R ok _
  | _ => exact gen fun _ => rfl
end Pu

set_option Elab.async false
set_option linter.all false
set_option maxRecDepth 100000
/-! Pu35: sorted(set(list of ints)). -/
namespace Pu
open PySem PySem.Spec PyProof.Rows L2 PySem.Froz
/-! ### rising lists of ints -/
def insI (c : Int) : List Int → List Int
  | [] => [c]
  | x :: r => if c < x then c :: x :: r else if c = x then x :: r else x :: insI c r
def sortI (l : List Int) : List Int := l.foldr insI []
abbrev RisI (l : List Int) : Prop := l.Pairwise fun x y => x < y
theorem mem_insI {c k : Int} : ∀ l, k ∈ insI c l ↔ k = c ∨ k ∈ l
  | [] => by simp [insI]
  | x :: r => by
    unfold insI
    split
    · simp
    · split
      · rename_i e
        subst e
        simp
      · simp only [List.mem_cons, mem_insI r]
        constructor
        · rintro (h | h | h) <;> simp [h]
        · rintro (h | h | h) <;> simp [h]
theorem ris_insI {c : Int} : ∀ l : List Int, RisI l → RisI (insI c l)
  | [], _ => by simp [insI]
  | x :: r, h => by
    obtain ⟨h1, h2⟩ := List.pairwise_cons.mp h
    unfold insI
    split
    · rename_i lt
      exact List.pairwise_cons.mpr ⟨fun y hy => (List.mem_cons.mp hy).elim (fun e => e ▸ lt) fun e => Int.lt_trans lt (h1 y e), h⟩
    · rename_i nlt
      split
      · exact h
      · rename_i ne
        refine List.pairwise_cons.mpr ⟨fun y hy => ?_, ris_insI r h2⟩
        rcases (mem_insI r).mp hy with e | e
        · subst e; omega
        · exact h1 y e
theorem mem_sortI {k : Int} : ∀ l, k ∈ sortI l ↔ k ∈ l
  | [] => Iff.rfl
  | x :: r => by
    show k ∈ insI x (sortI r) ↔ _
    rw [mem_insI, mem_sortI r, List.mem_cons]
theorem ris_sortI : ∀ l : List Int, RisI (sortI l)
  | [] => List.Pairwise.nil
  | x :: r => ris_insI _ (ris_sortI r)
theorem ris_uniqI : ∀ l m : List Int, RisI l → RisI m → (∀ k, k ∈ l ↔ k ∈ m) → l = m
  | [], [], _, _, _ => rfl
  | [], y :: s, _, _, h => by have := (h y).mpr List.mem_cons_self; cases this
  | x :: r, [], _, _, h => by have := (h x).mp List.mem_cons_self; cases this
  | x :: r, y :: s, h1, h2, h => by
    obtain ⟨a1, a2⟩ := List.pairwise_cons.mp h1
    obtain ⟨b1, b2⟩ := List.pairwise_cons.mp h2
    have e : x = y := by
      rcases List.mem_cons.mp ((h x).mp List.mem_cons_self) with e | e
      · exact e
      · rcases List.mem_cons.mp ((h y).mpr List.mem_cons_self) with e2 | e2
        · exact e2.symm
        · have z1 := b1 x e
          have z2 := a1 y e2
          omega
    subst e
    rw [ris_uniqI r s a2 b2 fun k => ⟨fun z => ?_, fun z => ?_⟩]
    · rcases List.mem_cons.mp ((h k).mp (List.mem_cons_of_mem _ z)) with e | e
      · subst e; have := a1 _ z; omega
      · exact e
    · rcases List.mem_cons.mp ((h k).mpr (List.mem_cons_of_mem _ z)) with e | e
      · subst e; have := b1 _ z; omega
      · exact e
section
variable {P : Program} {w : World} {A : Around} {E : Value → Shared → Prop} {s : Shared}
set_option maxHeartbeats 3200000 in
theorem call_set_ints {l : Addr} {items : Array Value} {ns : List Int} {Q : Value → Shared → Prop} (hh : A.handled = none) (hl : s.heap.IsList l items) (hit : IntsAre items.toList ns) (hb : ns.length + 1 < scanBound)
    (h : ∀ (h' : Heap) (tk c : Nat), SetR w h' s.heap.objs.size (fun j => decide (j ∈ ns)) c → c ≤ ns.length → (∀ b o, s.heap.get? b = some o → h'.get? b = some o) → Q (.ref s.heap.objs.size) { s with heap := h', toks := tk }) :
    wpAny (model P w) A (call (.type "set") [.ref l]) Q E s := by
  have hisz : items.size = ns.length := by
    have q := IntsAre.length hit
    rw [Array.length_toList] at q
    exact q
  obtain ⟨_, _, hmro⟩ := F.called_set.mro
  have g1 := F.called_set.made
  have g2 := F.called_set.sub
  refine wpAny_call (codeAny_of_tree (wpAny_pure ⟨Code.quiet_builtin _ (by decide +kernel), codeAny_builtin F.entry_type_call ?_⟩))
  rw [Around.under_plain (weight_type_call_type "set" [.ref l] []) rfl]
  have g3 := F.called_set.notType
  have g4 := F.called_set.canCreate
  have g5 := F.typeCall_set_1 (.ref l)
  repeat (any_goals (first | assumption | wp_step))
  refine codeAny_mono (code_set_led1 (.ref l) (E := E) (Q₁ := fun obj s₁ => obj = .ref s.heap.objs.size ∧ s₁ = { s with heap := s.heap.push (emptyX w) }) ⟨rfl, rfl⟩) fun r s₁ hr => ?_
  match r, hr with
  | .error e, hr => exact hr
  | .ok .next, hr => exact hr.elim
  | .ok .brk, hr => exact hr.elim
  | .ok .cont, hr => exact hr.elim
  | .ok (.ret obj), hr =>
    obtain ⟨rfl, rfl⟩ := hr
    have hS : (s.heap.push (emptyX w)).get? s.heap.objs.size = some (emptyX w) := Heap.get?_push_size _ rfl
    have hT : Shared.TypeIs { s with heap := s.heap.push (emptyX w) } (.ref s.heap.objs.size) "set" := ⟨_, hS, rfl⟩
    have g6 := F.called_set.init.lookup
    have g7 := F.called_set.init.bind (.ref s.heap.objs.size)
    repeat (any_goals (first | assumption | wp_step))
    refine codeAny_mono (codeAny_call_builtin (R := wants (fun r s₂ => r = .none ∧ ∃ h' tk c, s₂ = { s with heap := h', toks := tk } ∧ SetR w h' s.heap.objs.size (fun j => decide (j ∈ ns)) c ∧ c ≤ ns.length ∧ (∀ b o, s.heap.get? b = some o → h'.get? b = some o)) E) F.called_set.init.plain F.entry_set_init (check_set_init_1 hT ?_)) fun r₂ s₂ hr₂ => ?_
    · obtain ⟨ol, hol, hcl, nl, hdl⟩ := hl
      obtain ⟨ocls, odict, odata, oslots⟩ := ol
      simp only at hcl hdl
      subst hcl; subst hdl
      have hol' : (s.heap.push (emptyX w)).get? l = some { cls := .type "list", dict := odict, data := .seq items nl, slots := oslots } := Heap.get?_push_of_some _ hol
      have g8 := F.sub_list_set
      have g9 := F.sub_list_frozenset
      have g10 : (Value.type "list" == Value.type "dict") = false := by decide
      have hl1 : (s.heap.push (emptyX w)).IsList l items := ⟨_, hol', rfl, nl, rfl⟩
      unfold Builtin.«set.__init__» noKeywords Builtin.Frozenset.updateFrom
      generalize hPI : pyIter = PI
      wp_walk
      subst hPI
      refine wpAny_pyIter_list hl1 ?_
      refine wpAny_bind (wpAny_runValue ?_)
      have z1 : (s.heap.push (emptyX w)).objs.size = s.heap.objs.size + 1 := Heap.size_push ..
      have hlS : l < s.heap.objs.size := Heap.lt_size hol
      have ne : s.heap.objs.size ∉ [(s.heap.push (emptyX w)).objs.size, l] := by
        rw [z1]
        simp only [List.mem_cons, List.not_mem_nil, or_false, not_or]
        exact ⟨Nat.ne_of_lt (Nat.lt_succ_self _), Nat.ne_of_gt hlS⟩
      have hneI : l ≠ (s.heap.push (emptyX w)).objs.size := by rw [z1]; exact Nat.ne_of_lt (Nat.lt_succ_of_lt hlS)
      have hval : ∀ (i : Nat) (v : Value), items[i]? = some v → ∃ k t, ns[i]? = some k ∧ v = .int k t := fun i v hv => by
        have hi : i < ns.length := by rw [← hisz]; exact (Array.getElem?_eq_some_iff.mp hv).1
        obtain ⟨t, e⟩ := PyProof.Rows.IntsAre.int_at hit i v (by rw [Array.getElem?_toList]; exact hv)
        refine ⟨ns[i], t, List.getElem?_eq_getElem hi, ?_⟩
        rw [e, List.getD_eq_getElem?_getD, List.getElem?_eq_getElem hi] <;> rfl
      refine set_update_ints ((Walks.list (by simp [hh]) _ l hneI items).toS) s.heap.objs.size ne ns hisz hb hval (items.size - 0) 0 { s with heap := (s.heap.push (emptyX w)).push { cls := .type "list_iterator", data := .fields #[.ref l, .int 0 0] } } (by omega) (Nat.zero_le _) ⟨⟨_, Heap.get?_push_size _ rfl, rfl, rfl⟩, ⟨_, Heap.get?_push_of_some _ hol', rfl, nl, rfl⟩⟩ ⟨0, Nat.le_refl 0, setR_new_at (Heap.get?_push_of_some _ hS)⟩ fun s' c' hm hc' hS' => ?_
      obtain ⟨h', g2', d', tk', os'⟩ := s'
      have eg : g2' = s.gens := hm.gens
      have ed : d' = s.drawn := hm.drawn
      have eo : os' = s.os := hm.os
      subst eg; subst ed; subst eo
      show wpAny _ _ _ _ _ _
      refine wpAny_pure ?_
      show wpAny _ _ (ret Value.none) _ _ _
      rw [hisz] at hc'
      refine wpAny_pure ⟨rfl, h', tk', c', rfl, hS', hc', fun b o e => ?_⟩
      have hb0 : b < s.heap.objs.size := Heap.lt_size e
      refine hm.heap b o ?_ (Heap.get?_push_of_some _ (Heap.get?_push_of_some _ e))
      rw [z1]
      simp only [List.mem_cons, List.not_mem_nil, or_false, not_or]
      exact ⟨Nat.ne_of_lt hb0, Nat.ne_of_lt (Nat.lt_succ_of_lt hb0)⟩
    · match r₂, hr₂ with
      | .error e, hr₂ => exact hr₂
      | .ok .next, hr₂ => exact hr₂.elim
      | .ok .brk, hr₂ => exact hr₂.elim
      | .ok .cont, hr₂ => exact hr₂.elim
      | .ok (.ret r), hr₂ =>
        obtain ⟨rfl, h', tk, c, rfl, hx, hc, kp⟩ := hr₂
        repeat (any_goals (first | assumption | wp_step))
        exact h _ _ _ hx hc kp
end
section
variable {X : Cx}
def rSetI (K : PySem.W.Frag) (w : World) : List V → Hp → VK → Prop := fun xs H Q => ∃ (b : Addr) (ns : List Int), xs = [V.ref b] ∧ SqL K H b (ns.map V.int) ∧ ns.length < 64 ∧ ∀ a c, c ≤ ns.length → H a = none → Q (.ref a) (upd H a (SetO w a (fun j => decide (j ∈ ns)) c))
theorem cr_setI (hc : X.calm = true) : CallR X (.type "set") (rSetI X.K X.w) := by
  intro pins s σ H xs us Q I r h
  obtain ⟨b, ns, rfl, hb, hz, q⟩ := h
  rw [Vals.ref1 r]
  obtain ⟨its, rv, hl, _⟩ := I.list hb
  refine call_set_ints (P := X.prog) (w := X.w) (I.ok.hd hc) hl.isList (by simpa using rv.ints) (by unfold scanBound; omega) fun h' tk c R hc' kp => ?_
  exact ⟨.ref s.heap.objs.size, upd H s.heap.objs.size (SetO X.w s.heap.objs.size _ c), I.laid (t' := tk) kp (Nat.le_refl _) (setO_new R), rfl, q _ c hc' (I.hok.fresh (Nat.le_refl _))⟩
end
def srtID (d : D) : M D := fun μ => match (asQ μ d).bind intsOf with
  | some ks => if ks.length < 64 then .ok (.lst ((sortI ks).map .int)) μ else .stuck
  | none => .stuck
def srtIE (r : Dn) (G : Ctx) (e : Expr) (ρ : Sl) : M D := if srtOk G = true ∧ noStar [e] = true then (do let d ← r.e G e ρ; srtID d) else stuck
section
variable {W : Wd} {Z : WX} {X : Cx} {G : Ctx} {r : Dn}
theorem ints_den {m : Mem} {d : D} {v : V} {ks : List Int} (g : Okm W m) (h : Den W m d v) (e : (asQ m.μ d).bind intsOf = some ks) : ∃ b, v = V.ref b ∧ SqL W.K m.H b (ks.map V.int) := by
  cases q : asQ m.μ d with
  | none => rw [q] at e; cases e
  | some ds =>
    rw [q] at e
    obtain ⟨a, vs, rfl, h1, l⟩ := asQ_den g h q
    have e2 := intsOf_map (show intsOf ds = some ks from e)
    subst e2
    rw [DenL.of_ints l] at h1
    exact ⟨a, rfl, h1⟩
theorem pe_srtI (R : EnOk W r) (ok : EOk W X Z G) (e : Expr) (p p2 pos pos2 : Pos) : PE X (.Call (.Name "sorted" p) [.Call (.Name "set" p2) [e] [] pos2] [] pos) (TEof W Z (srtIE r G e)) := by
  by_cases hz : srtOk G = true ∧ noStar [e] = true
  · obtain ⟨h0, hs⟩ := id hz
    unfold srtOk at h0
    simp only [Bool.and_eq_true, Bool.not_eq_true'] at h0
    obtain ⟨⟨⟨⟨b1, b2⟩, g1⟩, g2⟩, hot⟩ := h0
    have hc := ok.calm hot
    obtain ⟨z1, z2⟩ := star_cons (env := X.env) hs
    refine PE.weak (pe_callB (cr_sortedSet hc) (gl_of ok g1) (ok.g.bl _ b1) (by decide +kernel) (pa_cons (pe_callTy (cr_setI hc) (gl_of ok g2) (ok.g.bl _ b2) (by decide +kernel) (pa_cons (R.e ok e) pa_nil (hs := z1)) (by decide +kernel) (by decide +kernel) z1 (star_any z2)) pa_nil) (by decide +kernel) (by decide +kernel) rfl rfl) fun σ H Q h => ?_
    obtain ⟨ρ, m, ee, g, rr, w⟩ := (te_if h).2
    refine ⟨ρ, m, ee, g, rr, (wpR_bind w).mono (fun _ _ _ _ z => z) fun d m1 s1 g1 w1 v hv => ?_⟩
    unfold srtID at w1
    split at w1
    · rename_i ks e
      by_cases hlt : ks.length < 64
      · rw [if_pos hlt] at w1
        obtain ⟨b, rfl, hb⟩ := ints_den g1 hv e
        refine ⟨b, ks, rfl, by rw [ok.K]; exact hb, hlt, fun a c hc' ha => ?_⟩
        refine ⟨a, _, c, rfl, upd_same, by omega, fun ns q h1 h2 h3 hq => ?_⟩
        have en : ns = sortI ks := ris_uniqI ns _ h1 (ris_sortI ks) fun k => by rw [h2, decide_eq_true_eq, mem_sortI]
        subst en
        let m2 := m1.put a (SetO X.w a (fun j => decide (j ∈ ks)) c)
        have s2 : Step m1 m2 := step_put g1 ha
        have g2 : Okm W m2 := good_put g1 ha
        have s3 : Step m2 (m2.put q (.lst ((sortI ks).map V.int))) := step_put g2 hq
        exact w1 (m2.put q _) (s2.trans s3) (good_put g2 hq) rfl _ (den_lst g2 hq (DenL.ints _))
      · rw [if_neg hlt] at w1; exact w1.elim
    · exact w1.elim
  · exact PE.weak PE.any fun σ H Q h => hz (te_if h).1
end
end Pu

set_option Elab.async false
set_option linter.all false
set_option maxRecDepth 100000
/-! Pu36: d.update(e); x[::-1] of lists and texts. -/
namespace Pu
open PySem L2
/-! ### d.update(e) -/
def tUpd (td ty : TE) : TE := fun σ H Q => td σ H fun x H1 => ∃ a, x = .ref a ∧ IsD H1 a ∧ ty σ H1 fun y H2 => ∃ b kvs more, y = .ref b ∧ H2 a = some (.dK kvs) ∧ Rd H2 b (.dK more) ∧ a ≠ b ∧ kvs.length + more.length ≤ sizeLine ∧ Q .non (upd H2 a (.dK (mergeK kvs more)))
section
variable {X : Cx}
theorem d_upd {pins : List (Addr × Obj)} {σ : St} {H : Hp} {s : Shared} {a b : Addr} {kvs more : List (Key × V)} {A : Around} {E : Value → Shared → Prop} {Q : Value → Shared → Prop} (I : Inv X pins σ H s) (ha : H a = some (.dK kvs)) (hb : Rd H b (.dK more)) (ne : a ≠ b) (hsz : kvs.length + more.length ≤ sizeLine)
    (h : ∀ s', Inv X pins σ (upd H a (.dK (mergeK kvs more))) s' → Q .none s') : wpAny (model X.prog X.w) A (call (.builtin "dict.update") [.ref a, .ref b]) Q E s := by
  obtain ⟨z, hs1, vs, rel, dd⟩ := dk_of I.hok ha
  obtain ⟨z2, hs2, vs2, rel2, dd2⟩ := dk_rd I.hok hb
  refine call_meetsIn PySem.F.slot_dict_update dd.typeIs PySem.F.entry_dict_update (PySem.F.args_dict_update_2 _ _) (meets_dict_update (mixKind X.prog X.w) a b ne hs2) ⟨vs, vs2, dd, dd2, by rw [← rel.length, ← rel2.length]; exact hsz, fun h' hmm _ hs => ?_⟩
  have he : ∃ q, h'.get? a = some q := let ⟨q, _, _, hq, _⟩ := hmm; ⟨q, hq⟩
  have hz : (mergeK kvs more).length ≤ sizeLine := Nat.le_trans (length_mergeK more kvs) hsz
  exact h _ (d_write (t' := s.toks) I (by rw [ha]; exact True.intro) hs he (dk_new hz hs1 (rel2.merge rel) hmm))
theorem pe_upd {o e : Expr} {apos cpos : Pos} {td ty : TE} (ho : PE X o td) (he : PE X e ty) (m : M1 X o "update" apos e cpos) : PE X (.Call (.Attribute o "update" apos) [e] [] cpos) (tUpd td ty) := by
  refine ⟨fun pins s σ H Q I h => ?_⟩
  refine wpAny_Call_method m.base m.few m.line PySem.F.plainAttrs_dict PySem.F.slot_dict_update PySem.F.type_dict_update (thn (ho.run pins s σ H _ I h) fun u s1 ⟨x, H1, I1, rx, a, ex, d, q1⟩ => ?_)
  subst ex
  obtain rfl : u = Value.ref a := rx
  obtain ⟨t1, t2, _⟩ := isD_at I1 d
  refine ⟨t1, t2, ?_⟩
  rw [m.trees]
  refine Calls.callWith_builtin rfl (Calls.evalArgs_plain (Calls.spliced_cons (thn (he.run pins s1 σ H1 _ I1 q1) fun iv s2 ⟨y, H2, I2, ry, b, kvs, more, ey, ha, hb, ne, hsz, q2⟩ => Calls.spliced_nil ?_)))
  subst ey
  obtain rfl : iv = Value.ref b := ry
  exact d_upd I2 ha hb ne hsz fun s3 I3 => ⟨.non, _, I3, rfl, q2⟩
end
def chkD (d : D) : M Unit := fun μ => match d with
  | .cell c => match μ[c]? with
    | some (.dic _) => .ok () μ
    | _ => .stuck
  | _ => .stuck
def updD (x y : D) : M D := fun μ => match x, y with
  | .cell c, .dic more => match μ[c]? with
    | some (.dic kvs) => if kvs.length + more.length ≤ sizeLine then .ok .non (μ.set c (.dic (mergeD kvs more))) else .stuck
    | _ => .stuck
  | _, _ => .stuck
def updE (r : Dn) (G : Ctx) (o e : Expr) (ok : Bool) (ρ : Sl) : M D := if plainO o = true ∧ noStar [e] = true ∧ ok = true then (do let x ← r.e G o ρ; chkD x; let y ← r.e G e ρ; updD x y) else stuck
section
variable {W : Wd} {Z : WX} {X : Cx} {G : Ctx} {r : Dn}
theorem chkD_den {m : Mem} {d : D} {v : V} {E : Ex → Mem → Prop} {Q : Unit → Mem → Prop} (g : Okm W m) (hv : Den W m d v) (w : wpR W m E Q (chkD d m.μ)) : (∃ c a kv, d = .cell c ∧ v = .ref a ∧ m.as[c]? = some a ∧ m.H a = some (.dK kv)) ∧ Q () m := by
  unfold chkD at w
  split at w
  · rename_i c
    split at w
    · rename_i xs e
      cases hv with
      | @cell _ a h1 =>
        obtain ⟨kv, h2, _⟩ := g.ok c _ a e h1
        exact ⟨⟨c, a, kv, rfl, rfl, h1, h2⟩, w m (Step.refl m) g rfl⟩
    · exact w.elim
  · exact w.elim
theorem pe_updE (R : EnOk W r) (ok : EOk W X Z G) (o e : Expr) (ap pos : Pos) : PE X (.Call (.Attribute o "update" ap) [e] [] pos) (TEof W Z (updE r G o e (ap.endLine == pos.line))) := by
  by_cases h0 : plainO o = true ∧ noStar [e] = true ∧ (ap.endLine == pos.line) = true
  · obtain ⟨z1, z2⟩ := star_cons (env := X.env) h0.2.1
    refine PE.weak (pe_upd (R.e ok o) (R.e ok e) ⟨plainO_base h0.1 _ X.env, few1 h0.2.1, h0.2.2, by rw [z1]; rfl⟩) fun σ H Q h => ?_
    obtain ⟨ρ, m, ee, g, rr, w⟩ := (te_if h).2
    refine ⟨ρ, m, ee, g, rr, (wpR_bind w).mono (fun _ _ _ _ z => z) fun x m1 s1 g1 w1 xv hxv => ?_⟩
    obtain ⟨⟨c, a, kv, rfl, rfl, h1, h2⟩, w2⟩ := chkD_den g1 hxv (wpR_bind w1)
    refine ⟨a, rfl, .inl ⟨kv, .inl h2⟩, ρ, m1, rfl, g1, rr.mono s1, (wpR_bind w2).mono (fun _ _ _ _ z => z) fun y m2 s2 g2 w3 yv hyv => ?_⟩
    have h1' := s2.as h1
    unfold updD at w3
    cases hyv with
    | @dic more b kv2 ob q1 n1 l1 =>
      simp only at w3
      split at w3
      · rename_i kvs e2
        by_cases hl : kvs.length + more.length ≤ sizeLine
        · rw [if_pos hl] at w3
          obtain ⟨kv', h3, l⟩ := g2.ok c _ a e2 h1'
          have lv : m2.live a := .inl ⟨c, _, h1', e2, fun z => nomatch z⟩
          have ne : a ≠ b := fun z => n1 (z ▸ lv)
          refine ⟨b, kv', kv2, rfl, h3, .inr ⟨ob, q1⟩, ne, by rw [← l.length, ← l1.length]; exact hl, ?_⟩
          have st : Step m2 (m2.wr c a (.dK (mergeK kv' kv2)) (.dic (mergeD kvs more))) := step_wr g2 h1' lv
          exact w3 (m2.wr c a (.dK (mergeK kv' kv2)) (.dic (mergeD kvs more))) st (good_wr g2 h1' lv ⟨_, upd_same, (DenK.merge l1 l).mono st⟩) rfl _ .non
        · rw [if_neg hl] at w3; exact w3.elim
      · exact w3.elim
    | _ => exact (show False from w3).elim
  · exact PE.weak PE.any fun σ H Q h => h0 (te_if h).1
end
end Pu

set_option Elab.async false
set_option linter.all false
set_option maxRecDepth 100000
/-! Pu37: x[::-1] of lists and texts; the steps so far. -/
namespace Pu
open PySem PySem.Spec PyProof.Rows L2
def revS (z : Str) : Str := ⟨z.cps.toList.reverse.toArray⟩
theorem picked_rev (z : Str) : (Builtin.Str.strSliceIndices none none (-1) z.length).filterMap (z.cps[·]?) = z.cps.toList.reverse := by
  show (sliceRange ((z.length : Int) - 1) (-1) (-1)).filterMap (z.cps[·]?) = _
  rw [PySem.W.krv_sliceRange, PySem.W.krv_range, List.filterMap_reverse]
  congr 1
  exact PySem.W.krv_all z.cps
def tRevS (te : TE) : TE := fun σ H Q => te σ H fun x H1 => ∃ z, x = .str z ∧ z.length ≤ sizeLine ∧ Q (.str (revS z)) H1
section
variable {X : Cx}
theorem pe_revS {e : Expr} {te : TE} {k : Nat} {p1 p2 p3 pos : Pos} (he : PE X e te) : PE X (.Subscript e (.Slice none none (some (.UnaryOp .USub (.Constant (.int 1) k p1) p2)) p3) pos) (tRevS te) := by
  refine ⟨fun pins s σ H Q I h => ?_⟩
  refine Subscript_ (thn (he.run pins s σ H _ I h) fun v s1 ⟨x, H1, I1, r1, q1⟩ => ?_)
  obtain ⟨z, ex, hz, q⟩ := q1
  subst ex
  obtain ⟨t, rfl⟩ := r1
  have hst : PO X (some (.UnaryOp .USub (.Constant (.int 1) k p1) p2)) (tPart (tUn (rU fun i => .int (-i)) (tC (.int 1)))) := po_some (pe_un un_neg pe_int)
  refine wpAny_Slice (thn (po_none.run pins s1 σ H1 (fun o H2 => o = none ∧ H2 = H1) I1 ⟨rfl, rfl⟩) fun vl s2 ⟨l, H2, I2, pl, el, e2⟩ => ?_)
  subst el e2
  refine thn (po_none.run pins s2 σ H2 (fun o H3 => o = none ∧ H3 = H2) I2 ⟨rfl, rfl⟩) fun vu s3 ⟨u, H3, I3, pu, eu, e3⟩ => ?_
  subst eu e3
  refine thn (hst.run pins s3 σ H3 (fun o H4 => o = some (-1) ∧ H4 = H3) I3 ⟨1, rfl, -1, rfl, rfl, rfl⟩) fun vs s4 ⟨o, H4, I4, ps, eo, e4⟩ => ?_
  subst eo e4
  have I5 : Inv X pins σ H4 { s4 with heap := s4.heap.push { cls := .type "slice", data := .fields #[vl, vu, vs] } } := I4.kept (t' := s4.toks) fun b ob q => Heap.get?_push_of_some _ q
  obtain ⟨l, rfl, el⟩ := IsPart.raw pl
  obtain ⟨u, rfl, eu⟩ := IsPart.raw pu
  obtain ⟨st, rfl, es⟩ := IsPart.raw ps
  have hl0 : l = none := by cases l <;> simp_all
  have hu0 : u = none := by cases u <;> simp_all
  subst hl0 hu0
  refine tail_any (ops := [.str z t, .ref s4.heap.objs.size]) (typeIs_str _ z t) (PySem.F.slot_str_getitem.lookup) ?_ (by with_unfolding_all rfl)
  refine wpAny_getItem_str_slice (l := none) (u := none) (st := st) ⟨_, Heap.get?_push_size _ rfl, rfl, rfl⟩ (by rw [es]; rfl) ?_
  have eq : sliceMade z t none none st = .str (revS z) := by
    unfold sliceMade slicePicked
    rw [es]
    show (if ((-1 : Int) == 1 && _) = true then _ else Made.str ⟨((Builtin.Str.strSliceIndices none none (-1) z.length).filterMap (z.cps[·]?)).toArray⟩) = _
    rw [if_neg (by simp), picked_rev]
    rfl
  rw [eq]
  have hl : (revS z).length ≤ sizeLine := by
    have e : (revS z).length = z.length := by simp [revS, Str.length]
    rw [e]
    exact hz
  exact ⟨hl, .str _, H4, I5.tok _, ⟨_, rfl⟩, q⟩
end
/-! ### x[::-1] -/
def revArg : Expr → Option Expr
  | .Subscript e (.Slice none none (some (.UnaryOp .USub (.Constant (.int i) _ _) _)) _) _ => if i = 1 then some e else none
  | _ => none
theorem revArg_of {e a : Expr} (h : revArg e = some a) : ∃ k p1 p2 p3 pos, e = .Subscript a (.Slice none none (some (.UnaryOp .USub (.Constant (.int 1) k p1) p2)) p3) pos := by
  unfold revArg at h
  split at h
  · split at h
    · rename_i z
      cases h
      subst z
      exact ⟨_, _, _, _, _, rfl⟩
    · cases h
  · cases h
def revD (d : D) : M D := fun μ => match d with
  | .str z => if z.length ≤ sizeLine then .ok (.str (revS z)) μ else .stuck
  | d => match asQ μ d with
    | some xs => .ok (.lst xs.reverse) μ
    | none => .stuck
def revE (r : Dn) (G : Ctx) (a : Expr) (ρ : Sl) : M D := do let d ← r.e G a ρ; revD d
theorem PE.or {X : Cx} {e : Expr} {t t' : TE} (h : PE X e t) (h' : PE X e t') : PE X e (fun σ H Q => t σ H Q ∨ t' σ H Q) := ⟨fun pins s σ H Q I q => by
  rcases q with q | q
  · exact h.run pins s σ H Q I q
  · exact h'.run pins s σ H Q I q⟩
section
variable {W : Wd} {Z : WX} {X : Cx} {G : Ctx} {r : Dn}
theorem DenL.rev {m : Mem} : ∀ {ds : List D} {vs : List V}, DenL W m ds vs → DenL W m ds.reverse vs.reverse
  | _, _, .nil => .nil
  | _, _, .cons h t => by
    rw [List.reverse_cons, List.reverse_cons]
    exact (DenL.rev t).append (.cons h .nil)
theorem pe_revE (R : EnOk W r) (ok : EOk W X Z G) (a : Expr) (k : Nat) (p1 p2 p3 pos : Pos) : PE X (.Subscript a (.Slice none none (some (.UnaryOp .USub (.Constant (.int 1) k p1) p2)) p3) pos) (TEof W Z (revE r G a)) := by
  refine PE.weak (PE.or (pe_revS (R.e ok a)) (pe_revL (R.e ok a))) fun σ H Q h => ?_
  obtain ⟨ρ, m, e, g, rr, w⟩ := h
  have w' := wpR_bind w
  cases q : r.e G a ρ m.μ with
  | stuck => rw [q] at w'; exact w'.elim
  | exc x μ' => rw [q] at w'; exact .inl ⟨ρ, m, e, g, rr, by rw [q]; exact w'⟩
  | ok d μ' =>
    rw [q] at w'
    cases d with
    | str z =>
      refine .inl ⟨ρ, m, e, g, rr, ?_⟩
      rw [q]
      intro m1 s1 g1 e2 v hv
      cases den_str hv
      have w1 := w' m1 s1 g1 e2
      unfold revD at w1
      simp only at w1
      by_cases hz : z.length ≤ sizeLine
      · rw [if_pos hz] at w1; exact ⟨z, rfl, hz, w1 m1 (Step.refl m1) g1 rfl _ (.str _)⟩
      · rw [if_neg hz] at w1; exact w1.elim
    | _ =>
      refine .inr ⟨ρ, m, e, g, rr, ?_⟩
      rw [q]
      intro m1 s1 g1 e2 v hv
      have w1 := w' m1 s1 g1 e2
      unfold revD at w1
      simp only at w1
      split at w1
      · rename_i xs e3
        obtain ⟨b, vs, rfl, h1, l⟩ := asQ_den g1 hv e3
        exact ⟨b, vs, rfl, by rw [ok.K]; exact h1, fun p hp => out.lst (E := EWish W Z σ) w1 g1 l.rev hp⟩
      · exact w1.elim
/-! ### sorted(set(e)): of texts, of ints -/
def ssArg : Expr → Option Expr
  | .Call (.Name f _) [.Call (.Name h _) [a] [] _] [] _ => if f = "sorted" ∧ h = "set" then some a else none
  | _ => none
theorem ssArg_of {e a : Expr} (h : ssArg e = some a) : ∃ p p2 pos pos2, e = .Call (.Name "sorted" p) [.Call (.Name "set" p2) [a] [] pos2] [] pos := by
  unfold ssArg at h
  split at h
  · split at h
    · rename_i z
      cases h
      obtain ⟨rfl, rfl⟩ := z
      exact ⟨_, _, _, _, rfl⟩
    · cases h
  · cases h
/-- which of two readings, by the plain outcome of a part -/
def pickE (r : Dn) (G : Ctx) (a : Expr) (p : Sto → D → Bool) (x y : Sl → M D) (ρ : Sl) : M D := fun μ => match r.e G a ρ μ with
  | .ok d μ1 => (if p μ1 d = true then x ρ else y ρ) μ
  | _ => y ρ μ
theorem pe_pick {e a : Expr} {p : Sto → D → Bool} {x y : Sl → M D} (hx : PE X e (TEof W Z x)) (hy : PE X e (TEof W Z y)) : PE X e (TEof W Z (pickE r G a p x y)) := by
  refine PE.weak (PE.or hx hy) fun σ H Q h => ?_
  obtain ⟨ρ, m, e, g, rr, w⟩ := h
  unfold pickE at w
  split at w
  · split at w
    · exact .inl ⟨ρ, m, e, g, rr, w⟩
    · exact .inr ⟨ρ, m, e, g, rr, w⟩
  · exact .inr ⟨ρ, m, e, g, rr, w⟩
def isIntsL (μ : Sto) (d : D) : Bool := match (asQ μ d).bind intsOf with
  | some (_ :: _) => true
  | _ => false
/-! ### o.update(e) -/
def upArg : Expr → Option (Expr × Expr × Bool)
  | .Call (.Attribute o m ap) [e] [] pos => if m = "update" then some (o, e, ap.endLine == pos.line) else none
  | _ => none
theorem upArg_of {e : Expr} {x : Expr × Expr × Bool} (h : upArg e = some x) : ∃ ap pos, e = .Call (.Attribute x.1 "update" ap) [x.2.1] [] pos ∧ x.2.2 = (ap.endLine == pos.line) := by
  unfold upArg at h
  split at h
  · split at h
    · rename_i z
      cases h
      subst z
      exact ⟨_, _, rfl, rfl⟩
    · cases h
  · cases h
def stepE7 (r : Dn) (G : Ctx) (e : Expr) (ρ : Sl) : M D := match revArg e with
  | some a => revE r G a ρ
  | none => match ssArg e with
    | some a => pickE r G a isIntsL (srtIE r G a) (stepE6 r G e) ρ
    | none => match upArg e with
      | some x => updE r G x.1 x.2.1 x.2.2 ρ
      | none => stepE6 r G e ρ
theorem pe_stepE7 (R : EnOk W r) (ok : EOk W X Z G) (e : Expr) : PE X e (TEof W Z (stepE7 r G e)) := by
  unfold stepE7
  cases q1 : revArg e with
  | some a =>
    obtain ⟨k, p1, p2, p3, pos, rfl⟩ := revArg_of q1
    exact pe_revE R ok a k p1 p2 p3 pos
  | none =>
    cases q2 : ssArg e with
    | some a =>
      have h6 := pe_stepE6 R ok e
      obtain ⟨p, p2, pos, pos2, rfl⟩ := ssArg_of q2
      exact pe_pick (pe_srtI R ok a p p2 pos pos2) h6
    | none =>
      cases q3 : upArg e with
      | some x =>
        obtain ⟨ap, pos, rfl, e2⟩ := upArg_of q3
        simp only [e2]
        exact pe_updE R ok _ _ ap pos
      | none => exact pe_stepE6 R ok e
theorem stepE7_name {f : Str} {p pos : Pos} {es : List Expr} {ρ : Sl} (h1 : f ≠ "sorted") (h2 : f ≠ "list") : stepE7 r G (.Call (.Name f p) es [] pos) ρ = stepE5 r G (.Call (.Name f p) es [] pos) ρ := by
  have e1 : ssArg (.Call (.Name f p) es [] pos) = none := by
    unfold ssArg
    split
    · rename_i z
      cases z
      rw [if_neg fun z => h1 z.1]
    · rfl
  have e2 : lrArg (.Call (.Name f p) es [] pos) = none := by
    unfold lrArg
    split
    · rename_i z
      cases z
      rw [if_neg fun z => h2 z.1]
    · rfl
  show (match ssArg (.Call (.Name f p) es [] pos) with
    | some a => pickE r G a isIntsL (srtIE r G a) (stepE6 r G (.Call (.Name f p) es [] pos)) ρ
    | none => stepE6 r G (.Call (.Name f p) es [] pos) ρ) = _
  rw [e1]
  show (match lrArg (.Call (.Name f p) es [] pos) with | some a => rgE r G a ρ | none => stepE5 r G (.Call (.Name f p) es [] pos) ρ) = _
  rw [e2]
theorem stepE7_attr {o : Expr} {m : Str} {ap pos : Pos} {es : List Expr} {ρ : Sl} (h1 : m ≠ "update") : stepE7 r G (.Call (.Attribute o m ap) es [] pos) ρ = stepE5 r G (.Call (.Attribute o m ap) es [] pos) ρ := by
  have e3 : upArg (.Call (.Attribute o m ap) es [] pos) = none := by
    unfold upArg
    split
    · rename_i z
      cases z
      rw [if_neg h1]
    · rfl
  show (match upArg (.Call (.Attribute o m ap) es [] pos) with
    | some x => updE r G x.1 x.2.1 x.2.2 ρ
    | none => stepE6 r G (.Call (.Attribute o m ap) es [] pos) ρ) = _
  rw [e3]
  rfl
end
end Pu

set_option Elab.async false
set_option linter.all false
set_option maxRecDepth 100000
/-! Pu38: [x] * n as a cell. -/
namespace Pu
open PySem L2
def mulC (x y : D) : M D := fun μ => match y with
  | .int k => (match asL μ x with
    | some xs => if k < 2 ^ 63 ∧ -(2 ^ 63) ≤ k ∧ xs.length * k.toNat ≤ sizeLine then .ok (.cell μ.length) (μ ++ [.lst (List.replicate k.toNat xs).flatten]) else .stuck
    | none => .stuck)
  | _ => .stuck
def mulCE (r : Dn) (G : Ctx) (a b : Expr) (ρ : Sl) : M D := do let x ← r.e G a ρ; let y ← r.e G b ρ; mulC x y
section
variable {W : Wd} {Z : WX} {X : Cx} {G : Ctx} {r : Dn}
theorem op_mulC : OpR X (binaryOp .Mult) (R2of W mulC) := by
  intro pins s σ H x y v u Q I rx ry h
  obtain ⟨E, a, b, m, rfl, g, ha, hb, q⟩ := h
  unfold mulC at q
  cases hb with
  | int k =>
    simp only at q
    cases e1 : asL m.μ a with
    | none => rw [e1] at q; exact (show False from q).elim
    | some xs =>
      rw [e1] at q
      simp only at q
      by_cases hz : k < 2 ^ 63 ∧ -(2 ^ 63) ≤ k ∧ xs.length * k.toNat ≤ sizeLine
      · rw [if_pos hz] at q
        obtain ⟨a1, vs, rfl, h1, l1⟩ := asL_den g ha e1
        exact op_rep pins s σ m.H _ _ v u Q I rx ry ⟨a1, k, vs, rfl, rfl, h1, hz.2.1, hz.1, by rw [← l1.length]; exact hz.2.2, fun p hp => q.cel g (l1.flat _) hp⟩
      · rw [if_neg hz] at q; exact (show False from q).elim
  | _ => exact (show False from q).elim
theorem pe_mulCE (R : EnOk W r) (ok : EOk W X Z G) (a b : Expr) (pos : Pos) : PE X (.BinOp a .Mult b pos) (TEof W Z (mulCE r G a b)) :=
  PE.weak (pe_op op_mulC (R.e ok a) (R.e ok b)) fun σ H Q h => te_op h
def mcArg (G : Ctx) : Expr → Option (Expr × Expr)
  | .BinOp a .Mult b pos => if G.hint pos = 1 then some (a, b) else none
  | _ => none
theorem mcArg_of {e : Expr} {x : Expr × Expr} (h : mcArg G e = some x) : ∃ pos, e = .BinOp x.1 .Mult x.2 pos := by
  unfold mcArg at h
  split at h
  · split at h
    · cases h; exact ⟨_, rfl⟩
    · cases h
  · cases h
def stepE8 (r : Dn) (G : Ctx) (e : Expr) (ρ : Sl) : M D := match mcArg G e with
  | some x => mulCE r G x.1 x.2 ρ
  | none => stepE7 r G e ρ
theorem pe_stepE8 (R : EnOk W r) (ok : EOk W X Z G) (e : Expr) : PE X e (TEof W Z (stepE8 r G e)) := by
  unfold stepE8
  cases q : mcArg G e with
  | none => exact pe_stepE7 R ok e
  | some x =>
    obtain ⟨pos, rfl⟩ := mcArg_of q
    exact pe_mulCE R ok _ _ pos
end
end Pu

set_option Elab.async false
set_option linter.all false
set_option maxRecDepth 100000
/-! Pu39: x = {k: v for ..}, x = [e for .. for ..]: a comprehension that is stored at once. -/
namespace Pu
open PySem L2
section
variable {W : Wd} {Z : WX} {X : Cx} {G : Ctx} {r : Dn}
/-- what a statement leaves may be locked -/
theorem ps_lk {st : Stmt} {t : TS} (h : PS X st t) : PS X st (fun D σ H => t { D with nx := fun σ1 H1 => D.nx σ1 H1 ∨ ∃ d u, H1 d = some u ∧ Mut (some u) ∧ ∀ od, D.nx σ1 (upd H1 d (.frz od u)) } σ H) := by
  refine ⟨fun pins s σ H D I q => thn (h.run pins s σ H _ I q) fun fl s1 hq => ?_⟩
  cases fl with
  | next =>
    obtain ⟨σ1, H1, I1, q1⟩ := hq
    rcases q1 with q1 | ⟨d, u, e, mu, q1⟩
    · exact ⟨σ1, H1, I1, q1⟩
    · obtain ⟨od, I2⟩ := I1.lock e mu
      exact ⟨σ1, _, I2, q1 od⟩
  | brk => exact hq
  | cont => exact hq
  | ret u => exact hq
theorem ps_setDc {i : Nat} {y : Str} {py : Pos} {kx vx tg iter : Expr} {ifs : List Expr} {sc : Scope} {own : List (Str × Nat)} {pos spos : Pos} {wi : TI} {g : TG} {tt : TT} {tk tv : TE} (hc : X.calm = true) (nd : X.N.Nodup) (hy : X.N[i]? = some y) (yl : X.env.scope.names.lookup y = some .local)
    (sw : swapsWith (.DictComp kx vx [⟨tg, iter, ifs, 0⟩] sc pos) (some (.Name y py)) spos.line X.env = pure true) (pi : PI X tg iter wi) (bo : BlkOk X.N X.env.scope sc own)
    (pg : InBlk X sc fun B => PG B tg g) (pt : InBlk X sc fun B => PTs B ifs tt) (pk : InBlk X sc fun B => PE B kx tk) (pv : InBlk X sc fun B => PE B vx tv) (fs : ∀ x, foldedSetIterable iter X.env x = pure x) :
    PS X (.Assign [.Name y py] (.DictComp kx vx [⟨tg, iter, ifs, 0⟩] sc pos) spos) (tAsg (tDc wi g tt tk tv (own.map (·.2))) (gName i)) := by
  refine ⟨fun pins s σ H D I q0 => ?_⟩
  rw [exec_Assign_Name_used _ _ _ _ sw]
  refine wpAny_bind (wpAny_standAt (wpAny_bind ?_))
  show wpAny _ X.A (do let _ ← comprehension (.DictComp kx vx [⟨tg, iter, ifs, 0⟩] sc pos) sc X.env (firstIterPos [⟨tg, iter, ifs, 0⟩] pos) newDict false (eval iter X.env) (some (assign (.Name y py) X.env))) _ _ s
  have q0 : tDc wi g tt tk tv (own.map (·.2)) σ H (fun x H1 => gName i x σ H1 D.nx) := q0
  refine wpAny_bind (thn (dc_core (Qf := fun _ s' => SP X pins D .next s') hc nd I pi bo pg pt pk pv fs q0 fun L C s' m H' I' q hn ff => ?_) fun _ s' hq => wpAny_pure (wpAny_pure hq))
  show wpAny _ _ (assign (.Name y py) X.env (.ref L)) _ _ _
  refine wpAny_assign_Name (store_ok2 (v := V.ref L) I' nd hy (.inl yl) rfl (fun s2 I2 ⟨a, sb, ha⟩ => ?_) (.inr yl))
  obtain ⟨u0, u1, u2, u3, u4, u5⟩ := ff
  have ne : C ≠ a := by
    rcases ha with z | z
    · rw [z]; exact u1
    · exact fun e => u4 y a z e.symm
  exact ⟨m, hn.sameBut sb ne, fun h3 sb3 => ⟨_, H', I2.turned (t' := s2.toks) (fun b o hb e => (sb3.2 b hb).trans e) u0 u1 u3 u4 u5, q⟩⟩
theorem ps_dc1D (R : EnOk W r) (ok : EOk W X Z G) {i : Nat} {y : Str} {py spos : Pos} (hy : X.N[i]? = some y) (yl : X.env.scope.names.lookup y = some .local) (kx vx : Expr) (c0 : Comprehension) (sc : Scope) (pos : Pos)
    (sw : swapsWith (.DictComp kx vx [c0] sc pos) (some (.Name y py)) spos.line X.env = pure true) : PS X (.Assign [.Name y py] (.DictComp kx vx [c0] sc pos) spos) (tAsg (TEof W Z (dc1D r G kx vx c0 sc)) (gName i)) := by
  by_cases h0 : comp1Ok G c0 sc
  · obtain ⟨h1, h2, h3, h5, h7⟩ := id h0
    obtain ⟨t0, i0, f0, a0⟩ := c0
    cases (show a0 = 0 from h7)
    have bo : BlkOk X.N X.env.scope sc (ownOf G.N sc) := by rw [ok.N, ok.sc]; exact blkOk_by h2
    refine PS.weak (ps_lk (ps_setDc (own := ownOf G.N sc) (ok.calm h1) ok.nd hy yl sw (pi_D R ok t0 i0) bo (fun s H C cl fp => pg_gD (blk_ok ok s H C cl fp) (ok.calm h1) t0) (fun s H C cl fp => pts_D R (blk_ok ok s H C cl fp) f0)
      (fun s H C cl fp => R.e (blk_ok ok s H C cl fp) kx) (fun s H C cl fp => R.e (blk_ok ok s H C cl fp) vx) (notSet_fold h5 X.env))) fun D σ H h => ?_
    obtain ⟨ρ, m, e, g, rr, w⟩ := (te_if h).2
    refine ⟨ρ, m, e, g, rr, (wpR_bind w).mono (fun _ _ _ _ z => z) fun ds m2 s2 g2 w2 J itm L hL => ?_⟩
    have w3 := noX_okR w2
    have itm2 : Itm W J (m2.opn L (.dK [])) ds := ⟨fun i n u => itm.go i n ((up_opn hL).trans u), fun n u => itm.stop n ((up_opn hL).trans u), fun i n x H' u => itm.yld i n x H' ((up_opn hL).trans u)⟩
    refine loop_read (accK W m2 L) (good_leafD g2 hL) (G := blkG G sc) h3 itm2 (okm_opn g2 hL) (Mk.opn g2 hL) ⟨[], upd_same, .nil⟩ (((rr.mono s2).wipes _).up (up_opn hL)) w3
      fun m' a' g' k' u' ⟨kv, hv1, hv2⟩ w' => .inr ⟨L, .dK kv, hv1, trivial, fun od => dic_end g2 hL k' g' hv2 w'⟩
  · exact PS.weak PS.any fun D σ H h => h0 (te_if h).1
theorem ps_lc2D (R : EnOk W r) (ok : EOk W X Z G) {i : Nat} {y : Str} {py spos : Pos} (hy : X.N[i]? = some y) (yl : X.env.scope.names.lookup y = some .local) (elt : Expr) (c0 c1 : Comprehension) (sc : Scope) (pos : Pos)
    (sw : swapsWith (.ListComp elt [c0, c1] sc pos) (some (.Name y py)) spos.line X.env = pure true) : PS X (.Assign [.Name y py] (.ListComp elt [c0, c1] sc pos) spos) (tAsg (TEof W Z (lc2D r G elt c0 c1 sc pos)) (gName i)) := by
  by_cases h0 : comp2Ok G c0 c1 sc
  · obtain ⟨h1, h2, h3, h4, h5, h6, h7, h8⟩ := id h0
    obtain ⟨t0, i0, f0, a0⟩ := c0
    obtain ⟨t1, i1, f1, a1⟩ := c1
    cases (show a0 = 0 from h7)
    cases (show a1 = 0 from h8)
    have bo : BlkOk X.N X.env.scope sc (ownOf G.N sc) := by rw [ok.N, ok.sc]; exact blkOk_by h2
    refine PS.weak (ps_setLc2 (own := ownOf G.N sc) (vs1 := gslots G t1) (ok.calm h1) ok.nd hy yl sw (pi_D R ok t0 i0) bo h4 (fun s H C cl fp => pg_gD (blk_ok ok s H C cl fp) (ok.calm h1) t0) (fun s H C cl fp => pts_D R (blk_ok ok s H C cl fp) f0)
      (fun s H C cl fp => pi_D R (blk_ok ok s H C cl fp) t1 i1) (fun s H C cl fp => pg_gD (blk_ok ok s H C cl fp) (ok.calm h1) t1) (fun s H C cl fp => pts_D R (blk_ok ok s H C cl fp) f1) (fun s H C cl fp => R.e (blk_ok ok s H C cl fp) elt)
      (notSet_fold h5 X.env) (notSet_fold h6)) fun D σ H h => ?_
    obtain ⟨ρ, m, e, g, rr, w⟩ := (te_if h).2
    refine ⟨ρ, m, e, g, rr, (wpR_bind w).mono (fun _ _ _ _ z => z) fun ds m2 s2 g2 w2 J itm L hL => ?_⟩
    have w3 := noX_okR w2
    have itm2 : Itm W J (m2.opn L (.lst [])) ds := ⟨fun i n u => itm.go i n ((up_opn hL).trans u), fun n u => itm.stop n ((up_opn hL).trans u), fun i n x H' u => itm.yld i n x H' ((up_opn hL).trans u)⟩
    exact loop_read (accL W m2 L) (good_inner (accL W m2 L) (good_leafL g2 hL)) (G := blkG G sc) h3 itm2 (okm_opn g2 hL) (Mk.opn g2 hL) ⟨[], upd_same, .nil⟩ (((rr.mono s2).wipes _).up (up_opn hL)) w3
      fun m' a' g' k' u' ⟨vacc, hv1, hv2⟩ w' => fix_out (E := fun _ _ => True) g2 hL g' k' hv1 hv2 (w'.mono (fun _ _ _ _ _ => trivial) fun _ _ _ _ z => z)
  · exact PS.weak PS.any fun D σ H h => h0 (te_if h).1
theorem swB_dc {kx vx : Expr} {gs : List Comprehension} {sc : Scope} {lp p : Pos} {x : Str} {l : Nat} {env : Env} : ∃ b : Bool, swapsWith (.DictComp kx vx gs sc lp) (some (.Name x p)) l env = pure b ∧ (b = true → env.kindOf x = some .local) := by
  refine ⟨env.blockKind == .function && env.kindOf x == some .local && p.line == lp.line && !(sc.names.any fun (n, k) => n == x && (k == .local || k == .cell)), rfl, fun h => ?_⟩
  simp only [Bool.and_eq_true, beq_iff_eq] at h
  exact h.1.1.2
end
end Pu

set_option Elab.async false
set_option linter.all false
set_option maxRecDepth 100000
/-! Pu12: the den of statements. -/
namespace Pu
open PySem L2

/-- an expression in a statement: what it raises flies from here -/
def withX {α : Type} (ρ : Sl) (x : M α) (k : α → M Fl) : M Fl := fun μ => match x μ with
  | .ok a μ' => k a μ'
  | .exc e μ' => .ok (.exc e ρ) μ'
  | .stuck => .stuck
def isComp : Expr → Bool
  | .ListComp _ _ _ _ => true
  | .SetComp _ _ _ _ => true
  | .DictComp _ _ _ _ _ => true
  | _ => false
def hotG (G : Ctx) : Ctx := { G with hot := true }
def storeN (G : Ctx) (x : Str) (d : D) (ρ : Sl) : M Fl := fun μ => match gN G x d ρ with
  | some ρ' => .ok (.next ρ') μ
  | none => .stuck
def storeT (G : Ctx) (tg : Expr) (d : D) (ρ : Sl) : M Fl := fun μ => match gD G tg d ρ with
  | some ρ' => .ok (.next ρ') μ
  | none => .stuck
def setL (c : Nat) (xs : List D) (i v : D) : M Unit := fun μ => match i with
  | .int k => match ixN xs.length k with
    | some j => .ok () (μ.set c (.lst (xs.set j v)))
    | none => .stuck
  | _ => .stuck
def setK (c : Nat) (kvs : List (Key × D)) (i v : D) : M Unit := fun μ => match keyOf i with
  | some k => if kvs.length < sizeLine then .ok () (μ.set c (.dic (putD kvs k v))) else .stuck
  | none => .stuck
def setD (o i v : D) : M Unit := fun μ => match o with
  | .cell c => match μ[c]? with
    | some (.lst xs) => setL c xs i v μ
    | some (.dic kvs) => setK c kvs i v μ
    | _ => .stuck
  | _ => .stuck
/-- o[a, b] = v, the keys tuples -/
def keysOf : List D → Option (List Key)
  | [] => some []
  | d :: ds => match keyOf d, keysOf ds with
    | some k, some ks => some (k :: ks)
    | _, _ => none
def putT (kvs : List (List Key × D)) (k : List Key) (v : D) : List (List Key × D) :=
  if (kvs.any fun kv => decide (kv.1 = k)) = true then kvs.map (fun kv => if kv.1 = k then (kv.1, v) else kv) else kvs ++ [(k, v)]
def setT (o : D) (ds : List D) (v : D) : M Unit := fun μ => match o with
  | .cell c => match μ[c]? with
    | some (.dt kvs) => (match keysOf ds with
      | some ks => if kvs.length < sizeLine ∧ ds.length ≤ sizeLine then .ok () (μ.set c (.dt (putT kvs ks v))) else .stuck
      | none => .stuck)
    | _ => .stuck
  | _ => .stuck
def putFD (f : Str) (v : D) : List (Str × D) → List (Str × D)
  | [] => [(f, v)]
  | (k, u) :: r => if k = f then (k, v) :: r else (k, u) :: putFD f v r
def fldD (G : Ctx) (f : Str) (x v : D) : M Unit := fun μ => match x with
  | .cell c => match μ[c]? with
    | some (.obj C fs) => if G.fld C f = true ∧ fs.length < 1000 then .ok () (μ.set c (.obj C (putFD f v fs))) else .stuck
    | _ => .stuck
  | _ => .stuck
/-- which way (a, b) = (e, f) goes: 0 by a tuple, 1 by swapped stores, 2 none -/
def swNames (sc : Scope) (line : Nat) (ts : List Expr) : List Str := ts.filterMap fun
  | .Name id pos => if sc.names.lookup id == some .local && pos.line == line then some id else none
  | _ => none
def swKind (sc : Scope) (ts vs : List Expr) : Nat :=
  if (!(ts.length == 2 || ts.length == 3) || vs.length != ts.length || sc.kind != .function) = true then 0
  else if (vs.any fun | .Starred .. => true | _ => false) = true then 0
  else if ((swNames sc ((ts.head?.map (·.pos.line)).getD 0) ts).length != ts.length || (swNames sc ((ts.head?.map (·.pos.line)).getD 0) ts).eraseDups.length != (swNames sc ((ts.head?.map (·.pos.line)).getD 0) ts).length) = true then 0
  else if vs.all (foldedForSure 8) = true then 0
  else if vs.all (constantsAlone 8) = true then 2 else 1
/-- a, b = e, f: both stored at once -/
def store2 (G : Ctx) (x y : Str) (ds : List D) (ρ : Sl) : M Fl := fun μ => match ds with
  | [d1, d2] => match (gN G x d1 ρ).bind fun ρ1 => gN G y d2 ρ1 with
    | some ρ' => .ok (.next ρ') μ
    | none => .stuck
  | _ => .stuck
def store3 (G : Ctx) (x y z : Str) (ds : List D) (ρ : Sl) : M Fl := fun μ => match ds with
  | [d1, d2, d3] => match (gN G x d1 ρ).bind fun ρ1 => (gN G y d2 ρ1).bind fun ρ2 => gN G z d3 ρ2 with
    | some ρ' => .ok (.next ρ') μ
    | none => .stuck
  | _ => .stuck
def canN (G : Ctx) (x : Str) : Bool := (G.ix x).isSome && (G.sc.names.lookup x == some .local || (G.sc.names.lookup x == some .cell && G.own x))
def swapD (r : Dn) (G : Ctx) (ts vs : List Expr) (ρ : Sl) : M Fl := match ts, vs with
  | [.Name x _, .Name y _], [a, b] => if G.N.idxOf x ≠ G.N.idxOf y ∧ G.sc.names.lookup x = some .local ∧ G.sc.names.lookup y = some .local ∧ noStar [a, b] = true ∧ canN G x = true ∧ canN G y = true ∧ swNames G.sc ((ts.head?.map (·.pos.line)).getD 0) ts = [x, y] then withX ρ (aD r G [a, b] ρ) (fun ds => store2 G x y ds ρ) else stuck
  | [.Name x _, .Name y _, .Name z _], [a, b, c] => if (G.N.idxOf x ≠ G.N.idxOf y ∧ G.N.idxOf x ≠ G.N.idxOf z ∧ G.N.idxOf y ≠ G.N.idxOf z) ∧ (G.sc.names.lookup x = some .local ∧ G.sc.names.lookup y = some .local ∧ G.sc.names.lookup z = some .local) ∧ noStar [a, b, c] = true ∧ (canN G x = true ∧ canN G y = true ∧ canN G z = true) ∧ swNames G.sc ((ts.head?.map (·.pos.line)).getD 0) ts = [x, y, z] then withX ρ (aD r G [a, b, c] ρ) (fun ds => store3 G x y z ds ρ) else stuck
  | _, _ => stuck
/-- a comprehension's value, stored at once -/
def lcX (r : Dn) (G : Ctx) (elt : Expr) (gs : List Comprehension) (sc : Scope) (pos : Pos) (ρ : Sl) : M D := match gs with
  | [c0, c1] => lc2D r G elt c0 c1 sc pos ρ
  | gs => lcE r G elt gs sc pos ρ
def dcX (r : Dn) (G : Ctx) (kx vx : Expr) (gs : List Comprehension) (sc : Scope) (ρ : Sl) : M D := match gs with
  | [c0] => dc1D r G kx vx c0 sc ρ
  | _ => stuck
def asgN1 (r : Dn) (G : Ctx) (x : Str) (e : Expr) (ρ : Sl) : M Fl := match e with
  | .ListComp elt gs sc pos => withX ρ (lcX r G elt gs sc pos ρ) (fun d => storeN G x d ρ)
  | .SetComp _ _ _ _ => stuck
  | .DictComp kx vx gs sc _ => withX ρ (dcX r G kx vx gs sc ρ) (fun d => storeN G x d ρ)
  | e => withX ρ (r.e G e ρ) (fun d => storeN G x d ρ)
def asgN (r : Dn) (G : Ctx) (x : Str) (e : Expr) (ρ : Sl) : M Fl := if canN G x = true then asgN1 r G x e ρ else stuck
def asgT (r : Dn) (G : Ctx) (tg : Expr) (ts : List Expr) (e : Expr) (ρ : Sl) : M Fl := match e with
  | .Tuple vs _ _ => if swKind G.sc ts vs = 0 then withX ρ (r.e G e ρ) (fun d => storeT G tg d ρ) else if swKind G.sc ts vs = 1 then swapD r G ts vs ρ else stuck
  | .ListComp _ _ _ _ => stuck
  | .SetComp _ _ _ _ => stuck
  | .DictComp _ _ _ _ _ => stuck
  | e => withX ρ (r.e G e ρ) (fun d => storeT G tg d ρ)
def asgD (r : Dn) (G : Ctx) (tg e : Expr) (ρ : Sl) : M Fl := match tg with
  | .Name x _ => asgN r G x e ρ
  | .Tuple ts k p => if G.hot = false then asgT r G (.Tuple ts k p) ts e ρ else stuck
  | .Attribute o f _ => if isComp e = false then withX ρ (do let v ← r.e G e ρ; let x ← r.e G o ρ; fldD G f x v) (fun _ => yes (.next ρ)) else stuck
  | .Subscript o (.Tuple es _ _) _ => if isComp e = false ∧ noStar es = true then withX ρ (do let v ← r.e G e ρ; let x ← r.e G o ρ; let ds ← aD r G es ρ; setT x ds v) (fun _ => yes (.next ρ)) else stuck
  | .Subscript o i _ => if isComp e = false ∧ isSlice i = false then withX ρ (do let v ← r.e G e ρ; let x ← r.e G o ρ; let k ← r.e G i ρ; setD x k v) (fun _ => yes (.next ρ)) else stuck
  | _ => stuck
def loopD (G : Ctx) (tg : Expr) (body : Sl → M Fl) : List D → Sl → M Fl
  | [], ρ => yes (.next ρ)
  | d :: ds, ρ => match gD G tg d ρ with
    | none => stuck
    | some ρ1 => do
      let fl ← body ρ1
      match fl with
      | .next ρ' => loopD G tg body ds ρ'
      | .cont ρ' => loopD G tg body ds ρ'
      | .brk ρ' => yes (.next ρ')
      | .ret d => yes (.ret d)
      | .exc e ρ' => yes (.exc e ρ')
def forD (r : Dn) (G : Ctx) (tg iter : Expr) (body : List Stmt) (ρ : Sl) : M Fl :=
  if G.hot = false ∧ notSet iter = true then withX ρ (iD r G tg iter ρ) (fun ds => loopD G tg (r.s G body) ds ρ) else stuck
def whD (r : Dn) (G : Ctx) (c : Expr) (body : List Stmt) : Nat → Sl → M Fl
  | 0, _ => stuck
  | n + 1, ρ => withX ρ (r.t G c ρ) (fun k => match k with
    | false => yes (.next ρ)
    | true => do
      let fl ← r.s G body ρ
      match fl with
      | .next ρ' => whD r G c body n ρ'
      | .cont ρ' => whD r G c body n ρ'
      | .brk ρ' => yes (.next ρ')
      | .ret d => yes (.ret d)
      | .exc e ρ' => yes (.exc e ρ'))
/-- x[i] += e, x += e: numbers -/
def getC (x k : D) : M D := fun μ => match x, k with
  | .cell c, .int j => (match μ[c]? with
    | some (.lst xs) => (if 0 ≤ j ∧ j < 2 ^ 62 then (match xs[j.toNat]? with
      | some z => .ok z μ
      | none => .stuck) else .stuck)
    | _ => .stuck)
  | _, _ => .stuck
def addI (a b : D) : M D := fun μ => match a, b with
  | .int i, .int j => .ok (.int (i + j)) μ
  | _, _ => .stuck
def augD (r : Dn) (G : Ctx) (tg : Expr) (op : Operator) (e : Expr) (ρ : Sl) : M Fl := match tg, op with
  | .Subscript o i _, .Add => if isSlice i = false then withX ρ (do let x ← r.e G o ρ; let k ← r.e G i ρ; let a ← getC x k; let v ← r.e G e ρ; let b ← addI a v; setD x k b) (fun _ => yes (.next ρ)) else stuck
  | .Name x _, .Add => if canN G x = true then withX ρ (do let a ← slot (G.N.idxOf x) ρ; let v ← r.e G e ρ; addI a v) (fun d => storeN G x d ρ) else stuck
  | _, _ => stuck
def raiseD (G : Ctx) (e : Option Expr) (ρ : Sl) : M Fl := match e with
  | some (.Call (.Name x _) [.Constant (.str _) _ _] [] _) => if G.xc x = true ∧ G.hot = false ∧ okName x = true ∧ glB G.sc x = true then yes (.exc ⟨x, []⟩ ρ) else stuck
  | _ => stuck
def noF (x : M Fl) : M Fl := fun μ => match x μ with
  | .ok (.exc _ _) _ => .stuck
  | r => r
def catchD (x : M Fl) (k : Ex → Sl → M Fl) : M Fl := fun μ => match x μ with
  | .ok (.exc e ρ') μ' => k e ρ' μ'
  | r => r
def catK (r : Dn) (G : Ctx) (c : Str) (suite : List Stmt) (e : Ex) (ρ : Sl) : M Fl := match G.cat c e.cls with
  | some true => noF (r.s (hotG G) suite ρ)
  | some false => yes (.exc e ρ)
  | none => stuck
def tryD (r : Dn) (G : Ctx) (body : List Stmt) (hs : List ExceptHandler) (ρ : Sl) : M Fl := match hs with
  | [.ExceptHandler (some (.Name c _)) none (b0 :: suite) _] => if okName c = true ∧ glB G.sc c = true ∧ G.hot = false ∧ (G.cat c c).isSome = true then catchD (r.s G body ρ) (catK r G c (b0 :: suite)) else stuck
  | _ => stuck
def stmD (r : Dn) (G : Ctx) (st : Stmt) (ρ : Sl) : M Fl := match st with
  | .Pass _ => yes (.next ρ)
  | .Break _ => yes (.brk ρ)
  | .Continue _ => yes (.cont ρ)
  | .Expr e _ => if isComp e = false then withX ρ (r.e G e ρ) (fun _ => yes (.next ρ)) else stuck
  | .Return (some e) _ => withX ρ (r.e G e ρ) (fun d => yes (.ret d))
  | .Return none _ => yes (.ret .non)
  | .If c a b _ => withX ρ (r.t G c ρ) (fun k => match k with
    | true => r.s G a ρ
    | false => r.s G b ρ)
  | .Assign [tg] e _ => asgD r G tg e ρ
  | .AugAssign tg op e _ => augD r G tg op e ρ
  | .For tg iter body [] _ => forD r G tg iter body ρ
  | .While c body [] _ => whD r G c body 1000000 ρ
  | .Raise e none _ => raiseD G e ρ
  | .Try body hs [] [] _ => tryD r G body hs ρ
  | _ => stuck
def sD (r : Dn) (G : Ctx) : List Stmt → Sl → M Fl
  | [], ρ => yes (.next ρ)
  | st :: rest, ρ => do
    let fl ← stmD r G st ρ
    match fl with
    | .next ρ' => sD r G rest ρ'
    | .brk ρ' => yes (.brk ρ')
    | .cont ρ' => yes (.cont ρ')
    | .ret d => yes (.ret d)
    | .exc e ρ' => yes (.exc e ρ')
def stepD (r : Dn) : Dn := { e := stepE8 r, t := stepT r, s := sD r }
def den : Nat → Dn
  | 0 => { e := fun _ _ _ => stuck, t := fun _ _ _ => stuck, s := fun _ _ _ => stuck }
  | n + 1 => stepD (den n)

structure DnOk (W : Wd) (r : Dn) : Prop where
  en : EnOk W r
  s : ∀ {X : Cx} {Z : WX} {G : Ctx}, SOk W X Z G → ∀ ss : List Stmt, PSs X ss (TSof W Z (r.s G ss))

section
variable {W : Wd} {Z : WX} {X : Cx} {G : Ctx} {σ : St} {H : Hp} {D : Ends} {r : Dn}
theorem ts_none {f : Sl → M Fl} (e : ∀ ρ, f ρ = stuck) : ∀ {D σ H}, TSof W Z f D σ H → False := fun ⟨ρ, m, _, _, _, w⟩ => by rw [e] at w; exact w
theorem ts_if {c : Prop} [Decidable c] {f : Sl → M Fl} (h : TSof W Z (fun ρ => if c then f ρ else stuck) D σ H) : c ∧ TSof W Z f D σ H := by
  obtain ⟨ρ, m, e, g, rr, w⟩ := h
  by_cases hc : c
  · refine ⟨hc, ρ, m, e, g, rr, ?_⟩
    simp only [hc, ↓reduceIte] at w
    exact w
  · simp only [hc, ↓reduceIte] at w
    exact (show False from w).elim
theorem withX_wp {α : Type} {m : Mem} {ρ : Sl} {x : M α} {k : α → M Fl} (rr : EnvOk W m ρ σ) (w : wpR W m (fun _ _ => False) (FlOk W Z D) (withX ρ x k m.μ)) :
    wpR W m (EWish W Z σ) (fun a m1 => wpR W m1 (fun _ _ => False) (FlOk W Z D) (k a m1.μ)) (x m.μ) := by
  unfold withX at w
  cases q : x m.μ with
  | stuck => rw [q] at w; exact w
  | exc e μ' =>
    rw [q] at w
    intro m1 s1 g1 e1 cls dx hx
    exact w m1 s1 g1 e1 σ cls dx (rr.mono s1) hx
  | ok a μ' =>
    rw [q] at w
    intro m1 s1 g1 e1
    rw [e1]
    exact w.behind s1
theorem ok_fl {m : Mem} {fl : Fl} (g : Okm W m) (w : wpR W m (fun _ _ => False) (FlOk W Z D) (.ok fl m.μ)) : FlOk W Z D fl m := w m (Step.refl m) g rfl
theorem noswap {e : Expr} (h : isComp e = false) (tg : Option Expr) (l : Nat) (env : Env) : swapsWith e tg l env = pure false := by
  unfold swapsWith
  cases e <;> first | rfl | cases h
theorem ps_expD (R : EnOk W r) (ok : EOk W X Z G) (e : Expr) (pos : Pos) : PS X (.Expr e pos) (TSof W Z (stmD r G (.Expr e pos))) := by
  by_cases hc : isComp e = false
  · refine PS.weak (ps_expr (R.e ok e) (noswap hc none _ _)) fun D σ H h => ?_
    obtain ⟨ρ, m, ee, g, rr, w⟩ := (ts_if h).2
    exact ⟨ρ, m, ee, g, rr, (withX_wp rr w).mono (fun _ _ _ _ z => z) fun d m1 s1 g1 w1 v hv => ok_fl g1 w1 σ (rr.mono s1)⟩
  · exact PS.weak PS.any fun D σ H h => hc (ts_if h).1
theorem ps_retD (R : EnOk W r) (ok : EOk W X Z G) (e : Expr) (pos : Pos) : PS X (.Return (some e) pos) (TSof W Z (stmD r G (.Return (some e) pos))) := by
  refine PS.weak (ps_ret (R.e ok e)) fun D σ H h => ?_
  obtain ⟨ρ, m, ee, g, rr, w⟩ := h
  exact ⟨ρ, m, ee, g, rr, (withX_wp rr w).mono (fun _ _ _ _ z => z) fun d m1 s1 g1 w1 v hv => ok_fl g1 w1 v hv⟩
theorem ps_ifD (R : DnOk W r) (ok : SOk W X Z G) (c : Expr) (a b : List Stmt) (pos : Pos) : PS X (.If c a b pos) (TSof W Z (stmD r G (.If c a b pos))) := by
  refine PS.weak (ps_if (R.en.t ok.e c) (R.s ok a) (R.s ok b)) fun D σ H h => ?_
  obtain ⟨ρ, m, ee, g, rr, w⟩ := h
  refine ⟨ρ, m, ee, g, rr, (withX_wp rr w).mono (fun _ _ _ _ z => z) fun k m1 s1 g1 w1 => ?_⟩
  cases k with
  | true => show (if true = true then _ else _); rw [if_pos rfl]; exact ⟨ρ, m1, rfl, g1, rr.mono s1, w1⟩
  | false => show (if false = true then _ else _); rw [if_neg Bool.false_ne_true]; exact ⟨ρ, m1, rfl, g1, rr.mono s1, w1⟩
/-! ### stores -/
theorem storeN_out {m : Mem} {x : Str} {d : Pu.D} {v : V} {ρ : Sl} {i : Nat} (hi : G.ix x = some i) (g : Okm W m) (rr : EnvOk W m ρ σ) (hv : Den W m d v) (w : wpR W m (fun _ _ => False) (FlOk W Z D) (storeN G x d ρ m.μ)) : D.nx (σ.set i (some v)) m.H := by
  unfold storeN at w
  cases q : gN G x d ρ with
  | none => rw [q] at w; exact w.elim
  | some ρ' =>
    rw [q] at w
    obtain ⟨j, e1, e2, _, e4⟩ := gN_ix q
    rw [hi] at e1; cases e1
    subst e4
    exact ok_fl g w _ (rr.set i hv)
theorem swB_lc {elt : Expr} {gs : List Comprehension} {sc : Scope} {lp p : Pos} {x : Str} {l : Nat} {env : Env} : ∃ b : Bool, swapsWith (.ListComp elt gs sc lp) (some (.Name x p)) l env = pure b ∧ (b = true → env.kindOf x = some .local) := by
  refine ⟨env.blockKind == .function && env.kindOf x == some .local && p.line == lp.line && !(sc.names.any fun (n, k) => n == x && (k == .local || k == .cell)), rfl, fun h => ?_⟩
  simp only [Bool.and_eq_true, beq_iff_eq] at h
  exact h.1.1.2
theorem ps_asgN (R : EnOk W r) (ok : EOk W X Z G) (x : Str) (p : Pos) (e : Expr) (pos : Pos) : PS X (.Assign [.Name x p] e pos) (TSof W Z (asgN r G x e)) := by
  by_cases hz : canN G x = true
  · refine PS.weak (?_ : PS X (.Assign [.Name x p] e pos) (TSof W Z (asgN1 r G x e))) fun D σ H h => (ts_if h).2
    obtain ⟨i, h1, h2⟩ : ∃ i, G.ix x = some i ∧ (G.sc.names.lookup x = some .local ∨ (G.sc.names.lookup x = some .cell ∧ G.own x = true)) := by
      unfold canN at hz
      simp only [Bool.and_eq_true, Bool.or_eq_true, beq_iff_eq, Option.isSome_iff_exists] at hz
      obtain ⟨⟨i, z1⟩, z2⟩ := hz
      exact ⟨i, z1, z2⟩
    rw [← ok.sc] at h2
    have h2' : Loc X.env.scope x := h2.elim .inl fun z => .inr z.1
    have hf : X.fn x = true ∨ X.env.scope.names.lookup x = some .local := by
      rcases h2 with z | z
      · exact .inr z
      · exact .inl (by rw [ok.own]; exact z.2)
    have hN : X.N[i]? = some x := by rw [ok.N]; exact Ctx.ix_at h1
    have fin : ∀ {f : Sl → M Pu.D} {D σ H}, TSof W Z (fun ρ => withX ρ (f ρ) (fun d => storeN G x d ρ)) D σ H → tAsg (TEof W Z f) (gName i) D σ H := by
      rintro f D σ H ⟨ρ, m, ee, g, rr, w⟩
      exact ⟨ρ, m, ee, g, rr, (withX_wp rr w).mono (fun _ _ _ _ z => z) fun d m1 s1 g1 w1 v hv => storeN_out h1 g1 (rr.mono s1) hv w1⟩
    cases e with
    | ListComp elt gs sc lp =>
      obtain ⟨b, hb, hb2⟩ := swB_lc (elt := elt) (gs := gs) (sc := sc) (lp := lp) (p := p) (x := x) (l := pos.line) (env := X.env)
      match gs, hb with
      | [], hb => exact PS.weak PS.any fun D σ H h => te_none (f := fun _ => stuck) (fun _ => rfl) (fin h)
      | _ :: _ :: _ :: _, hb => exact PS.weak PS.any fun D σ H h => te_none (f := fun _ => stuck) (fun _ => rfl) (fin h)
      | [c0, c1], hb =>
        cases b with
        | false => exact PS.weak (ps_set ok.nd hN h2' (pe_lc2D R ok elt c0 c1 sc lp) hb hf) fun D σ H h => fin h
        | true => exact PS.weak (ps_lc2D R ok hN (hb2 rfl) elt c0 c1 sc lp hb) fun D σ H h => fin h
      | [⟨tg, iter, ifs, k⟩], hb =>
        cases b with
        | false => exact PS.weak (ps_set ok.nd hN h2' (pe_lcE R ok elt _ sc lp) hb hf) fun D σ H h => fin h
        | true =>
          have hl : X.env.scope.names.lookup x = some .local := hb2 rfl
          by_cases hk : k = 0
          · subst hk
            exact PS.weak (ps_compD R (fun ok tg iter => pi_D R ok tg iter) ok hN hl hb) fun D σ H h => fin h
          · exact PS.weak PS.any fun D σ H h => hk (te_if (fin h)).1
    | SetComp _ _ _ _ => exact PS.weak PS.any fun D σ H h => ts_none (f := fun _ => stuck) (fun _ => rfl) h
    | DictComp kx vx gs sc lp =>
      obtain ⟨b, hb, hb2⟩ := swB_dc (kx := kx) (vx := vx) (gs := gs) (sc := sc) (lp := lp) (p := p) (x := x) (l := pos.line) (env := X.env)
      match gs, hb with
      | [], hb => exact PS.weak PS.any fun D σ H h => te_none (f := fun _ => stuck) (fun _ => rfl) (fin h)
      | _ :: _ :: _, hb => exact PS.weak PS.any fun D σ H h => te_none (f := fun _ => stuck) (fun _ => rfl) (fin h)
      | [c0], hb =>
        cases b with
        | false => exact PS.weak (ps_set ok.nd hN h2' (pe_dc1D R ok kx vx c0 sc lp) hb hf) fun D σ H h => fin h
        | true => exact PS.weak (ps_dc1D R ok hN (hb2 rfl) kx vx c0 sc lp hb) fun D σ H h => fin h
    | _ => exact PS.weak (ps_set ok.nd hN h2' (R.e ok _) (noswap rfl _ _ _) hf) fun D σ H h => fin h
  · exact PS.weak PS.any fun D σ H h => hz (ts_if h).1
theorem storeT_out {m : Mem} {tg : Expr} {d : Pu.D} {v : V} {ρ : Sl} (g : Okm W m) (rr : EnvOk W m ρ σ) (hv : Den W m d v) (w : wpR W m (fun _ _ => False) (FlOk W Z D) (storeT G tg d ρ m.μ)) : TGp W (gslots G tg) (gD G tg) v σ m.H D.nx := by
  unfold storeT at w
  cases q : gD G tg d ρ with
  | none => rw [q] at w; exact w.elim
  | some ρ' =>
    rw [q] at w
    exact ⟨ρ, m, d, ρ', rfl, g, rr, hv, q, fun σ' r' _ => ok_fl g w σ' r'⟩
theorem swap_kind {sc : Scope} {env : Env} (he : env.scope = sc) (hk : sc.kind = .function) (ts vs : List Expr) (k k2 : Nat) (p p2 : Pos) :
    (swKind sc ts vs = 0 → swappedStores [.Tuple ts k p] (.Tuple vs k2 p2) env = pure none) ∧ (swKind sc ts vs = 1 → swappedStores [.Tuple ts k p] (.Tuple vs k2 p2) env = pure (some (swNames sc ((ts.head?.map (·.pos.line)).getD 0) ts))) := by
  have hb : env.blockKind = .function := by
    unfold Env.blockKind
    rw [he, hk]
    rfl
  subst he
  have key : swappedStores [.Tuple ts k p] (.Tuple vs k2 p2) env = (if (!(ts.length == 2 || ts.length == 3) || vs.length != ts.length || env.blockKind != .function) = true then pure none
    else if (vs.any fun | .Starred .. => true | _ => false) = true then pure none
    else if ((swNames env.scope ((ts.head?.map (·.pos.line)).getD 0) ts).length != ts.length || (swNames env.scope ((ts.head?.map (·.pos.line)).getD 0) ts).eraseDups.length != (swNames env.scope ((ts.head?.map (·.pos.line)).getD 0) ts).length) = true then pure none
    else if vs.all (foldedForSure 8) = true then pure none
    else if vs.all (constantsAlone 8) = true then (do unsupported "assign.tuple-of-constant-expressions:order-of-the-stores"; pure (some (swNames env.scope ((ts.head?.map (·.pos.line)).getD 0) ts))) else pure (some (swNames env.scope ((ts.head?.map (·.pos.line)).getD 0) ts))) := rfl
  rw [key, hb]
  unfold swKind
  rw [hk]
  generalize swNames env.scope ((ts.head?.map (·.pos.line)).getD 0) ts = names
  constructor
  · intro h
    split at h
    · rename_i c; rw [if_pos c]
    · rename_i c
      rw [if_neg c]
      split at h
      · rename_i c; rw [if_pos c]
      · rename_i c
        rw [if_neg c]
        split at h
        · rename_i c; rw [if_pos c]
        · rename_i c
          rw [if_neg c]
          split at h
          · rename_i c; rw [if_pos c]
          · split at h <;> cases h
  · intro h
    split at h
    · cases h
    · rename_i c
      rw [if_neg c]
      split at h
      · cases h
      · rename_i c
        rw [if_neg c]
        split at h
        · cases h
        · rename_i c
          rw [if_neg c]
          split at h
          · cases h
          · rename_i c
            rw [if_neg c]
            split at h
            · cases h
            · rename_i c
              rw [if_neg c]
theorem canN_ix {x : Str} (hz : canN G x = true) : ∃ i, G.ix x = some i ∧ i = G.N.idxOf x ∧ (G.sc.names.lookup x = some .local ∨ (G.sc.names.lookup x = some .cell ∧ G.own x = true)) := by
  unfold canN at hz
  simp only [Bool.and_eq_true, Bool.or_eq_true, beq_iff_eq, Option.isSome_iff_exists] at hz
  obtain ⟨⟨i, z1⟩, z2⟩ := hz
  refine ⟨i, z1, ?_, z2⟩
  unfold Ctx.ix at z1
  split at z1
  · exact (Option.some.inj z1).symm
  · cases z1
theorem ps_swapD (R : EnOk W r) (ok : SOk W X Z G) (h4 : G.hot = false) (ts vs : List Expr) (k k2 : Nat) (p p2 pos : Pos) (hk : swKind G.sc ts vs = 1) : PS X (.Assign [.Tuple ts k p] (.Tuple vs k2 p2) pos) (TSof W Z (swapD r G ts vs)) := by
  have none_of : (∀ ρ, swapD r G ts vs ρ = stuck) → PS X (.Assign [.Tuple ts k p] (.Tuple vs k2 p2) pos) (TSof W Z (swapD r G ts vs)) := fun z => PS.weak PS.any fun D σ H h => ts_none z h
  by_cases hm : ∃ x px y py a b, ts = [.Name x px, .Name y py] ∧ vs = [a, b]
  · obtain ⟨x, px, y, py, a, b, rfl, rfl⟩ := hm
    by_cases hz : G.N.idxOf x ≠ G.N.idxOf y ∧ G.sc.names.lookup x = some .local ∧ G.sc.names.lookup y = some .local ∧ noStar [a, b] = true ∧ canN G x = true ∧ canN G y = true ∧ swNames G.sc (([Expr.Name x px, .Name y py].head?.map (·.pos.line)).getD 0) [.Name x px, .Name y py] = [x, y]
    · refine PS.weak (?_ : PS X _ (TSof W Z fun ρ => withX ρ (aD r G [a, b] ρ) (fun ds => store2 G x y ds ρ))) fun D σ H h => (ts_if h).2
      obtain ⟨hne, hx, hy, hs, c1, c2, hnames⟩ := hz
      obtain ⟨i, q1, e1, _⟩ := canN_ix c1
      obtain ⟨j, q2, e2, _⟩ := canN_ix c2
      have hw := (swap_kind (env := X.env) ok.e.sc ok.kind [.Name x px, .Name y py] [a, b] k k2 p p2).2 hk
      rw [hnames] at hw
      refine PS.weak (ps_par (ok.e.calm h4) ok.e.nd (by rw [ok.e.N]; exact Ctx.ix_at q1) (by rw [ok.e.N]; exact Ctx.ix_at q2) (by rw [e1, e2]; exact hne) (by rw [ok.e.sc]; exact hx) (by rw [ok.e.sc]; exact hy) (pa_D R ok.e hs) hw rfl) fun D σ H h => ?_
      obtain ⟨ρ, m, ee, g, rr, w⟩ := h
      refine ⟨ρ, m, ee, g, rr, (withX_wp rr w).mono (fun _ _ _ _ z => z) fun ds m1 s1 g1 w1 vs hvs => ?_⟩
      unfold store2 at w1
      split at w1
      · rename_i d1 d2
        obtain ⟨v1, v2, rfl, h1, h2⟩ := dl2 hvs
        refine ⟨v1, v2, rfl, ?_⟩
        split at w1
        · rename_i ρ' e3
          cases q3 : gN G x d1 ρ with
          | none => rw [q3] at e3; cases e3
          | some ρ1 =>
            rw [q3] at e3
            obtain ⟨i', f1, _, _, f4⟩ := gN_ix q3
            obtain ⟨j', f5, _, _, f8⟩ := gN_ix (show gN G y d2 ρ1 = some ρ' from e3)
            rw [q1] at f1; cases f1
            rw [q2] at f5; cases f5
            subst f8 f4
            exact ok_fl g1 w1 _ (((rr.mono s1).set i h1).set j h2)
        · exact w1.elim
      · exact w1.elim
    · exact PS.weak PS.any fun D σ H h => hz (ts_if h).1
  · by_cases hm3 : ∃ x px y py z pz a b c, ts = [.Name x px, .Name y py, .Name z pz] ∧ vs = [a, b, c]
    · obtain ⟨x, px, y, py, z, pz, a, b, c, rfl, rfl⟩ := hm3
      by_cases hz : (G.N.idxOf x ≠ G.N.idxOf y ∧ G.N.idxOf x ≠ G.N.idxOf z ∧ G.N.idxOf y ≠ G.N.idxOf z) ∧ (G.sc.names.lookup x = some .local ∧ G.sc.names.lookup y = some .local ∧ G.sc.names.lookup z = some .local) ∧ noStar [a, b, c] = true ∧ (canN G x = true ∧ canN G y = true ∧ canN G z = true) ∧ swNames G.sc (([Expr.Name x px, .Name y py, .Name z pz].head?.map (·.pos.line)).getD 0) [.Name x px, .Name y py, .Name z pz] = [x, y, z]
      · refine PS.weak (?_ : PS X _ (TSof W Z fun ρ => withX ρ (aD r G [a, b, c] ρ) (fun ds => store3 G x y z ds ρ))) fun D σ H h => (ts_if h).2
        obtain ⟨⟨n1, n2, n3⟩, ⟨hx, hy, hz'⟩, hs, ⟨c1, c2, c3⟩, hnames⟩ := hz
        obtain ⟨i, q1, e1, _⟩ := canN_ix c1
        obtain ⟨j, q2, e2, _⟩ := canN_ix c2
        obtain ⟨l, q3, e3, _⟩ := canN_ix c3
        have hw := (swap_kind (env := X.env) ok.e.sc ok.kind [.Name x px, .Name y py, .Name z pz] [a, b, c] k k2 p p2).2 hk
        rw [hnames] at hw
        refine PS.weak (ps_par3 (ok.e.calm h4) ok.e.nd (by rw [ok.e.N]; exact Ctx.ix_at q1) (by rw [ok.e.N]; exact Ctx.ix_at q2) (by rw [ok.e.N]; exact Ctx.ix_at q3) (by rw [e1, e2]; exact n1) (by rw [e1, e3]; exact n2) (by rw [e2, e3]; exact n3) (by rw [ok.e.sc]; exact hx) (by rw [ok.e.sc]; exact hy) (by rw [ok.e.sc]; exact hz') (pa_D R ok.e hs) hw rfl) fun D σ H h => ?_
        obtain ⟨ρ, m, ee, g, rr, w⟩ := h
        refine ⟨ρ, m, ee, g, rr, (withX_wp rr w).mono (fun _ _ _ _ z => z) fun ds m1 s1 g1 w1 vs hvs => ?_⟩
        unfold store3 at w1
        split at w1
        · rename_i d1 d2 d3
          obtain ⟨v1, vr, rfl, h1, hr⟩ : ∃ v vr, vs = v :: vr ∧ Den W m1 d1 v ∧ DenL W m1 [d2, d3] vr := by cases hvs with | cons p q => exact ⟨_, _, rfl, p, q⟩
          obtain ⟨v2, v3, rfl, h2, h3⟩ := dl2 hr
          refine ⟨v1, v2, v3, rfl, ?_⟩
          split at w1
          · rename_i ρ' e4
            cases g1' : gN G x d1 ρ with
            | none => rw [g1'] at e4; cases e4
            | some ρ1 =>
              rw [g1'] at e4
              replace e4 : ((gN G y d2 ρ1).bind fun ρ2 => gN G z d3 ρ2) = some ρ' := e4
              cases g2' : gN G y d2 ρ1 with
              | none => rw [g2'] at e4; cases e4
              | some ρ2 =>
                rw [g2'] at e4
                obtain ⟨i', f1, _, _, f4⟩ := gN_ix g1'
                obtain ⟨j', f5, _, _, f8⟩ := gN_ix g2'
                obtain ⟨l', f9, _, _, f12⟩ := gN_ix (show gN G z d3 ρ2 = some ρ' from e4)
                rw [q1] at f1; cases f1
                rw [q2] at f5; cases f5
                rw [q3] at f9; cases f9
                subst f12 f8 f4
                exact ok_fl g1 w1 _ ((((rr.mono s1).set i h1).set j h2).set l h3)
          · exact w1.elim
        · exact w1.elim
      · exact PS.weak PS.any fun D σ H h => hz (ts_if h).1
    · refine none_of fun ρ => ?_
      unfold swapD
      split
      · exact absurd ⟨_, _, _, _, _, _, rfl, rfl⟩ hm
      · exact absurd ⟨_, _, _, _, _, _, _, _, _, rfl, rfl⟩ hm3
      · rfl
theorem ps_asgT (R : EnOk W r) (ok : SOk W X Z G) (h4 : G.hot = false) (ts : List Expr) (k : Nat) (p : Pos) (e : Expr) (pos : Pos) : PS X (.Assign [.Tuple ts k p] e pos) (TSof W Z (asgT r G (.Tuple ts k p) ts e)) := by
  have fin : ∀ {f : Sl → M Pu.D} {D σ H}, TSof W Z (fun ρ => withX ρ (f ρ) (fun d => storeT G (.Tuple ts k p) d ρ)) D σ H → tAsg (TEof W Z f) (TGp W (gslots G (.Tuple ts k p)) (gD G (.Tuple ts k p))) D σ H := by
    rintro f D σ H ⟨ρ, m, ee, g, rr, w⟩
    exact ⟨ρ, m, ee, g, rr, (withX_wp rr w).mono (fun _ _ _ _ z => z) fun d m1 s1 g1 w1 v hv => storeT_out g1 (rr.mono s1) hv w1⟩
  have plain : isComp e = false → swappedStores [.Tuple ts k p] e X.env = pure none → PS X (.Assign [.Tuple ts k p] e pos) (tAsg (TEof W Z (r.e G e)) (TGp W (gslots G (.Tuple ts k p)) (gD G (.Tuple ts k p)))) := fun hc hw =>
    ps_asg (R.e ok.e e) (pg_gD ok.e (ok.e.calm h4) (.Tuple ts k p)) (show swapsWith e (some (.Tuple ts k p)) pos.line X.env = pure false from noswap hc _ _ _) hw rfl
  cases e with
  | Tuple vs k2 p2 =>
    by_cases h0 : swKind G.sc ts vs = 0
    · refine PS.weak (plain rfl ((swap_kind ok.e.sc ok.kind ts vs k k2 p p2).1 h0)) fun D σ H h => fin ?_
      obtain ⟨ρ, m, ee, g, rr, w⟩ := h
      unfold asgT at w
      simp only [h0, ↓reduceIte] at w
      exact ⟨ρ, m, ee, g, rr, w⟩
    · by_cases h1 : swKind G.sc ts vs = 1
      · refine PS.weak (ps_swapD R ok h4 ts vs k k2 p p2 pos h1) fun D σ H h => ?_
        obtain ⟨ρ, m, ee, g, rr, w⟩ := h
        unfold asgT at w
        simp only [h1, ↓reduceIte, Nat.one_ne_zero] at w
        exact ⟨ρ, m, ee, g, rr, w⟩
      · refine PS.weak PS.any fun D σ H h => ?_
        obtain ⟨ρ, m, ee, g, rr, w⟩ := h
        unfold asgT at w
        simp only [h0, h1, ↓reduceIte] at w
        exact w
  | ListComp _ _ _ _ => exact PS.weak PS.any fun D σ H h => ts_none (f := fun _ => stuck) (fun _ => rfl) h
  | SetComp _ _ _ _ => exact PS.weak PS.any fun D σ H h => ts_none (f := fun _ => stuck) (fun _ => rfl) h
  | DictComp _ _ _ _ _ => exact PS.weak PS.any fun D σ H h => ts_none (f := fun _ => stuck) (fun _ => rfl) h
  | _ => exact PS.weak (plain rfl rfl) fun D σ H h => fin h
/-! ### o[i] = v, o a cell -/
def rSetK : V → V → V → Hp → (Hp → Prop) → Prop := fun o i v H Q => ∃ a H', o = .ref a ∧ DPut H a i v H' ∧ Q H'
theorem set_both (hu : X.A.units + 1 < cLine) : PSet X (fun o i v H Q => rSetL o i v H Q ∨ rSetK o i v H Q) := by
  intro pins s σ H o i v ov iv u Q I ro ri rv h
  rcases h with h | ⟨a, H', rfl, g, q⟩
  · exact set_list pins s σ H o i v ov iv u Q I ro ri rv h
  · obtain rfl : ov = Value.ref a := ro
    exact d_setItem hu I g ri rv fun s4 I4 => ⟨H', I4, q⟩
theorem set_D {m : Mem} {o i v : Pu.D} {x y z : V} {Qh : Hp → Prop} {E : Ex → Mem → Prop} (g : Okm W m) (ho : Den W m o x) (hi : Den W m i y) (hv : Den W m v z) (w : wpR W m E (fun _ m' => Qh m'.H) (setD o i v m.μ)) : rSetL x y z m.H Qh ∨ rSetK x y z m.H Qh := by
  unfold setD at w
  split at w
  · rename_i c
    split at w
    · rename_i xs e1
      left
      unfold setL at w
      split at w
      · rename_i k
        split at w
        · rename_i j e2
          cases den_int hi
          cases ho with
          | @cell _ a h1 =>
            obtain ⟨vs, h2, l⟩ := g.ok c _ a e1 h1
            have lv : m.live a := .inl ⟨c, _, h1, e1, fun z => nomatch z⟩
            refine ⟨a, vs, k, j, rfl, rfl, h2, by rw [← l.length]; exact e2, ?_⟩
            have st : Step m (m.wr c a (.lst (vs.set j z)) (.lst (xs.set j v))) := step_wr g h1 lv
            exact w (m.wr c a (.lst (vs.set j z)) (.lst (xs.set j v))) st (good_wr g h1 lv ⟨_, upd_same, (l.set hv j).mono st⟩) rfl
        · exact w.elim
      · exact w.elim
    · rename_i kvs e1
      right
      unfold setK at w
      split at w
      · rename_i k e2
        split at w
        · rename_i hl
          cases ho with
          | @cell _ a h1 =>
            obtain ⟨kv, h2, l⟩ := g.ok c _ a e1 h1
            have lv : m.live a := .inl ⟨c, _, h1, e1, fun z => nomatch z⟩
            refine ⟨a, _, rfl, .inl ⟨kv, k, h2, keyOf_den hi e2, by rw [← l.length]; exact hl, rfl⟩, ?_⟩
            have st : Step m (m.wr c a (.dK (putK kv k z)) (.dic (putD kvs k v))) := step_wr g h1 lv
            exact w (m.wr c a (.dK (putK kv k z)) (.dic (putD kvs k v))) st (good_wr g h1 lv ⟨_, upd_same, (l.put k hv).mono st⟩) rfl
        · exact w.elim
      · exact w.elim
    · exact w.elim
  · exact w.elim
theorem keysOf_den {m : Mem} : ∀ {ds : List Pu.D} {vs : List V} {ks : List Key}, DenL W m ds vs → keysOf ds = some ks → vs = ks.map kV
  | _, _, ks, .nil, e => by cases e; rfl
  | _, _, ks, .cons (d := d) (ds := ds) h t, e => by
    unfold keysOf at e
    cases q : keyOf d with
    | none => rw [q] at e; cases e
    | some k =>
      cases q2 : keysOf ds with
      | none => rw [q, q2] at e; cases e
      | some ks' =>
        rw [q, q2] at e
        cases e
        rw [keyOf_den h q, keysOf_den t q2]
        rfl
theorem DenT.any {m : Mem} (k : List Key) : ∀ {ds : List (List Key × Pu.D)} {vs : List (List Key × V)}, DenT W m ds vs → (ds.any fun kv => decide (kv.1 = k)) = (vs.any fun kv => decide (kv.1 = k))
  | _, _, .nil => rfl
  | _, _, .cons _ t => by rw [List.any_cons, List.any_cons, DenT.any k t]
theorem DenT.map {m : Mem} {d : Pu.D} {v : V} (k : List Key) (h : Den W m d v) : ∀ {ds : List (List Key × Pu.D)} {vs : List (List Key × V)}, DenT W m ds vs → DenT W m (ds.map fun kv => if kv.1 = k then (kv.1, d) else kv) (vs.map fun kv => if kv.1 = k then (kv.1, v) else kv)
  | _, _, .nil => .nil
  | _, _, .cons (k := k') r t => by
    rw [List.map_cons, List.map_cons]
    by_cases e : k' = k
    · simp only [e, ↓reduceIte]
      exact .cons h (DenT.map k h t)
    · simp only [e, ↓reduceIte]
      exact .cons r (DenT.map k h t)
theorem DenT.append {m : Mem} : ∀ {ds es : List (List Key × Pu.D)} {vs ws : List (List Key × V)}, DenT W m ds vs → DenT W m es ws → DenT W m (ds ++ es) (vs ++ ws)
  | _, _, _, _, .nil, s => s
  | _, _, _, _, .cons r t, s => .cons r (DenT.append t s)
theorem DenT.length {m : Mem} : ∀ {ds : List (List Key × Pu.D)} {vs : List (List Key × V)}, DenT W m ds vs → ds.length = vs.length
  | _, _, .nil => rfl
  | _, _, .cons _ t => by rw [List.length_cons, List.length_cons, DenT.length t]
theorem DenT.put {m : Mem} {d : Pu.D} {v : V} (k : List Key) (h : Den W m d v) {ds : List (List Key × Pu.D)} {vs : List (List Key × V)} (l : DenT W m ds vs) : DenT W m (putT ds k d) (putK vs k v) := by
  unfold putT putK
  rw [l.any k]
  split
  · exact l.map k h
  · exact l.append (.cons h .nil)
theorem ps_asgTk (R : EnOk W r) (ok : EOk W X Z G) (o : Expr) (es : List Expr) (k : Nat) (p2 p : Pos) (e : Expr) (pos : Pos) (hc : isComp e = false) (hs : noStar es = true) :
    PS X (.Assign [.Subscript o (.Tuple es k p2) p] e pos) (TSof W Z fun ρ => withX ρ (do let v ← r.e G e ρ; let x ← r.e G o ρ; let ds ← aD r G es ρ; setT x ds v) (fun _ => yes (.next ρ))) := by
  refine PS.weak (ps_dput (by have := ok.un; omega) (R.e ok o) (pe_tup (pa_D R ok hs)) (R.e ok e) (noswap hc _ _ _)) fun D σ H h => ?_
  obtain ⟨ρ, m, ee, g, rr, w⟩ := h
  have w0 := withX_wp rr w
  refine ⟨ρ, m, ee, g, rr, (wpR_bind w0).mono (fun _ _ _ _ z => z) fun v m1 s1 g1 w1 zv hzv => ?_⟩
  refine ⟨ρ, m1, rfl, g1, rr.mono s1, (wpR_bind w1).mono (fun _ _ _ _ z => z) fun x m2 s2 g2 w2 xv hxv => ?_⟩
  refine ⟨ρ, m2, rfl, g2, (rr.mono s1).mono s2, (wpR_bind w2).mono (fun _ _ _ _ z => z) fun ds m3 s3 g3 w3 vs hvs => ?_⟩
  have r3 := ((rr.mono s1).mono s2).mono s3
  have hx := hxv.mono s3
  have hv := (hzv.mono s2).mono s3
  unfold setT at w3
  cases hx with
  | @cell c a h1 =>
    simp only at w3
    split at w3
    · rename_i kvs e1
      split at w3
      · rename_i ks e2
        by_cases hl : kvs.length < sizeLine ∧ ds.length ≤ sizeLine
        · rw [if_pos hl] at w3
          obtain ⟨kv, h2, l⟩ := g3.ok c _ a e1 h1
          have ev := keysOf_den hvs e2
          subst ev
          refine ⟨by rw [hvs.lenEq]; exact hl.2, fun q hq => ?_⟩
          have ne : a ≠ q := ne_of_none h2 hq
          have sp : Step m3 (m3.put q (.tup (ks.map kV))) := step_put g3 hq
          have gp : Okm W (m3.put q (.tup (ks.map kV))) := good_put g3 hq
          have h2' : (m3.put q (.tup (ks.map kV))).H a = some (.dT kv) := by show upd m3.H q _ a = _; rw [upd_ne ne]; exact h2
          have lv : (m3.put q (.tup (ks.map kV))).live a := .inl ⟨c, _, h1, e1, fun z => nomatch z⟩
          refine ⟨a, _, rfl, .inr ⟨kv, ks, q, h2', rfl, upd_same, by rw [← l.length]; exact hl.1, rfl⟩, ?_⟩
          have st : Step (m3.put q (.tup (ks.map kV))) ((m3.put q (.tup (ks.map kV))).wr c a (.dT (putK kv ks zv)) (.dt (putT kvs ks v))) := step_wr gp h1 lv
          have gg := good_wr (c := .dt (putT kvs ks v)) (o := .dT (putK kv ks zv)) gp h1 lv ⟨_, upd_same, ((l.mono sp).put ks (hv.mono sp)).mono st⟩
          have w4 := w3 _ (sp.trans st) gg rfl
          exact ok_fl gg w4 σ ((r3.mono sp).mono st)
        · rw [if_neg hl] at w3; exact w3.elim
      · exact w3.elim
    · exact w3.elim
  | _ => exact (show False from w3).elim
theorem ps_asgS (R : EnOk W r) (ok : EOk W X Z G) (o i : Expr) (p : Pos) (e : Expr) (pos : Pos) (hc : isComp e = false) (hs : isSlice i = false) :
    PS X (.Assign [.Subscript o i p] e pos) (TSof W Z fun ρ => withX ρ (do let v ← r.e G e ρ; let x ← r.e G o ρ; let k ← r.e G i ρ; setD x k v) (fun _ => yes (.next ρ))) := by
  have ha : ∀ v, assign (.Subscript o i p) X.env v = (do
      let ov ← holding [v] (eval o X.env)
      let iv ← holding [v, ov] (eval i X.env)
      standAt p
      holding [v, ov, iv] (setItem ov iv v)
      release [v, ov, iv] []) := by
    intro v
    cases i <;> first | rfl | cases hs
  have hw : swappedStores [.Subscript o i p] e X.env = pure none := by cases e <;> rfl
  refine PS.weak (ps_asg (R.e ok e) (pg_sub (R.e ok o) (R.e ok i) (set_both (by have := ok.un; omega)) ha) (show swapsWith e (some (.Subscript o i p)) pos.line X.env = pure false from noswap hc _ _ _) hw rfl) fun D σ H h => ?_
  obtain ⟨ρ, m, ee, g, rr, w⟩ := h
  have w0 := withX_wp rr w
  refine ⟨ρ, m, ee, g, rr, (wpR_bind w0).mono (fun _ _ _ _ z => z) fun v m1 s1 g1 w1 zv hzv => ?_⟩
  refine ⟨ρ, m1, rfl, g1, rr.mono s1, (wpR_bind w1).mono (fun _ _ _ _ z => z) fun x m2 s2 g2 w2 xv hxv => ?_⟩
  refine ⟨ρ, m2, rfl, g2, (rr.mono s1).mono s2, (wpR_bind w2).mono (fun _ _ _ _ z => z) fun k m3 s3 g3 w3 kv hkv => ?_⟩
  have r3 := ((rr.mono s1).mono s2).mono s3
  exact set_D g3 (hxv.mono s3) hkv ((hzv.mono s2).mono s3) (w3.mono (fun _ _ _ _ z => z) fun _ m4 s4 g4 w4 => ok_fl g4 w4 σ (r3.mono s4))
/-! ### x[i] += e, x += e -/
def rGetC : V → V → Hp → VK → Prop := fun o i H Q => ∃ p xs j z, o = .ref p ∧ i = .int j ∧ H p = some (.lst xs) ∧ 0 ≤ j ∧ j < 2 ^ 62 ∧ xs[j.toNat]? = some z ∧ Q z H
theorem get_C : PGet X rGetC := by
  intro pins s σ H o i ov iv Q I ro ri h
  obtain ⟨p, xs, j, z, rfl, rfl, hp, j0, j1, hz, q⟩ := h
  obtain rfl : ov = Value.ref p := ro
  obtain ⟨t, rfl⟩ := ri
  obtain ⟨its, r, pl, _⟩ := I.list (.inl (.inl hp))
  obtain ⟨w, ew, rw'⟩ := r.get hz
  exact wpAny_getItem_list pl.isList j0 (by omega) (by simpa using ew) ⟨z, H, I, rw', q⟩
theorem ps_augS' (R : EnOk W r) (ok : EOk W X Z G) (o i : Expr) (p : Pos) (e : Expr) (pos : Pos) (hs : isSlice i = false) :
    PS X (.AugAssign (.Subscript o i p) .Add e pos) (TSof W Z fun ρ => withX ρ (do let x ← r.e G o ρ; let k ← r.e G i ρ; let a ← getC x k; let v ← r.e G e ρ; let b ← addI a v; setD x k b) (fun _ => yes (.next ρ))) := by
  have ha : ∀ ov iv new, augStore i ov iv new = (do holding [new, ov, iv] (setItem ov iv new); release [new, ov, iv] []; pure .next) := by
    intro ov iv new
    cases i <;> first | rfl | cases hs
  refine PS.weak (ps_augS (R.e ok o) (R.e ok i) get_C (R.e ok e) ip_add (set_both (by have := ok.un; omega)) ha) fun D σ H h => ?_
  obtain ⟨ρ, m, ee, g, rr, w⟩ := h
  have w0 := withX_wp rr w
  refine ⟨ρ, m, ee, g, rr, (wpR_bind w0).mono (fun _ _ _ _ z => z) fun x m1 s1 g1 w1 xv hxv => ?_⟩
  refine ⟨ρ, m1, rfl, g1, rr.mono s1, (wpR_bind w1).mono (fun _ _ _ _ z => z) fun k m2 s2 g2 w2 kv hkv => ?_⟩
  have hx := hxv.mono s2
  have r2 := (rr.mono s1).mono s2
  have w3 := wpR_bind w2
  unfold getC at w3
  split at w3
  · rename_i c j
    cases den_int hkv
    cases hx with
    | @cell _ a h1 =>
      split at w3
      · rename_i xs e1
        split at w3
        · rename_i hj
          split at w3
          · rename_i z e2
            obtain ⟨vs, h2, l⟩ := g2.ok c _ a e1 h1
            obtain ⟨zv, e3, hz⟩ := l.get e2
            have w4 := w3 m2 (Step.refl m2) g2 rfl
            refine ⟨a, vs, j, zv, rfl, rfl, h2, hj.1, hj.2, e3, ρ, m2, rfl, g2, r2, (wpR_bind w4).mono (fun _ _ _ _ z => z) fun v m3 s3 g3 w5 vv hvv => ?_⟩
            have hz3 := hz.mono s3
            have w6 := wpR_bind w5
            unfold addI at w6
            split at w6
            · rename_i i1 i2
              cases den_int hz3
              cases den_int hvv
              have w7 := w6 m3 (Step.refl m3) g3 rfl
              exact ⟨i1, i2, rfl, rfl, set_D g3 (.cell (s3.as h1)) (.int j) (.int (i1 + i2)) (w7.mono (fun _ _ _ _ z => z) fun _ m4 s4 g4 w8 => ok_fl g4 w8 σ ((r2.mono s3).mono s4))⟩
            · exact w6.elim
          · exact w3.elim
        · exact w3.elim
      · exact w3.elim
  · exact w3.elim
theorem ps_augN' (R : EnOk W r) (ok : EOk W X Z G) (x : Str) (p : Pos) (e : Expr) (pos : Pos) (hz : canN G x = true) :
    PS X (.AugAssign (.Name x p) .Add e pos) (TSof W Z fun ρ => withX ρ (do let a ← slot (G.N.idxOf x) ρ; let v ← r.e G e ρ; addI a v) (fun d => storeN G x d ρ)) := by
  obtain ⟨i, h1, h2⟩ : ∃ i, G.ix x = some i ∧ (G.sc.names.lookup x = some .local ∨ (G.sc.names.lookup x = some .cell ∧ G.own x = true)) := by
    unfold canN at hz
    simp only [Bool.and_eq_true, Bool.or_eq_true, beq_iff_eq, Option.isSome_iff_exists] at hz
    obtain ⟨⟨i, z1⟩, z2⟩ := hz
    exact ⟨i, z1, z2⟩
  have hi : G.N.idxOf x = i := by
    unfold Ctx.ix at h1
    split at h1
    · exact Option.some.inj h1
    · cases h1
  rw [← ok.sc] at h2
  have h2' : Loc X.env.scope x := h2.elim .inl fun z => .inr z.1
  have hf : X.fn x = true ∨ X.env.scope.names.lookup x = some .local := by
    rcases h2 with z | z
    · exact .inr z
    · exact .inl (by rw [ok.own]; exact z.2)
  have hN : X.N[i]? = some x := by rw [ok.N]; exact Ctx.ix_at h1
  refine PS.weak (ps_aug ok.nd hN h2' (R.e ok e) ip_add hf) fun D σ H h => ?_
  obtain ⟨ρ, m, ee, g, rr, w⟩ := h
  rw [hi] at w
  have w0 := withX_wp rr w
  have w1 := wpR_bind w0
  obtain ⟨d, v, e1, e2, e3, w2⟩ := slot_get g rr w1
  subst ee
  refine ⟨v, e1, ρ, m, rfl, g, rr, (wpR_bind w2).mono (fun _ _ _ _ z => z) fun y m1 s1 g1 w3 yv hyv => ?_⟩
  have hd := e2.mono s1
  unfold addI at w3
  split at w3
  · rename_i i1 i2
    cases den_int hd
    cases den_int hyv
    have w4 := w3 m1 (Step.refl m1) g1 rfl
    exact ⟨i1, i2, rfl, rfl, storeN_out h1 g1 (rr.mono s1) (.int _) w4⟩
  · exact w3.elim
/-! ### o.f = v, o a cell -/
theorem denF_put {m : Mem} {f : Str} {d : Pu.D} {v : V} (hv : Den W m d v) : ∀ {fs : List (Str × Pu.D)} {fv : List (Str × V)}, DenF W m fs fv → DenF W m (putFD f d fs) (putF f v fv)
  | _, _, .nil => .cons hv .nil
  | _, _, .cons (k := k) h t => by
    unfold putFD putF
    by_cases e : k = f
    · rw [if_pos e, if_pos e]
      exact .cons hv t
    · rw [if_neg e, if_neg e]
      exact .cons h (denF_put hv t)
theorem denF_len {m : Mem} : ∀ {fs : List (Str × Pu.D)} {fv : List (Str × V)}, DenF W m fs fv → fs.length = fv.length
  | _, _, .nil => rfl
  | _, _, .cons _ t => congrArg (· + 1) (denF_len t)
theorem DenF.mono' {m m' : Mem} (s : Step m m') {fs : List (Str × Pu.D)} {fv : List (Str × V)} (h : DenF W m fs fv) : DenF W m' fs fv := DenF.up s.up h
theorem ps_asgF (R : EnOk W r) (ok : EOk W X Z G) (o : Expr) (f : Str) (p : Pos) (e : Expr) (pos : Pos) (hc : isComp e = false) :
    PS X (.Assign [.Attribute o f p] e pos) (TSof W Z fun ρ => withX ρ (do let v ← r.e G e ρ; let x ← r.e G o ρ; fldD G f x v) (fun _ => yes (.next ρ))) := by
  refine PS.weak (ps_fld (R.e ok o) (R.e ok e) (noswap hc _ _ _)) fun D σ H h => ?_
  obtain ⟨ρ, m, ee, g, rr, w⟩ := h
  have w0 := withX_wp rr w
  refine ⟨ρ, m, ee, g, rr, (wpR_bind w0).mono (fun _ _ _ _ z => z) fun v m1 s1 g1 w1 zv hzv => ?_⟩
  refine ⟨ρ, m1, rfl, g1, rr.mono s1, (wpR_bind w1).mono (fun _ _ _ _ z => z) fun x m2 s2 g2 w2 xv hxv => ?_⟩
  unfold fldD at w2
  split at w2
  · rename_i c
    split at w2
    · rename_i C fs e1
      by_cases hz : G.fld C f = true ∧ fs.length < 1000
      · rw [if_pos hz] at w2
        cases hxv with
        | @cell _ a h1 =>
          obtain ⟨dx, fv, h2, h3⟩ := g2.ok c _ a e1 h1
          have lv : m2.live a := .inl ⟨c, _, h1, e1, fun z => nomatch z⟩
          obtain ⟨k1, k2⟩ := ok.g.ob.fld C f hz.1
          rw [← ok.K] at k1 k2
          have st : Step m2 (m2.wr c a (.ins (W.ca C) dx (putF f zv fv)) (.obj C (putFD f v fs))) := step_wr g2 h1 lv
          refine ⟨a, _, dx, fv, rfl, h2, k1, k2, by rw [← denF_len h3]; exact hz.2, ?_⟩
          have r2 := ((rr.mono s1).mono s2).mono st
          have gg : Okm W (m2.wr c a (.ins (W.ca C) dx (putF f zv fv)) (.obj C (putFD f v fs))) := good_wr g2 h1 lv ⟨dx, _, upd_same, (denF_put (hzv.mono s2) h3).mono' st⟩
          exact ok_fl gg (w2 (m2.wr c a (.ins (W.ca C) dx (putF f zv fv)) (.obj C (putFD f v fs))) st gg rfl) σ r2
      · rw [if_neg hz] at w2
        exact w2.elim
    · exact w2.elim
  · exact w2.elim
/-! ### for -/
theorem ps_forD (R : DnOk W r) (ok : SOk W X Z G) (tg iter : Expr) (body : List Stmt) (pos : Pos) : PS X (.For tg iter body [] pos) (TSof W Z (forD r G tg iter body)) := by
  by_cases hz : G.hot = false ∧ notSet iter = true
  · obtain ⟨h4, hn⟩ := hz
    have hs : ∀ x, foldedSetIterable iter X.env x = pure x := by
      intro x
      unfold foldedSetIterable
      cases iter <;> first | rfl | cases hn
    refine PS.weak (ps_for ok.pass (ok.e.calm h4) (pi_D R.en ok.e tg iter) (pg_gD ok.e (ok.e.calm h4) tg) (R.s ok body) hs) fun D σ H h => ?_
    obtain ⟨ρ, m, ee, g, rr, w⟩ := (ts_if h).2
    refine ⟨ρ, m, ee, g, rr, (withX_wp rr w).mono (fun _ _ _ _ z => z) fun ds m1 s1 g1 w1 J itm => ?_⟩
    let Iv : Nat → St → Hp → Prop := fun i σ' H' => ∃ mm ρ', mm.H = H' ∧ Okm W mm ∧ Step m1 mm ∧ EnvOk W mm ρ' σ' ∧ wpR W mm (fun _ _ => False) (FlOk W Z D) (loopD G tg (r.s G body) (ds.drop i) ρ' mm.μ)
    refine ⟨fun i k σ' H' => k = ds.length - i ∧ i ≤ ds.length ∧ Iv i σ' H', ⟨ds.length, by simp, Nat.zero_le _, m1, ρ, rfl, g1, Step.refl m1, rr.mono s1, w1⟩, ?_⟩
    rintro i k σ' H' ⟨rfl, hi, mm, ρ', rfl, gm, sm, rm, wm⟩
    by_cases hlt : i < ds.length
    · refine .inr ⟨itm.go i mm sm.up gm hlt, Iv (i + 1), fun σ2 H2 z => ⟨ds.length - (i + 1), by omega, rfl, hlt, z⟩, fun x H2 y => ?_⟩
      obtain ⟨m2, d, rfl, s2, g2, e2, _, e3, hd⟩ := itm.yld i mm x H2 sm.up gm hlt y
      have hdrop : ds.drop i = d :: ds.drop (i + 1) := by
        obtain ⟨hi', he⟩ := List.getElem?_eq_some_iff.mp e3
        rw [← he]
        exact List.drop_eq_getElem_cons hi'
      rw [hdrop] at wm
      unfold loopD at wm
      cases q1 : gD G tg d ρ' with
      | none => rw [q1] at wm; exact (show False from wm).elim
      | some ρ1 =>
        rw [q1] at wm
        refine ⟨ρ', m2, d, ρ1, rfl, g2, rm.mono s2, hd, q1, fun σ2 r2 _ => ?_⟩
        refine ⟨ρ1, m2, rfl, g2, r2, ?_⟩
        have wm2 := (wpR_bind wm).behind s2
        rw [← e2] at wm2
        refine wm2.mono (fun _ _ _ _ z => z) fun fl m3 s3 g3 w3 => ?_
        have sm3 : Step m1 m3 := (sm.trans s2).trans s3
        cases fl with
        | next ρ2 => exact fun σ3 r3 => ⟨m3, ρ2, rfl, g3, sm3, r3, w3⟩
        | cont ρ2 => exact fun σ3 r3 => ⟨m3, ρ2, rfl, g3, sm3, r3, w3⟩
        | brk ρ2 => exact ok_fl g3 w3
        | ret d2 => exact ok_fl g3 w3
        | exc e ρ2 => exact ok_fl g3 w3
    · have ei : i = ds.length := by omega
      subst ei
      refine .inl ⟨itm.stop mm sm.up gm, ?_⟩
      rw [List.drop_length] at wm
      exact ok_fl gm wm σ' rm
  · exact PS.weak PS.any fun D σ H h => hz (ts_if h).1
theorem ps_whD (R : DnOk W r) (ok : SOk W X Z G) (c : Expr) (body : List Stmt) (pos : Pos) : PS X (.While c body [] pos) (TSof W Z (whD r G c body 1000000)) := by
  refine PS.weak (ps_while ok.pass (R.en.t ok.e c) (R.s ok body)) fun D σ H h => ?_
  refine ⟨fun n σ' H' => TSof W Z (whD r G c body n) D σ' H', ⟨_, h⟩, fun n σ1 H1 h1 => ?_⟩
  obtain ⟨ρ, m, ee, g, rr, w⟩ := h1
  cases n with
  | zero => exact (show False from w).elim
  | succ n =>
    unfold whD at w
    refine ⟨ρ, m, ee, g, rr, (withX_wp rr w).mono (fun _ _ _ _ z => z) fun k m1 s1 g1 w1 => ?_⟩
    cases k with
    | false =>
      show (if false = true then _ else _)
      rw [if_neg Bool.false_ne_true]
      exact ok_fl g1 w1 σ1 (rr.mono s1)
    | true =>
      show (if true = true then _ else _)
      rw [if_pos rfl]
      refine ⟨fun σ' H' => TSof W Z (whD r G c body n) D σ' H', fun σ' H' z => ⟨n, Nat.lt_succ_self n, z⟩, ρ, m1, rfl, g1, rr.mono s1, (wpR_bind w1).mono (fun _ _ _ _ z => z) fun fl m2 s2 g2 w2 => ?_⟩
      cases fl with
      | next ρ' => exact fun σ3 r3 => ⟨ρ', m2, rfl, g2, r3, w2⟩
      | cont ρ' => exact fun σ3 r3 => ⟨ρ', m2, rfl, g2, r3, w2⟩
      | brk ρ' => exact ok_fl g2 w2
      | ret d => exact ok_fl g2 w2
      | exc e ρ' => exact ok_fl g2 w2
/-! ### raise, try -/
theorem ps_raiseD (ok : SOk W X Z G) (e : Option Expr) (pos : Pos) : PS X (.Raise e none pos) (TSof W Z (raiseD G e)) := by
  by_cases hm : ∃ x p s j p2 p3, e = some (.Call (.Name x p) [.Constant (.str s) j p2] [] p3)
  · obtain ⟨x, p, s, j, p2, p3, rfl⟩ := hm
    by_cases hz : G.xc x = true ∧ G.hot = false ∧ okName x = true ∧ glB G.sc x = true
    · obtain ⟨h1, h2, h3, h4⟩ := id hz
      obtain ⟨c1, c2, c3, c4, c5⟩ := ok.e.g.xc x h1
      rw [← ok.e.K] at c2 c3 c4 c5
      refine PS.weak (ps_raise (ok.e.calm h2) ok.e.tk (pmk_own PySem.F.excBase_ValueError c3 c1 c2 (raises_own c4 c5) (gl_of ok.e h4) (okName_1 h3))) fun D σ H h => ?_
      obtain ⟨ρ, m, ee, g, rr, w⟩ := (ts_if h).2
      subst ee
      exact ok_fl g w σ _ _ rr ⟨rfl, .inl ⟨rfl, rfl⟩⟩
    · exact PS.weak PS.any fun D σ H h => hz (ts_if h).1
  · refine PS.weak PS.any fun D σ H h => ts_none (f := raiseD G e) (fun ρ => ?_) h
    unfold raiseD
    split
    · exact absurd ⟨_, _, _, _, _, _, rfl⟩ hm
    · rfl
theorem sok_tr (ok : SOk W X Z G) {V : WX} {pn : List (Addr × Obj)} {xe : Value → Shared → Prop} (tk : Takes (X.tr pn xe) V) (ps : PassesOwn (model X.prog X.w) X.A X.env xe) : SOk W (X.tr pn xe) V G :=
  ⟨⟨ok.e.K, ok.e.N, ok.e.nd, ok.e.sc, ok.e.own, tk, ok.e.calm, ok.e.room, ok.e.un, ok.e.gd, ok.e.g⟩, ps, ok.stk, ok.frm, ok.kind⟩
theorem sok_suite (ok : SOk W X Z G) (a : Addr) (pn : List (Addr × Obj)) : SOk W (X.suite a pn) (fun _ _ _ _ => False) (hotG G) :=
  ⟨⟨ok.e.K, ok.e.N, ok.e.nd, ok.e.sc, ok.e.own, takes0, (fun z => nomatch z), (fun z => nomatch z), ok.e.un, ok.e.gd, ⟨ok.e.g.glob, ok.e.g.bl, ok.e.g.fn, ok.e.g.xc, ok.e.g.cat, ⟨ok.e.g.ob.fld, ok.e.g.ob.meth, ok.e.g.ob.make, ok.e.g.ob.dun, ok.e.g.ob.prop, ok.e.g.ob.ne, ok.e.g.ob.cmeth, ok.e.g.ob.cls, ok.e.g.ob.sub⟩⟩⟩, PassesOwn.never, ok.stk, ok.frm, ok.kind⟩
end
end Pu

set_option Elab.async false
set_option linter.all false
set_option maxRecDepth 100000
/-! Pu13: try; every statement; the den at every fuel. -/
namespace Pu
open PySem L2
section
variable {W : Wd} {Z : WX} {X : Cx} {G : Ctx} {σ : St} {H : Hp} {D : Ends} {r : Dn}
theorem noF_wp {m : Mem} {x : M Fl} (w : wpR W m (fun _ _ => False) (FlOk W Z D) (noF x m.μ)) : wpR W m (fun _ _ => False) (FlOk W (fun _ _ _ _ => False) D) (x m.μ) := by
  unfold noF at w
  cases q : x m.μ with
  | stuck => rw [q] at w; exact w
  | exc e μ' => rw [q] at w; exact w
  | ok fl μ' =>
    rw [q] at w
    cases fl with
    | exc e ρ => exact (show False from w).elim
    | next ρ => exact w
    | brk ρ => exact w
    | cont ρ => exact w
    | ret d => exact w
theorem ps_tryD (R : DnOk W r) (ok : SOk W X Z G) (body : List Stmt) (hs : List ExceptHandler) (pos : Pos) : PS X (.Try body hs [] [] pos) (TSof W Z (tryD r G body hs)) := by
  by_cases hm : ∃ c np b0 suite p2, hs = [.ExceptHandler (some (.Name c np)) none (b0 :: suite) p2]
  · obtain ⟨c, np, b0, suite, p2, rfl⟩ := hm
    by_cases hz : okName c = true ∧ glB G.sc c = true ∧ G.hot = false ∧ (G.cat c c).isSome = true
    · obtain ⟨h1, h2, h3, h4⟩ := id hz
      obtain ⟨b, hb⟩ := Option.isSome_iff_exists.mp h4
      have hmg := (ok.e.g.cat c c b hb).1
      have nm : Names X c (.ref (W.ca c)) := ⟨gl_of ok.e h2, okName_1 h1, .inl hmg⟩
      refine PS.weak (ps_try_only (tb := fun V => TSof W V (r.s G body)) (ts := fun _ _ _ => TSof W (fun _ _ _ _ => False) (r.s (hotG G) (b0 :: suite))) ok.stk ok.frm nm ok.e.tk (fun V pn xe tk ps => R.s (sok_tr ok tk ps) body) (fun a oe cls d pn _ _ => R.s (sok_suite ok a _) _)) fun D σ H h => ?_
      obtain ⟨ρ, m, ee, g, rr, w⟩ := (ts_if h).2
      refine ⟨ρ, m, ee, g, rr, ?_⟩
      replace w : wpR W m (fun _ _ => False) (FlOk W Z D) (catchD (r.s G body ρ) (catK r G c (b0 :: suite)) m.μ) := w
      unfold catchD at w
      cases q : r.s G body ρ m.μ with
      | stuck => rw [q] at w; exact w
      | exc e μ' => rw [q] at w; exact w
      | ok fl μ' =>
        rw [q] at w
        cases fl with
        | next ρ => exact w
        | brk ρ => exact w
        | cont ρ => exact w
        | ret d => exact w
        | exc e ρ' =>
          intro m1 s1 g1 e1 σ' cls dx r1 hx
          subst e1
          replace w : wpR W m (fun _ _ => False) (FlOk W Z D) (catK r G c (b0 :: suite) e ρ' m1.μ) := w
          unfold catK at w
          have hcls := hx.1
          cases qc : G.cat c e.cls with
          | none => rw [qc] at w; exact (show False from w).elim
          | some b =>
            have hex := (ok.e.g.cat c e.cls b qc).2
            rw [← hcls, ← ok.e.K] at hex
            cases b with
            | true =>
              rw [qc] at w
              exact ⟨true, hex, fun _ a _ => ⟨ρ', m1, rfl, g1, r1, noF_wp (w.behind s1)⟩, fun z => nomatch z⟩
            | false =>
              rw [qc] at w
              exact ⟨false, hex, (fun z => nomatch z), fun _ => w m1 s1 g1 rfl σ' cls dx r1 hx⟩
    · exact PS.weak PS.any fun D σ H h => hz (ts_if h).1
  · refine PS.weak PS.any fun D σ H h => ts_none (f := tryD r G body hs) (fun ρ => ?_) h
    unfold tryD
    split
    · exact absurd ⟨_, _, _, _, _, rfl⟩ hm
    · rfl
theorem ps_asgD (R : EnOk W r) (ok : SOk W X Z G) (tg e : Expr) (pos : Pos) : PS X (.Assign [tg] e pos) (TSof W Z (asgD r G tg e)) := by
  cases tg with
  | Name x p => exact ps_asgN R ok.e x p e pos
  | Tuple ts k p =>
    by_cases h4 : G.hot = false
    · exact PS.weak (ps_asgT R ok h4 ts k p e pos) fun D σ H h => (ts_if h).2
    · exact PS.weak PS.any fun D σ H h => h4 (ts_if h).1
  | Attribute o f p =>
    by_cases hz : isComp e = false
    · exact PS.weak (ps_asgF R ok.e o f p e pos hz) fun D σ H h => (ts_if h).2
    · exact PS.weak PS.any fun D σ H h => hz (ts_if h).1
  | Subscript o i p =>
    have other : (∀ ρ, asgD r G (.Subscript o i p) e ρ = if isComp e = false ∧ isSlice i = false then withX ρ (do let v ← r.e G e ρ; let x ← r.e G o ρ; let k ← r.e G i ρ; setD x k v) (fun _ => yes (.next ρ)) else stuck) → PS X (.Assign [.Subscript o i p] e pos) (TSof W Z (asgD r G (.Subscript o i p) e)) := fun z => by
      have z' : asgD r G (.Subscript o i p) e = fun ρ => if isComp e = false ∧ isSlice i = false then withX ρ (do let v ← r.e G e ρ; let x ← r.e G o ρ; let k ← r.e G i ρ; setD x k v) (fun _ => yes (.next ρ)) else stuck := funext z
      rw [z']
      by_cases hz : isComp e = false ∧ isSlice i = false
      · exact PS.weak (ps_asgS R ok.e o i p e pos hz.1 hz.2) fun D σ H h => (ts_if h).2
      · exact PS.weak PS.any fun D σ H h => hz (ts_if h).1
    cases i with
    | Tuple es k p2 =>
      by_cases hz : isComp e = false ∧ noStar es = true
      · exact PS.weak (ps_asgTk R ok.e o es k p2 p e pos hz.1 hz.2) fun D σ H h => (ts_if h).2
      · exact PS.weak PS.any fun D σ H h => hz (ts_if h).1
    | _ => exact other fun _ => rfl
  | _ => exact PS.weak PS.any fun D σ H h => ts_none (f := fun _ => stuck) (fun _ => rfl) h
theorem ps_augD (R : EnOk W r) (ok : EOk W X Z G) (tg : Expr) (op : Operator) (e : Expr) (pos : Pos) : PS X (.AugAssign tg op e pos) (TSof W Z (augD r G tg op e)) := by
  have none_of : (∀ ρ, augD r G tg op e ρ = stuck) → PS X (.AugAssign tg op e pos) (TSof W Z (augD r G tg op e)) := fun z => PS.weak PS.any fun D σ H h => ts_none z h
  cases op with
  | Add =>
    cases tg with
    | Subscript o i p =>
      by_cases hs : isSlice i = false
      · exact PS.weak (ps_augS' R ok o i p e pos hs) fun D σ H h => (ts_if h).2
      · exact PS.weak PS.any fun D σ H h => hs (ts_if h).1
    | Name x p =>
      by_cases hz : canN G x = true
      · exact PS.weak (ps_augN' R ok x p e pos hz) fun D σ H h => (ts_if h).2
      · exact PS.weak PS.any fun D σ H h => hz (ts_if h).1
    | _ => exact none_of fun _ => rfl
  | _ => exact none_of fun _ => by cases tg <;> rfl
theorem ps_stmD (R : DnOk W r) (ok : SOk W X Z G) (st : Stmt) : PS X st (TSof W Z (stmD r G st)) := by
  have none_of : (∀ ρ, stmD r G st ρ = stuck) → PS X st (TSof W Z (stmD r G st)) := fun z => PS.weak PS.any fun D σ H h => ts_none z h
  have nx : ∀ {D : Ends} {σ : St} {H : Hp} {k : Sl → Fl}, TSof W Z (fun ρ => yes (k ρ)) D σ H → ∃ ρ m, m.H = H ∧ EnvOk W m ρ σ ∧ FlOk W Z D (k ρ) m := fun ⟨ρ, m, ee, g, rr, w⟩ => ⟨ρ, m, ee, rr, ok_fl g w⟩
  cases st with
  | Pass p => exact PS.weak ps_pass fun D σ H h => by obtain ⟨ρ, m, rfl, rr, q⟩ := nx (k := .next) h; exact q σ rr
  | Break p => exact PS.weak ps_break fun D σ H h => by obtain ⟨ρ, m, rfl, rr, q⟩ := nx (k := .brk) h; exact q σ rr
  | Continue p => exact PS.weak ps_continue fun D σ H h => by obtain ⟨ρ, m, rfl, rr, q⟩ := nx (k := .cont) h; exact q σ rr
  | Expr e p => exact ps_expD R.en ok.e e p
  | Return o p =>
    cases o with
    | some e => exact ps_retD R.en ok.e e p
    | none => exact PS.weak ps_retN fun D σ H h => by obtain ⟨ρ, m, rfl, rr, q⟩ := nx (k := fun _ => .ret .non) h; exact q _ .non
  | If c a b p => exact ps_ifD R ok c a b p
  | Assign ts e p =>
    match ts with
    | [tg] => exact ps_asgD R.en ok tg e p
    | [] => exact none_of fun _ => rfl
    | _ :: _ :: _ => exact none_of fun _ => rfl
  | AugAssign tg op e p => exact ps_augD R.en ok.e tg op e p
  | For tg iter body els p =>
    match els with
    | [] => exact ps_forD R ok tg iter body p
    | _ :: _ => exact none_of fun _ => rfl
  | While c body els p =>
    match els with
    | [] => exact ps_whD R ok c body p
    | _ :: _ => exact none_of fun _ => rfl
  | Raise e c p =>
    match c with
    | none => exact ps_raiseD ok e p
    | some _ => exact none_of fun _ => rfl
  | Try body hs els fin p =>
    match els, fin with
    | [], [] => exact ps_tryD R ok body hs p
    | _ :: _, _ => exact none_of fun _ => rfl
    | [], _ :: _ => exact none_of fun _ => rfl
  | _ => exact none_of fun _ => rfl
theorem pss_D (R : DnOk W r) (ok : SOk W X Z G) : ∀ ss : List Stmt, PSs X ss (TSof W Z (sD r G ss))
  | [] => PSs.weak pss_nil fun D σ H h => by
    obtain ⟨ρ, m, rfl, g, rr, w⟩ := h
    exact ok_fl g w σ rr
  | st :: rest => PSs.weak (pss_cons (ps_stmD R ok st) (pss_D R ok rest)) fun D σ H h => by
    obtain ⟨ρ, m, rfl, g, rr, w⟩ := h
    unfold sD at w
    refine ⟨ρ, m, rfl, g, rr, (wpR_bind w).mono (fun _ _ _ _ z => z) fun fl m1 s1 g1 w1 => ?_⟩
    cases fl with
    | next ρ' => exact fun σ' r' => ⟨ρ', m1, rfl, g1, r', w1⟩
    | brk ρ' => exact ok_fl (D := D) g1 w1
    | cont ρ' => exact ok_fl (D := D) g1 w1
    | ret d => exact ok_fl (D := D) g1 w1
    | exc e ρ' => exact ok_fl (D := D) g1 w1
end
theorem step_ok {W : Wd} {r : Dn} (R : DnOk W r) : DnOk W (stepD r) :=
  ⟨⟨fun ok e => pe_stepE8 R.en ok e, fun ok e => pt_stepT R.en ok e⟩, fun ok ss => pss_D R ok ss⟩
theorem den_ok (W : Wd) : ∀ n, DnOk W (den n)
  | 0 => ⟨⟨fun ok e => PE.weak PE.any fun σ H Q h => te_none (f := fun _ => stuck) (fun _ => rfl) h, fun ok e => PT.weak PT.any fun σ H Q h => by obtain ⟨_, _, _, _, _, w⟩ := h; exact w⟩, fun ok ss => PSs.weak PSs.any fun D σ H h => ts_none (f := fun _ => stuck) (fun _ => rfl) h⟩
  | n + 1 => step_ok (den_ok W n)
end Pu

set_option Elab.async false
set_option linter.all false
set_option maxRecDepth 100000
/-! Pu14: a def's promise by the den of its body; the law's end. -/
namespace Pu
open PySem PySem.Spec PyProof.Rows L2
def endD (x : M Fl) : M D := fun μ => match x μ with
  | .ok (.next _) μ' => .ok .non μ'
  | .ok (.ret d) μ' => .ok d μ'
  | .ok (.exc e _) μ' => .exc e μ'
  | .ok (.brk _) _ => .stuck
  | .ok (.cont _) _ => .stuck
  | .exc e μ' => .stuck
  | .stuck => .stuck
def begin (N : List Str) (ds : List D) : Sl := ds.map some ++ List.replicate (N.length - ds.length) none
def defD (n : Nat) (G : Ctx) (body : List Stmt) (ds : List D) : M D := endD ((den n).s G body (begin G.N ds))
theorem denL_get {W : Wd} {m : Mem} : ∀ {ds : List D} {vs : List V}, DenL W m ds vs → ∀ (i : Nat) (d : D), ds[i]? = some d → ∃ v, vs[i]? = some v ∧ Den W m d v
  | _, _, .nil, i, d, h => by simp at h
  | _, _, .cons h t, 0, d, e => by cases e; exact ⟨_, rfl, h⟩
  | _, _, .cons h t, i + 1, d, e => denL_get t i d e
theorem begin_ok {W : Wd} {m : Mem} {N : List Str} {ds : List D} {vs : List V} (h : DenL W m ds vs) : EnvOk W m (begin N ds) (L2.start N vs) := by
  have l := h.length
  refine ⟨by simp [begin, L2.start, l], fun i d q => ?_⟩
  unfold begin at q
  unfold L2.start
  by_cases hi : i < ds.length
  · rw [List.getElem?_append_left (by simpa using hi), List.getElem?_map] at q
    rw [List.getElem?_append_left (by simpa [← l] using hi), List.getElem?_map]
    cases e : ds[i]? with
    | none => rw [e] at q; cases q
    | some d' =>
      rw [e] at q
      cases q
      obtain ⟨v, e1, e2⟩ := denL_get h i _ e
      exact ⟨v, by rw [e1]; rfl, e2⟩
  · rw [List.getElem?_append_right (by simpa using hi), List.getElem?_replicate] at q
    split at q <;> cases q
/-- THE DEF: its promise is its den's -/
theorem fn_den {P : Program} {w : World} {W : Wd} {mg : Str → Option Value} {base : Heap} {x qual : Str} {st : Stmt} {f : Addr} {fd : FuncData} {ps : List Str} {G : Ctx} (n : Nat)
    (F : Fun W.K x qual st f fd) (S : FnScope G.N ps (defScope st)) (hsc : G.sc = defScope st) (hown : G.own = fun _ => true) (hot : G.hot = false) (g : GOk P w mg base W G) :
    FnG P w W.K mg base (G.k + 1) f fd ps (spOf W ps.length (defD n G (defBody st))) := by
  refine fnG_of F S (fun vs H Q E h => h.1) fun cdv A out s H vs Q E room gd h => ?_
  obtain ⟨hl, ds, m, rfl, gm, hd, wp⟩ := h
  have un : (A.deeper (PyProof.Rows.envOfC qual (defScope st) s.heap.objs.size f cdv)).units + 64 < cLine := by have := room.un; omega
  have ok : SOk W (cxOf (L2.CX P w) P w W.K mg base G.N qual (defScope st) f cdv A out s m.H E) (fun cls d _ H => E cls d H) G :=
    ⟨⟨rfl, rfl, S.nd, hsc.symm, hown.symm, takes_of rfl rfl rfl rfl, (fun _ => rfl), (fun _ => room), un, gd, g⟩, passes_of rfl, rfl, rfl, by rw [hsc]; exact S.kind⟩
  refine ⟨_, (den_ok W n).s ok (defBody st), begin G.N ds, m, rfl, gm, begin_ok hd, ?_⟩
  unfold defD endD at wp
  cases q : (den n).s G (defBody st) (begin G.N ds) m.μ with
  | stuck => rw [q] at wp; exact wp
  | exc e μ' => rw [q] at wp; exact (show False from wp).elim
  | ok fl μ' =>
    rw [q] at wp
    cases fl with
    | next ρ => exact fun m1 s1 g1 e1 σ _ => wp m1 s1 g1 e1 _ .non
    | ret d => exact fun m1 s1 g1 e1 v hv => wp m1 s1 g1 e1 v hv
    | exc e ρ => exact fun m1 s1 g1 e1 σ cls dx _ hx => wp m1 s1 g1 e1 cls dx hx
    | brk ρ => exact (show False from wp).elim
    | cont ρ => exact (show False from wp).elim
/-! ### the law's end -/
theorem dens_ints {W : Wd} {m : Mem} : ∀ ns : List Int, DenL W m (ns.map D.int) (ns.map V.int)
  | [] => .nil
  | n :: r => .cons (.int n) (dens_ints r)
theorem law_at {W : Wd} {F : List D → M D} {H : Hp} {a : Addr} {ns : List Int} {μ : Sto} (hS : Rd H a (.lst (ns.map V.int)) ∨ ∀ H', SqL W.K H' a (ns.map V.int)) (h : F [.frz (ns.map D.int)] [] = .ok (.bl true) μ) : spOf W 1 F [.ref a] H (fun v _ => v = .bl true) fun _ _ _ => False := by
  refine ⟨rfl, [.frz (ns.map D.int)], ⟨H, [], [], []⟩, rfl, ⟨rfl, List.nodup_nil, (fun _ z => nomatch z), (fun _ z => nomatch z), (fun i o a e => by simp at e), fun _ z => nomatch z⟩, .cons (.frz ?_ (dens_ints ns)) .nil, ?_⟩
  · refine hS.elim (fun z => .inl ⟨z, fun z => ?_⟩) .inr
    rcases z with ⟨i, o, e, _⟩ | z
    · simp at e
    · nomatch z
  · show wpR W _ _ _ (F [.frz (ns.map D.int)] [])
    rw [h]
    intro m1 _ _ _ v hv
    cases hv
    rfl
section
variable {P : Program} {w : World} {W : Wd} {mg mb : Str → Option Value} {k : Nat} {fa a : Addr} {fd : FuncData} {x : Str} {sp : Sp} {s₁ : Shared} {vs : List Value} {ns : List Int}
/-- the call at a heap where at most the script is told -/
theorem law_core {H : Hp} (hin : W.K.In s₁.heap) (hns : s₁.heap.Ns mainGlobals mg) (hb : s₁.heap.Ns builtinsNs mb) (hbb : ∀ x : Str, x ≠ "__name__" → mb x = bootBuiltins x) (hlim : s₁.heap.NoLimit) (hg : s₁.gens = #[])
    (ho : s₁.heap.get? a = some { cls := .type "list", data := .seq vs.toArray }) (room : Room k callerA) (F : ∀ base : Heap, FnG P w W.K mg base k fa fd [x] sp) (bind : ∀ (s : Shared) (u : Value), BindsTo s fd ⟨[u], []⟩ [(x, u)])
    (hH : ∀ b u, H b = some u → b = a ∧ W.K.lookup a = none ∧ ∃ o xs, u = .frz o (.lst xs)) (hok : HOk P w H s₁.heap) (hsp : sp [.ref a] H (fun v _ => v = .bl true) fun _ _ _ => False) :
    codeAny (model P w) callerA (.call (.ref fa) ⟨[.ref a], []⟩) (fun r s' => r = .ok (.ret (.bool true)) ∧ OldK s₁.heap s'.heap ∧ s'.os = s₁.os ∧ AllBare s'.gens) s₁ := by
  have free : ∀ b, b ≠ a → H b = none := fun b n => by
    cases q : H b with
    | none => rfl
    | some u => exact absurd (hH b u q).1 n
  have dicts : ∀ {b : Addr} {g : Str → Option Value}, s₁.heap.Ns b g → (hidT s₁.heap H).Ns b g := by
    rintro b g ⟨o, es, ep, e, d, z⟩
    refine ⟨o, es, ep, hidT_get e (free b fun q => ?_), d, z⟩
    subst q
    rw [ho] at e
    cases e
    exact nomatch (show Data.seq vs.toArray _ = Data.dict es ep from d)
  have kin : W.K.In (hidT s₁.heap H) := fun b o e => by
    refine hidT_get (hin b o e) ?_
    cases q : H b with
    | none => rfl
    | some u =>
      obtain ⟨rfl, q2, _⟩ := hH b u q
      rw [q2] at e
      cases e
  obtain ⟨mc, l1, l2⟩ := hlim
  have e0 : Env0 P w W.K mg (hidT s₁.heap H) callerA [] s₁ H :=
    ⟨rfl, ⟨kin, dicts hns, ⟨mb, dicts hb, hbb⟩, ⟨mc, dicts l1, l2⟩⟩, (fun _ _ e => of_hidT e), Nat.le_of_eq (hidT_size s₁.heap H), trivial, (fun b z => absurd (show b ∈ ([] : List Addr) from z) List.not_mem_nil), hok, .of_eq hg⟩
  refine codeAny_mono ((F (hidT s₁.heap H)).go callerA [] s₁ H ⟨[.ref a], []⟩ [.ref a] [.ref a] _ _ room rfl e0 (bind s₁ (.ref a)) (.cons rfl .nil) hsp) fun res s' c => ?_
  match res, c with
  | .error e, c => obtain ⟨_, _, _, _, _, _, _, _, _, _, _, _, z⟩ := c; exact z.elim
  | .ok .next, c => exact c.elim
  | .ok .brk, c => exact c.elim
  | .ok .cont, c => exact c.elim
  | .ok (.ret u), ⟨v, H', os, bare, un, hok', rv, ev⟩ =>
    cases (show v = .bl true from ev)
    cases (show u = Value.bool true from rv)
    refine ⟨rfl, OldK.of_keep fun b o e => ?_, os, bare⟩
    cases q : H b with
    | none => exact un.keep b o e q (fun z => absurd (show b ∈ ([] : List Addr) from z) List.not_mem_nil) (by simp)
    | some t =>
      obtain ⟨_, _, ob, xs, rfl⟩ := hH b t q
      have e1 := (hok b _ q).1
      rw [e] at e1
      cases e1
      exact (hok' b _ (un.frzs b _ _ q)).1
theorem law_callG (hin : W.K.In s₁.heap) (hns : s₁.heap.Ns mainGlobals mg) (hb : s₁.heap.Ns builtinsNs mb) (hbb : ∀ x : Str, x ≠ "__name__" → mb x = bootBuiltins x) (hlim : s₁.heap.NoLimit) (hg : s₁.gens = #[])
    (ho : s₁.heap.get? a = some { cls := .type "list", data := .seq vs.toArray }) (hi : IntsAre vs ns) (hl : ns.length ≤ sizeLine) (room : Room k callerA)
    (F : ∀ base : Heap, FnG P w W.K mg base k fa fd [x] sp) (bind : ∀ (s : Shared) (u : Value), BindsTo s fd ⟨[u], []⟩ [(x, u)])
    (hsp : ∀ H : Hp, (Rd H a (.lst (ns.map V.int)) ∨ ∀ H', SqL W.K H' a (ns.map V.int)) → sp [.ref a] H (fun v _ => v = .bl true) fun _ _ _ => False) :
    codeAny (model P w) callerA (.call (.ref fa) ⟨[.ref a], []⟩) (fun r s' => r = .ok (.ret (.bool true)) ∧ OldK s₁.heap s'.heap ∧ s'.os = s₁.os ∧ AllBare s'.gens) s₁ := by
  cases hk : W.K.lookup a with
  | some o =>
    have e := hin a o hk
    rw [ho] at e
    cases e
    refine law_core (H := fun _ => none) hin hns hb hbb hlim hg ho room F bind (fun b u z => nomatch z) (fun b u z => nomatch z) (hsp _ (.inr fun H' => .inr ⟨_, vs.toArray, _, hk, rfl, rfl, rfl, ?_, ?_⟩))
    · rw [List.size_toArray, hi.length]
      exact hl
    · simpa using vals_ints hi
  | none =>
    let H : Hp := fun b => if b = a then some (.frz { cls := .type "list", data := .seq vs.toArray } (.lst (ns.map V.int))) else none
    have at_a : H a = some (.frz { cls := .type "list", data := .seq vs.toArray } (.lst (ns.map V.int))) := if_pos rfl
    have only : ∀ b u, H b = some u → b = a ∧ u = .frz { cls := .type "list", data := .seq vs.toArray } (.lst (ns.map V.int)) := fun b u z => by
      by_cases q : b = a
      · subst q
        rw [at_a] at z
        exact ⟨rfl, (Option.some.inj z).symm⟩
      · have z' : (none : Option HO) = some u := (if_neg q).symm.trans z
        cases z'
    refine law_core (H := H) hin hns hb hbb hlim hg ho room F bind (fun b u z => ?_) (fun b u z => ?_) (hsp _ (.inl (.inr ⟨_, at_a⟩)))
    · obtain ⟨rfl, rfl⟩ := only b u z
      exact ⟨rfl, hk, _, _, rfl⟩
    · obtain ⟨rfl, rfl⟩ := only b u z
      exact ⟨ho, by rw [List.length_map]; exact hl, vs, _, vals_ints hi, ho⟩
end
/-- the goal that k_head leaves, from the law's den -/
theorem walk_D {l : PySem.W.OpenLaw} {n k : Nat} {q : Program} {loose : List Str} {XP : (Str → Option Value) → Heap → Prop} {YP : World → Heap → Prop} {d : DefRec} {K : Params → PySem.W.Frag} {x : Str} {L : List D → M D}
    (hn : l.most = some n) (hn2 : n ≤ sizeLine) (hdf : d.params.defaults = []) (room : Room k callerA) (hY : ∀ (w : World) (h : Heap), YP w h → (K w.params).In h)
    (F : ∀ (w : World) (mg : Str → Option Value) (fa : Addr) (h : Heap), (K w.params).In h → h.Ns mainGlobals mg → mg d.name = some (.ref fa) →
      ∃ (W : Wd) (fd : FuncData), W.K = K w.params ∧ (∀ (s : Shared) (u : Value), BindsTo s fd ⟨[u], []⟩ [(x, u)]) ∧ ∀ base : Heap, FnG l.prog w (K w.params) mg base k fa fd [x] (spOf W 1 L))
    (law : ∀ ns : List Int, ns.length ≤ n → ∃ μ, L [.frz (ns.map D.int)] [] = .ok (.bl true) μ) : PySem.W.WalkO q loose XP YP l.row.toRowW d [] (fun f vs => PySem.call f vs) := by
  refine Att.attach_call hn hdf fun w s₀ s₁ mg mb fa o pm cd doc a vs ns G Y ho hd hcd hmg hobj hints hlen hg => ?_
  have kin := hY w _ Y
  obtain ⟨W, fd, eK, bind, hF⟩ := F w mg fa _ kin G.T.g hmg
  rw [← eK] at kin hF
  obtain ⟨μ, e⟩ := law ns hlen
  exact law_callG kin G.T.g G.T.b G.T.builtins G.T.nolimit hg hobj hints (Nat.le_trans hlen hn2) room hF bind fun H hS => law_at hS e
end Pu

set_option Elab.async false
set_option linter.all false
set_option maxRecDepth 100000
/-! k12: the contexts and the dens of the law's defs (printed by lawgen2.py). -/
namespace K12
open PySem L2 Pu
abbrev prog : Program := PySem.Challenge.pw_loneguess_k12_whole_totals_by_all_texts
def top (i : Nat) : Stmt := prog.main.body.getD i (.Pass ⟨0, 0, 0, 0⟩)
def clsBody : Stmt → List Stmt
  | .ClassDef _ _ _ b _ _ _ _ _ _ _ => b
  | _ => []
def mtop (i j : Nat) : Stmt := (clsBody (top i)).getD j (.Pass ⟨0, 0, 0, 0⟩)
def blts : List Str := ["abs", "all", "bool", "int", "isinstance", "len", "list", "max", "min", "range", "sorted", "str", "sum", "tuple", "zip"]
def globs : List (Str × D) := [("MOST_LETTERS", .int 4), ("GREATEST", .int 99999999999999999999999999999999999999999999999999999999999999999999999999999999999999999999999999999999999999999999999999999999999999999999999999999999999999999999999999999999999999999999999999999999), ("MAX_STATES", .int 60), ("MAX_LENGTH", .int 400), ("Reader", .adr "Reader")]
def hintOf (p : Pos) : Nat := if (p.line == 222 && p.col == 11) = true then 1 else if (p.line == 235 && p.col == 17) = true then 1 else if (p.line == 243 && p.col == 17) = true then 4 else if (p.line == 248 && p.col == 17) = true then 5 else if (p.line == 257 && p.col == 17) = true then 1 else if (p.line == 261 && p.col == 11) = true then 2 else if (p.line == 280 && p.col == 17) = true then 1 else if (p.line == 283 && p.col == 11) = true then 2 else if (p.line == 245 && p.col == 11) = true then 2 else if (p.line == 65 && p.col == 22) = true then 1 else if (p.line == 173 && p.col == 12) = true then 1 else if (p.line == 180 && p.col == 40) = true then 1 else if (p.line == 184 && p.col == 11) = true then 2 else if (p.line == 207 && p.col == 12) = true then 1 else if (p.line == 285 && p.col == 58) = true then 1 else if (p.line == 289 && p.col == 11) = true then 2 else 0
def xcs : List Str := []
def catOf (c x : Str) : Option Bool := none
def flds : List (Str × Str) := [("Reader", "own_letters"), ("Reader", "own_size"), ("Reader", "own_states"), ("Reader", "own_firsts"), ("Reader", "own_lasts"), ("Reader", "own_arrows"), ("Reader", "own_moves")]
def clss : List Str := ["Reader"]
abbrev Fn := Nat × (List D → M D)
def cx (st : Stmt) (N : List Str) (k : Nat) (fs : List (Str × Fn)) (ms ds : List ((Str × Str) × Fn)) (pr : List ((Str × Str) × (List D → M D))) (mk : List (Str × Fn)) (cm : List ((Str × Str) × Fn)) : Pu.Ctx :=
  { N := N, sc := defScope st, own := fun _ => true, glob := fun x => globs.lookup x, fn := fun x => fs.lookup x, isB := fun x => blts.contains x, xc := fun x => xcs.contains x, cat := catOf, hint := hintOf, k := k, hot := false,
    fld := fun C f => flds.contains (C, f), meth := fun C m => ms.lookup (C, m), make := fun C => mk.lookup C, dun := fun C m => ds.lookup (C, m), prop := fun C m => pr.lookup (C, m), ne := fun C => clss.contains C, cmeth := fun C m => cm.lookup (C, m), cls := fun C => clss.contains C,
    sub := fun C B => if (C == B && clss.contains C) = true then some true else none }
abbrev s__law_pot : Stmt := top 48
abbrev g__law_pot : Pu.Ctx := cx s__law_pot ["_law_script", "_law_at", "_law_cell", "_law_great", "_law_blend"] 0 [] [] [] [] [] []
def d__law_pot : List D → M D := defD 40 g__law_pot (defBody s__law_pot)
abbrev s_require_reader : Stmt := top 29
abbrev g_require_reader : Pu.Ctx := cx s_require_reader ["value"] 0 [] [] [] [] [] []
def d_require_reader : List D → M D := defD 40 g_require_reader (defBody s_require_reader)
abbrev s_is_integer : Stmt := top 12
abbrev g_is_integer : Pu.Ctx := cx s_is_integer ["value"] 0 [] [] [] [] [] []
def d_is_integer : List D → M D := defD 40 g_is_integer (defBody s_is_integer)
abbrev s_is_integer_within : Stmt := top 13
abbrev g_is_integer_within : Pu.Ctx := cx s_is_integer_within ["value", "low", "high"] 1 [("is_integer", 1, d_is_integer)] [] [] [] [] []
def d_is_integer_within : List D → M D := defD 40 g_is_integer_within (defBody s_is_integer_within)
abbrev s_require_length : Stmt := top 34
abbrev g_require_length : Pu.Ctx := cx s_require_length ["value"] 2 [("is_integer_within", 3, d_is_integer_within)] [] [] [] [] []
def d_require_length : List D → M D := defD 40 g_require_length (defBody s_require_length)
abbrev s_first_row_of : Stmt := top 35
abbrev g_first_row_of : Pu.Ctx := cx s_first_row_of ["reader", "state"] 0 [] [] [] [] [] []
def d_first_row_of : List D → M D := defD 40 g_first_row_of (defBody s_first_row_of)
abbrev s_stepped : Stmt := top 36
abbrev g_stepped : Pu.Ctx := cx s_stepped ["reader", "row", "found", "state", "letter", "target"] 0 [] [] [] [] [] []
def d_stepped : List D → M D := defD 40 g_stepped (defBody s_stepped)
abbrev s_end_of : Stmt := top 37
abbrev g_end_of : Pu.Ctx := cx s_end_of ["reader", "row", "state"] 0 [] [] [] [] [] []
def d_end_of : List D → M D := defD 40 g_end_of (defBody s_end_of)
abbrev s_totals_of : Stmt := top 38
abbrev g_totals_of : Pu.Ctx := cx s_totals_of ["reader", "size", "length", "row", "found"] 1 [("first_row_of", 1, d_first_row_of), ("stepped", 2, d_stepped), ("end_of", 2, d_end_of)] [] [] [] [] []
def d_totals_of : List D → M D := defD 40 g_totals_of (defBody s_totals_of)
abbrev s_totals : Stmt := top 40
abbrev g_totals : Pu.Ctx := cx s_totals ["reader", "size"] 3 [("require_reader", 1, d_require_reader), ("require_length", 1, d_require_length), ("totals_of", 2, d_totals_of)] [] [] [] [] []
def d_totals : List D → M D := defD 40 g_totals (defBody s_totals)
abbrev s_total : Stmt := top 39
abbrev g_total : Pu.Ctx := cx s_total ["reader", "size"] 3 [("require_reader", 1, d_require_reader), ("require_length", 1, d_require_length), ("totals_of", 2, d_totals_of)] [] [] [] [] []
def d_total : List D → M D := defD 40 g_total (defBody s_total)
abbrev s__law_bit : Stmt := top 49
abbrev g__law_bit : Pu.Ctx := cx s__law_bit ["_law_pot_here", "_law_much", "_law_first", "_law_later", "_law_found"] 0 [] [] [] [] [] []
def d__law_bit : List D → M D := defD 40 g__law_bit (defBody s__law_bit)
abbrev s__law_pick : Stmt := top 50
abbrev g__law_pick : Pu.Ctx := cx s__law_pick ["_law_pot_here", "_law_items"] 1 [("_law_bit", 2, d__law_bit)] [] [] [] [] []
def d__law_pick : List D → M D := defD 40 g__law_pick (defBody s__law_pick)
abbrev s__law_signs : Stmt := top 53
abbrev g__law_signs : Pu.Ctx := cx s__law_signs ["_law_pot_here"] 2 [("_law_pick", 2, d__law_pick)] [] [] [] [] []
def d__law_signs : List D → M D := defD 40 g__law_signs (defBody s__law_signs)
abbrev s__law_dealt : Stmt := top 51
abbrev g__law_dealt : Pu.Ctx := cx s__law_dealt ["_law_pot_here", "_law_items", "_law_waits", "_law_turn"] 1 [("_law_bit", 2, d__law_bit)] [] [] [] [] []
def d__law_dealt : List D → M D := defD 40 g__law_dealt (defBody s__law_dealt)
abbrev s__law_some_of : Stmt := top 52
abbrev g__law_some_of : Pu.Ctx := cx s__law_some_of ["_law_pot_here", "_law_items", "_law_least", "_law_much"] 2 [("_law_bit", 2, d__law_bit), ("_law_dealt", 2, d__law_dealt)] [] [] [] [] []
def d__law_some_of : List D → M D := defD 40 g__law_some_of (defBody s__law_some_of)
abbrev s__law_told_reader : Stmt := top 54
abbrev g__law_told_reader : Pu.Ctx := cx s__law_told_reader ["_law_signs_here", "_law_much", "_law_heads", "_law_tails", "_law_links", "_law_found"] 0 [] [] [] [] [] []
def d__law_told_reader : List D → M D := defD 40 g__law_told_reader (defBody s__law_told_reader)
abbrev s__law_any_reader : Stmt := top 55
abbrev g__law_any_reader : Pu.Ctx := cx s__law_any_reader ["_law_pot_here", "_law_signs_here", "_law_most", "_law_count", "_law_links", "_law_spot", "_law_heads", "_law_tails", "_law_sign", "_law_turn"] 3 [("_law_some_of", 3, d__law_some_of), ("_law_told_reader", 5, d__law_told_reader), ("_law_bit", 2, d__law_bit), ("_law_pick", 2, d__law_pick)] [] [] [] [] []
def d__law_any_reader : List D → M D := defD 40 g__law_any_reader (defBody s__law_any_reader)
abbrev s_are_small : Stmt := top 14
abbrev g_are_small : Pu.Ctx := cx s_are_small ["text", "sign"] 0 [] [] [] [] [] []
def d_are_small : List D → M D := defD 40 g_are_small (defBody s_are_small)
abbrev s_is_ascending : Stmt := top 15
abbrev g_is_ascending : Pu.Ctx := cx s_is_ascending ["values", "one", "other"] 0 [] [] [] [] [] []
def d_is_ascending : List D → M D := defD 40 g_is_ascending (defBody s_is_ascending)
abbrev s_is_letters : Stmt := top 16
abbrev g_is_letters : Pu.Ctx := cx s_is_letters ["value"] 1 [("are_small", 1, d_are_small), ("is_ascending", 1, d_is_ascending)] [] [] [] [] []
def d_is_letters : List D → M D := defD 40 g_is_letters (defBody s_is_letters)
abbrev s_require_letters : Stmt := top 18
abbrev g_require_letters : Pu.Ctx := cx s_require_letters ["value"] 2 [("is_letters", 1, d_is_letters)] [] [] [] [] []
def d_require_letters : List D → M D := defD 40 g_require_letters (defBody s_require_letters)
abbrev s_moves_of : Stmt := top 25
abbrev g_moves_of : Pu.Ctx := cx s_moves_of ["letters", "size", "arrows", "found", "state", "letter", "other", "rows", "others"] 0 [] [] [] [] [] []
def d_moves_of : List D → M D := defD 40 g_moves_of (defBody s_moves_of)
abbrev s_is_number_set : Stmt := top 19
abbrev g_is_number_set : Pu.Ctx := cx s_is_number_set ["value", "size", "number"] 2 [("is_ascending", 1, d_is_ascending), ("is_integer_within", 3, d_is_integer_within)] [] [] [] [] []
def d_is_number_set : List D → M D := defD 40 g_is_number_set (defBody s_is_number_set)
abbrev s_is_text_within : Stmt := top 17
abbrev g_is_text_within : Pu.Ctx := cx s_is_text_within ["letters", "value", "sign"] 0 [] [] [] [] [] []
def d_is_text_within : List D → M D := defD 40 g_is_text_within (defBody s_is_text_within)
abbrev s_is_letter_of : Stmt := top 22
abbrev g_is_letter_of : Pu.Ctx := cx s_is_letter_of ["letters", "value"] 1 [("is_text_within", 2, d_is_text_within)] [] [] [] [] []
def d_is_letter_of : List D → M D := defD 40 g_is_letter_of (defBody s_is_letter_of)
abbrev s_is_arrow : Stmt := top 23
abbrev g_is_arrow : Pu.Ctx := cx s_is_arrow ["letters", "size", "value"] 2 [("is_integer_within", 3, d_is_integer_within), ("is_letter_of", 2, d_is_letter_of)] [] [] [] [] []
def d_is_arrow : List D → M D := defD 40 g_is_arrow (defBody s_is_arrow)
abbrev s_are_arrows : Stmt := top 24
abbrev g_are_arrows : Pu.Ctx := cx s_are_arrows ["letters", "size", "value", "arrow"] 3 [("is_ascending", 1, d_is_ascending), ("is_arrow", 3, d_is_arrow)] [] [] [] [] []
def d_are_arrows : List D → M D := defD 40 g_are_arrows (defBody s_are_arrows)
abbrev s_Reader___init__ : Stmt := mtop 26 0
abbrev g_Reader___init__ : Pu.Ctx := cx s_Reader___init__ ["self", "letters", "size", "firsts", "lasts", "arrows"] 4 [("require_letters", 1, d_require_letters), ("moves_of", 3, d_moves_of), ("is_integer_within", 3, d_is_integer_within), ("is_number_set", 2, d_is_number_set), ("are_arrows", 3, d_are_arrows)] [] [] [] [] []
def d_Reader___init__ : List D → M D := defD 40 g_Reader___init__ (defBody s_Reader___init__)
abbrev s__law_made_reader : Stmt := top 63
abbrev g__law_made_reader : Pu.Ctx := cx s__law_made_reader ["_law_reader"] 6 [] [] [] [] [("Reader", 5, d_Reader___init__)] []
def d__law_made_reader : List D → M D := defD 40 g__law_made_reader (defBody s__law_made_reader)
abbrev s_require_same : Stmt := top 42
abbrev g_require_same : Pu.Ctx := cx s_require_same ["one", "other"] 1 [("require_reader", 1, d_require_reader)] [] [] [] [] []
def d_require_same : List D → M D := defD 40 g_require_same (defBody s_require_same)
abbrev s_require_size : Stmt := top 43
abbrev g_require_size : Pu.Ctx := cx s_require_size ["size"] 0 [] [] [] [] [] []
def d_require_size : List D → M D := defD 40 g_require_size (defBody s_require_size)
abbrev s_pairs_of : Stmt := top 44
abbrev g_pairs_of : Pu.Ctx := cx s_pairs_of ["ones", "others", "size", "one", "other"] 0 [] [] [] [] [] []
def d_pairs_of : List D → M D := defD 40 g_pairs_of (defBody s_pairs_of)
abbrev s_both_of : Stmt := top 45
abbrev g_both_of : Pu.Ctx := cx s_both_of ["one", "other", "size", "found", "state", "letter", "there", "moves", "second", "firsts", "lasts", "last"] 6 [("require_size", 1, d_require_size), ("pairs_of", 3, d_pairs_of)] [] [] [] [("Reader", 5, d_Reader___init__)] []
def d_both_of : List D → M D := defD 40 g_both_of (defBody s_both_of)
abbrev s_both : Stmt := top 46
abbrev g_both : Pu.Ctx := cx s_both ["one", "other"] 7 [("require_same", 2, d_require_same), ("both_of", 2, d_both_of)] [] [] [] [] []
def d_both : List D → M D := defD 40 g_both (defBody s_both)
abbrev s__law_head_line : Stmt := top 57
abbrev g__law_head_line : Pu.Ctx := cx s__law_head_line ["_law_reader", "_law_spot"] 0 [] [] [] [] [] []
def d__law_head_line : List D → M D := defD 40 g__law_head_line (defBody s__law_head_line)
abbrev s__law_tail_sum : Stmt := top 58
abbrev g__law_tail_sum : Pu.Ctx := cx s__law_tail_sum ["_law_reader", "_law_line", "_law_spot"] 0 [] [] [] [] [] []
def d__law_tail_sum : List D → M D := defD 40 g__law_tail_sum (defBody s__law_tail_sum)
abbrev s__law_put : Stmt := top 56
abbrev g__law_put : Pu.Ctx := cx s__law_put ["_law_reader", "_law_line", "_law_sign", "_law_found", "_law_here", "_law_mark", "_law_there"] 0 [] [] [] [] [] []
def d__law_put : List D → M D := defD 40 g__law_put (defBody s__law_put)
abbrev s__law_ways_of : Stmt := top 59
abbrev g__law_ways_of : Pu.Ctx := cx s__law_ways_of ["_law_reader", "_law_word", "_law_line", "_law_sign"] 1 [("_law_head_line", 1, d__law_head_line), ("_law_tail_sum", 2, d__law_tail_sum), ("_law_put", 3, d__law_put)] [] [] [] [] []
def d__law_ways_of : List D → M D := defD 40 g__law_ways_of (defBody s__law_ways_of)
abbrev s__law_step_line : Stmt := top 61
abbrev g__law_step_line : Pu.Ctx := cx s__law_step_line ["_law_reader", "_law_line", "_law_found", "_law_here", "_law_mark", "_law_there"] 0 [] [] [] [] [] []
def d__law_step_line : List D → M D := defD 40 g__law_step_line (defBody s__law_step_line)
abbrev s__law_sums_of : Stmt := top 62
abbrev g__law_sums_of : Pu.Ctx := cx s__law_sums_of ["_law_reader", "_law_much", "_law_turn", "_law_line", "_law_found"] 1 [("_law_head_line", 1, d__law_head_line), ("_law_step_line", 2, d__law_step_line), ("_law_tail_sum", 2, d__law_tail_sum)] [] [] [] [] []
def d__law_sums_of : List D → M D := defD 40 g__law_sums_of (defBody s__law_sums_of)
abbrev s__law_words_of : Stmt := top 60
abbrev g__law_words_of : Pu.Ctx := cx s__law_words_of ["_law_signs_here", "_law_much", "_law_found", "_law_turn", "_law_longer", "_law_word", "_law_sign"] 0 [] [] [] [] [] []
def d__law_words_of : List D → M D := defD 40 g__law_words_of (defBody s__law_words_of)
abbrev s_Reader_over : Stmt := mtop 26 9
abbrev g_Reader_over : Pu.Ctx := cx s_Reader_over ["self", "letters", "letter"] 6 [("require_letters", 1, d_require_letters)] [] [] [] [("Reader", 5, d_Reader___init__)] []
def d_Reader_over : List D → M D := defD 40 g_Reader_over (defBody s_Reader_over)
abbrev s__law_right : Stmt := top 64
abbrev g__law_right : Pu.Ctx := cx s__law_right ["_law_pot_here", "_law_signs_here", "_law_reader", "_law_due", "_law_far_on", "_law_every", "_law_made", "_law_most", "_law_much", "_law_word", "_law_sign"] 8 [("_law_signs", 1, d__law_signs), ("_law_any_reader", 3, d__law_any_reader), ("_law_bit", 2, d__law_bit), ("_law_made_reader", 1, d__law_made_reader), ("totals", 2, d_totals), ("total", 2, d_total), ("both", 2, d_both), ("_law_ways_of", 2, d__law_ways_of), ("_law_sums_of", 2, d__law_sums_of), ("_law_words_of", 2, d__law_words_of)] [(("Reader", "over"), 1, d_Reader_over)] [] [] [("Reader", 5, d_Reader___init__)] []
def d__law_right : List D → M D := defD 40 g__law_right (defBody s__law_right)
abbrev s_law : Stmt := top 65
abbrev g_law : Pu.Ctx := cx s_law ["_law_script", "_law_at", "_law_odd", "_law_some", "_law_four", "_law_power", "_law_turn", "_law_told", "_law_pot_here"] 9 [("_law_pot", 2, d__law_pot), ("totals", 2, d_totals), ("total", 2, d_total), ("_law_right", 1, d__law_right)] [] [] [] [("Reader", 5, d_Reader___init__)] []
def d_law : List D → M D := defD 40 g_law (defBody s_law)
end K12

set_option Elab.async false
set_option linter.all false
set_option maxRecDepth 100000
/-! Pu17: runs of dens, plain: what a run ends in. -/
namespace Pu
open PySem L2
def Run {α : Type} (x : R α) (Q : α → Sto → Prop) : Prop := match x with
  | .ok a μ => Q a μ
  | .exc _ _ => False
  | .stuck => False
section
variable {α β : Type} {Q Q' : α → Sto → Prop} {μ μ' : Sto}
theorem run_ok {x : R α} {a : α} (e : x = .ok a μ) (h : Q a μ) : Run x Q := by rw [e]; exact h
theorem Run.out {x : R α} (h : Run x Q) : ∃ a μ, x = .ok a μ ∧ Q a μ := by
  cases x with
  | ok a μ => exact ⟨a, μ, rfl, h⟩
  | exc _ _ => exact h.elim
  | stuck => exact h.elim
theorem Run.mono {x : R α} (h : Run x Q) (w : ∀ a μ, Q a μ → Q' a μ) : Run x Q' := by
  obtain ⟨a, μ, e, q⟩ := h.out
  rw [e]
  exact w a μ q
theorem run_bind {x : M β} {f : β → M α} (h : Run (x μ) fun b μ1 => Run (f b μ1) Q) : Run ((x >>= f) μ) Q := by
  obtain ⟨b, μ1, e, q⟩ := h.out
  show Run (M.bind x f μ) Q
  unfold M.bind
  rw [e]
  exact q
theorem run_yes {a : α} (h : Q a μ) : Run ((yes a : M α) μ) Q := h
theorem bind_ok {x : M β} {f : β → M α} {b : β} {r : R α} (e : x μ = .ok b μ') (h : f b μ' = r) : (x >>= f) μ = r := by
  show M.bind x f μ = r
  unfold M.bind
  rw [e]
  exact h
theorem bind_exc {x : M β} {f : β → M α} {e : Ex} (h : x μ = .exc e μ') : (x >>= f) μ = .exc e μ' := by
  show M.bind x f μ = _
  unfold M.bind
  rw [h]
end
/-! ### defs and statements -/
def FinQ (Q : D → Sto → Prop) : Fl → Sto → Prop
  | .next _, μ => Q .non μ
  | .ret d, μ => Q d μ
  | .exc _ _, _ => False
  | .brk _, _ => False
  | .cont _, _ => False
def ThenK (k : Sl → Sto → Prop) (K : Fl → Sto → Prop) : Fl → Sto → Prop
  | .next ρ, μ => k ρ μ
  | fl, μ => K fl μ
section
variable {r : Dn} {G : Pu.Ctx} {ρ : Sl} {μ : Sto} {K : Fl → Sto → Prop} {Q : D → Sto → Prop} {st : Stmt} {rest : List Stmt} {n : Nat}
theorem run_def {body : List Stmt} {ds : List D} (h : Run ((den n).s G body (begin G.N ds) μ) (FinQ Q)) : Run (defD n G body ds μ) Q := by
  obtain ⟨fl, μ1, e, q⟩ := h.out
  unfold defD endD
  rw [e]
  cases fl with
  | next _ => exact q
  | ret _ => exact q
  | exc _ _ => exact q.elim
  | brk _ => exact q.elim
  | cont _ => exact q.elim
theorem rs_cons (h : Run (stmD r G st ρ μ) (ThenK (fun ρ' μ' => Run (sD r G rest ρ' μ') K) K)) : Run (sD r G (st :: rest) ρ μ) K := by
  unfold sD
  refine run_bind (h.mono fun fl μ1 q => ?_)
  cases fl <;> exact q
theorem rs_nil (h : K (.next ρ) μ) : Run (sD r G [] ρ μ) K := h
theorem run_with {α : Type} {x : M α} {k : α → M Fl} (h : Run (x μ) fun a μ1 => Run (k a μ1) K) : Run (withX ρ x k μ) K := by
  obtain ⟨a, μ1, e, q⟩ := h.out
  unfold withX
  rw [e]
  exact q
theorem rs_ret {e : Expr} {p : Pos} (h : Run (r.e G e ρ μ) fun d μ1 => K (.ret d) μ1) : Run (sD r G (.Return (some e) p :: rest) ρ μ) K :=
  rs_cons (run_with (h.mono fun _ _ q => q))
theorem rs_set {x : Str} {p pos : Pos} {e : Expr} {X : M D} (hA : asgN r G x e ρ = withX ρ X fun d => storeN G x d ρ)
    (h : Run (X μ) fun d μ1 => ∃ ρ', gN G x d ρ = some ρ' ∧ Run (sD r G rest ρ' μ1) K) : Run (sD r G (.Assign [.Name x p] e pos :: rest) ρ μ) K := by
  refine rs_cons ?_
  show Run (asgN r G x e ρ μ) _
  rw [hA]
  refine run_with (h.mono fun d μ1 q => ?_)
  obtain ⟨ρ', e1, q⟩ := q
  unfold storeN
  rw [e1]
  exact q
theorem rs_if {c : Expr} {a b : List Stmt} {p : Pos} (h : Run (r.t G c ρ μ) fun k μ1 => (k = true → Run (r.s G a ρ μ1) (ThenK (fun ρ' μ' => Run (sD r G rest ρ' μ') K) K)) ∧ (k = false → Run (r.s G b ρ μ1) (ThenK (fun ρ' μ' => Run (sD r G rest ρ' μ') K) K))) :
    Run (sD r G (.If c a b p :: rest) ρ μ) K := by
  refine rs_cons (run_with (h.mono fun k μ1 q => ?_))
  cases k with
  | true => exact q.1 rfl
  | false => exact q.2 rfl
theorem rs_expr {e : Expr} {p : Pos} (hc : isComp e = false) (h : Run (r.e G e ρ μ) fun _ μ1 => Run (sD r G rest ρ μ1) K) : Run (sD r G (.Expr e p :: rest) ρ μ) K := by
  refine rs_cons ?_
  show Run ((if isComp e = false then withX ρ (r.e G e ρ) (fun _ => yes (.next ρ)) else stuck) μ) _
  rw [if_pos hc]
  exact run_with (h.mono fun _ _ q => q)
def LoopK (I : Sl → Sto → Prop) (K : Fl → Sto → Prop) : Fl → Sto → Prop
  | .next ρ, μ => I ρ μ
  | .cont ρ, μ => I ρ μ
  | .brk ρ, μ => K (.next ρ) μ
  | fl, μ => K fl μ
theorem run_loop {tg : Expr} {body : Sl → M Fl} {I : Nat → Sl → Sto → Prop} : ∀ (ds : List D) (i : Nat) (ρ : Sl) (μ : Sto), I i ρ μ →
    (∀ j d ρ μ, ds[j]? = some d → I (i + j) ρ μ → ∃ ρ1, gD G tg d ρ = some ρ1 ∧ Run (body ρ1 μ) (LoopK (I (i + j + 1)) K)) → (∀ ρ μ, I (i + ds.length) ρ μ → K (.next ρ) μ) → Run (loopD G tg body ds ρ μ) K
  | [], i, ρ, μ, h0, _, hf => hf ρ μ h0
  | d :: ds, i, ρ, μ, h0, hs, hf => by
    obtain ⟨ρ1, e1, h1⟩ := hs 0 d ρ μ rfl h0
    have nx : ∀ ρ' μ', I (i + 0 + 1) ρ' μ' → Run (loopD G tg body ds ρ' μ') K := fun ρ' μ' q =>
      run_loop ds (i + 1) ρ' μ' q (fun j d ρ μ e hI => by
        have := hs (j + 1) d ρ μ e (by rw [show i + (j + 1) = i + 1 + j by omega]; exact hI)
        rw [show i + (j + 1) + 1 = i + 1 + j + 1 by omega] at this
        exact this) fun ρ μ hI => hf ρ μ (by rw [show i + (d :: ds).length = i + 1 + ds.length by rw [List.length_cons]; omega]; exact hI)
    unfold loopD
    rw [e1]
    refine run_bind (h1.mono fun fl μ1 q => ?_)
    cases fl with
    | next ρ' => exact nx ρ' μ1 q
    | cont ρ' => exact nx ρ' μ1 q
    | brk ρ' => exact q
    | ret d => exact q
    | exc e ρ' => exact q
theorem rs_for {tg iter : Expr} {body : List Stmt} {p : Pos} {ds : List D} {μ1 : Sto} {I : Nat → Sl → Sto → Prop} (hc : G.hot = false ∧ notSet iter = true) (hi : iD r G tg iter ρ μ = .ok ds μ1) (h0 : I 0 ρ μ1)
    (hs : ∀ j d ρ μ, ds[j]? = some d → I j ρ μ → ∃ ρ1, gD G tg d ρ = some ρ1 ∧ Run (r.s G body ρ1 μ) (LoopK (I (j + 1)) (ThenK (fun ρ' μ' => Run (sD r G rest ρ' μ') K) K))) (hf : ∀ ρ μ, I ds.length ρ μ → Run (sD r G rest ρ μ) K) : Run (sD r G (.For tg iter body [] p :: rest) ρ μ) K := by
  refine rs_cons ?_
  show Run (forD r G tg iter body ρ μ) _
  unfold forD
  rw [if_pos hc]
  refine run_with (run_ok hi (run_loop (I := I) ds 0 ρ μ1 h0 (fun j d ρ μ e hI => ?_) fun ρ μ hI => ?_))
  · rw [Nat.zero_add] at hI ⊢
    exact hs j d ρ μ e hI
  · rw [Nat.zero_add] at hI
    exact hf ρ μ hI
end
/-! ### comprehensions -/
section
variable {f : D → M (Option D)} {μ : Sto}
/-- every turn leaves the store as it is -/
theorem comp_pure {g : D → Option D} : ∀ (ds acc : List D), (∀ d ∈ ds, f d μ = .ok (g d) μ) → acc.length + ds.length ≤ sizeLine → compL f ds acc μ = .ok (acc ++ ds.filterMap g) μ
  | [], acc, _, _ => by rw [List.filterMap_nil, List.append_nil]; rfl
  | d :: ds, acc, h, hl => by
    rw [List.length_cons] at hl
    unfold compL
    refine bind_ok (h d List.mem_cons_self) ?_
    cases q : g d with
    | none =>
      rw [List.filterMap_cons_none q]
      exact comp_pure ds acc (fun d hd => h d (List.mem_cons_of_mem _ hd)) (by omega)
    | some z =>
      rw [List.filterMap_cons_some q]
      show (if acc.length < sizeLine then compL f ds (acc ++ [z]) else stuck) μ = _
      rw [if_pos (by omega), comp_pure ds (acc ++ [z]) (fun d hd => h d (List.mem_cons_of_mem _ hd)) (by rw [List.length_append]; simp only [List.length_singleton]; omega), List.append_assoc]
      rfl
/-- every turn gives one -/
theorem comp_map {g : D → D} (ds acc : List D) (h : ∀ d ∈ ds, f d μ = .ok (some (g d)) μ) (hl : acc.length + ds.length ≤ sizeLine) : compL f ds acc μ = .ok (acc ++ ds.map g) μ := by
  rw [comp_pure (g := fun d => some (g d)) ds acc h hl, List.filterMap_eq_map']
/-- with an invariant: the number of turns, the list so far, the store -/
theorem run_comp {I : Nat → List D → Sto → Prop} {Q : List D → Sto → Prop} : ∀ (ds : List D) (i : Nat) (acc : List D) (μ : Sto), I i acc μ → acc.length + ds.length ≤ sizeLine →
    (∀ j d acc μ, ds[j]? = some d → I (i + j) acc μ → Run (f d μ) fun y μ1 => match y with | some z => I (i + j + 1) (acc ++ [z]) μ1 | none => I (i + j + 1) acc μ1) → (∀ acc μ, I (i + ds.length) acc μ → Q acc μ) → Run (compL f ds acc μ) Q
  | [], i, acc, μ, h0, _, _, hf => hf acc μ h0
  | d :: ds, i, acc, μ, h0, hl, hs, hf => by
    rw [List.length_cons] at hl
    unfold compL
    refine run_bind ((hs 0 d acc μ rfl h0).mono fun y μ1 q => ?_)
    have nx : ∀ acc' μ', acc'.length ≤ acc.length + 1 → I (i + 0 + 1) acc' μ' → Run (compL f ds acc' μ') Q := fun acc' μ' hz q =>
      run_comp ds (i + 1) acc' μ' q (by omega) (fun j d acc μ e hI => by
        have := hs (j + 1) d acc μ e (by rw [show i + (j + 1) = i + 1 + j by omega]; exact hI)
        rw [show i + (j + 1) + 1 = i + 1 + j + 1 by omega] at this
        exact this) fun acc μ hI => hf acc μ (by rw [show i + (d :: ds).length = i + 1 + ds.length by rw [List.length_cons]; omega]; exact hI)
    cases y with
    | none => exact nx acc μ1 (Nat.le_succ _) q
    | some z =>
      show Run ((if acc.length < sizeLine then compL f ds (acc ++ [z]) else stuck) μ1) Q
      rw [if_pos (by omega)]
      exact nx (acc ++ [z]) μ1 (by rw [List.length_append]; exact Nat.le_refl _) q
theorem run_noX {α : Type} {x : M α} {Q : α → Sto → Prop} (h : Run (x μ) Q) : Run (noX x μ) Q := by
  obtain ⟨a, μ1, e, q⟩ := h.out
  unfold noX
  rw [e]
  exact q
theorem noX_ok {α : Type} {x : M α} {a : α} {μ' : Sto} (h : x μ = .ok a μ') : noX x μ = .ok a μ' := by
  unfold noX
  rw [h]
end
end Pu

set_option Elab.async false
set_option linter.all false
set_option maxRecDepth 100000
/-! Pu40: statements with what comes behind them (continuations): a def's run without ends of statements. -/
namespace Pu
open PySem L2
/-! ### the run of statements raises nothing by itself -/
def NX (x : M Fl) : Prop := ∀ μ e μ', x μ ≠ .exc e μ'
theorem nx_yes {fl : Fl} : NX (yes fl) := fun μ e μ' h => nomatch h
theorem nx_stuck : NX stuck := fun μ e μ' h => nomatch h
theorem nx_with {α : Type} {ρ : Sl} {x : M α} {k : α → M Fl} (h : ∀ a, NX (k a)) : NX (withX ρ x k) := by
  intro μ e μ' z
  unfold withX at z
  cases q : x μ with
  | ok a μ1 => rw [q] at z; exact h a _ _ _ z
  | exc e1 μ1 => rw [q] at z; nomatch z
  | stuck => rw [q] at z; nomatch z
theorem nx_bind {α : Type} {x : M α} {k : α → M Fl} (hx : ∀ μ e μ', x μ ≠ .exc e μ') (h : ∀ a, NX (k a)) : NX (x >>= k) := by
  intro μ e μ' z
  have z : M.bind x k μ = .exc e μ' := z
  unfold M.bind at z
  cases q : x μ with
  | ok a μ1 => rw [q] at z; exact h a _ _ _ z
  | exc e1 μ1 => exact hx _ _ _ q
  | stuck => rw [q] at z; nomatch z
theorem nx_if {c : Prop} [Decidable c] {x y : M Fl} (hx : NX x) (hy : NX y) : NX (if c then x else y) := by
  by_cases h : c
  · rw [if_pos h]; exact hx
  · rw [if_neg h]; exact hy
theorem nx_storeN {G : Ctx} {x : Str} {d : D} {ρ : Sl} : NX (storeN G x d ρ) := by
  intro μ e μ' z
  unfold storeN at z
  split at z <;> nomatch z
theorem nx_storeT {G : Ctx} {x : Expr} {d : D} {ρ : Sl} : NX (storeT G x d ρ) := by
  intro μ e μ' z
  unfold storeT at z
  split at z <;> nomatch z
theorem nx_store2 {G : Ctx} {x y : Str} {d : List D} {ρ : Sl} : NX (store2 G x y d ρ) := by
  intro μ e μ' z
  unfold store2 at z
  split at z
  · split at z <;> nomatch z
  · nomatch z
theorem nx_store3 {G : Ctx} {x y w : Str} {d : List D} {ρ : Sl} : NX (store3 G x y w d ρ) := by
  intro μ e μ' z
  unfold store3 at z
  split at z
  · split at z <;> nomatch z
  · nomatch z
theorem nx_swap {r : Dn} {G : Ctx} {ts vs : List Expr} {ρ : Sl} : NX (swapD r G ts vs ρ) := by
  unfold swapD
  split
  · exact nx_if (nx_with fun _ => nx_store2) nx_stuck
  · exact nx_if (nx_with fun _ => nx_store3) nx_stuck
  · exact nx_stuck
theorem nx_loop {G : Ctx} {tg : Expr} {body : Sl → M Fl} (h : ∀ ρ, NX (body ρ)) : ∀ (ds : List D) (ρ : Sl), NX (loopD G tg body ds ρ)
  | [], ρ => nx_yes
  | d :: ds, ρ => by
    unfold loopD
    split
    · exact nx_stuck
    · refine nx_bind (h _) fun fl => ?_
      cases fl with
      | next ρ' => exact nx_loop h ds ρ'
      | cont ρ' => exact nx_loop h ds ρ'
      | _ => exact nx_yes
theorem nx_wh {r : Dn} {G : Ctx} {c : Expr} {body : List Stmt} (h : ∀ ρ, NX (r.s G body ρ)) : ∀ (n : Nat) (ρ : Sl), NX (whD r G c body n ρ)
  | 0, ρ => nx_stuck
  | n + 1, ρ => by
    unfold whD
    refine nx_with fun k => ?_
    cases k with
    | false => exact nx_yes
    | true =>
      refine nx_bind (h _) fun fl => ?_
      cases fl with
      | next ρ' => exact nx_wh h n ρ'
      | cont ρ' => exact nx_wh h n ρ'
      | _ => exact nx_yes
theorem nx_catK {r : Dn} {G : Ctx} {c : Str} {ss : List Stmt} {e : Ex} {ρ : Sl} (h : ∀ G ss ρ, NX (r.s G ss ρ)) : NX (catK r G c ss e ρ) := by
  unfold catK
  split
  · intro μ e μ' z
    unfold noF at z
    split at z
    · nomatch z
    · exact h _ _ _ _ _ _ z
  · exact nx_yes
  · exact nx_stuck
theorem nx_try {r : Dn} {G : Ctx} {body : List Stmt} {hs : List ExceptHandler} {ρ : Sl} (h : ∀ G ss ρ, NX (r.s G ss ρ)) : NX (tryD r G body hs ρ) := by
  unfold tryD
  split
  · refine nx_if ?_ nx_stuck
    intro μ e μ' z
    unfold catchD at z
    split at z
    · exact nx_catK h _ _ _ z
    · exact h _ _ _ _ _ _ z
  · exact nx_stuck
theorem nx_stm {r : Dn} {G : Ctx} (h : ∀ G ss ρ, NX (r.s G ss ρ)) (st : Stmt) (ρ : Sl) : NX (stmD r G st ρ) := by
  unfold stmD
  split
  · exact nx_yes
  · exact nx_yes
  · exact nx_yes
  · exact nx_if (nx_with fun _ => nx_yes) nx_stuck
  · exact nx_with fun _ => nx_yes
  · exact nx_yes
  · refine nx_with fun k => ?_
    cases k with
    | true => exact h _ _ _
    | false => exact h _ _ _
  · unfold asgD
    split
    · unfold asgN
      refine nx_if ?_ nx_stuck
      unfold asgN1
      split
      · exact nx_with fun _ => nx_storeN
      · exact nx_stuck
      · exact nx_with fun _ => nx_storeN
      · exact nx_with fun _ => nx_storeN
    · refine nx_if ?_ nx_stuck
      unfold asgT
      split
      · exact nx_if (nx_with fun _ => nx_storeT) (nx_if nx_swap nx_stuck)
      · exact nx_stuck
      · exact nx_stuck
      · exact nx_stuck
      · exact nx_with fun _ => nx_storeT
    · exact nx_if (nx_with fun _ => nx_yes) nx_stuck
    · exact nx_if (nx_with fun _ => nx_yes) nx_stuck
    · exact nx_if (nx_with fun _ => nx_yes) nx_stuck
    · exact nx_stuck
  · unfold augD
    split
    · exact nx_if (nx_with fun _ => nx_yes) nx_stuck
    · exact nx_if (nx_with fun _ => nx_storeN) nx_stuck
    · exact nx_stuck
  · unfold forD
    exact nx_if (nx_with fun ds => nx_loop (fun ρ => h _ _ ρ) ds ρ) nx_stuck
  · exact nx_wh (fun ρ => h _ _ ρ) _ _
  · unfold raiseD
    split
    · exact nx_if nx_yes nx_stuck
    · exact nx_stuck
  · exact nx_try h
  · exact nx_stuck
theorem nx_sD {r : Dn} {G : Ctx} (h : ∀ G ss ρ, NX (r.s G ss ρ)) : ∀ (ss : List Stmt) (ρ : Sl), NX (sD r G ss ρ)
  | [], ρ => nx_yes
  | st :: ss, ρ => by
    unfold sD
    refine nx_bind (nx_stm h st ρ) fun fl => ?_
    cases fl with
    | next ρ' => exact nx_sD h ss ρ'
    | _ => exact nx_yes
theorem nx_den : ∀ (n : Nat) (G : Ctx) (ss : List Stmt) (ρ : Sl), NX ((den n).s G ss ρ)
  | 0, _, _, _ => nx_stuck
  | n + 1, G, ss, ρ => nx_sD (nx_den n) ss ρ

/-! ### what comes behind -/
def flK (k kb kc : Sl → M D) : Fl → M D
  | .next ρ => k ρ
  | .brk ρ => kb ρ
  | .cont ρ => kc ρ
  | .ret d => yes d
  | .exc e _ => raise e
def cL (u : D → Sl → Option Sl) (body : Sl → (Sl → M D) → M D) (K : Sl → M D) : List D → Sl → M D
  | [], ρ => K ρ
  | d :: ds, ρ => match u d ρ with
    | none => stuck
    | some ρ1 => body ρ1 (fun ρ' => cL u body K ds ρ')
def cW (t : Sl → M Bool) (body : Sl → (Sl → M D) → M D) (K : Sl → M D) : Nat → Sl → M D
  | 0, _ => stuck
  | n + 1, ρ => t ρ >>= fun q => match q with
    | false => K ρ
    | true => body ρ (fun ρ' => cW t body K n ρ')
abbrev CS := Ctx → List Stmt → Sl → (Sl → M D) → (Sl → M D) → (Sl → M D) → M D
def stK (o : Option Sl) (K : Sl → M D) : M D := match o with
  | some ρ => K ρ
  | none => stuck
def asgV (r : Dn) (G : Ctx) (e : Expr) (ρ : Sl) : M D := match e with
  | .ListComp elt gs sc pos => lcX r G elt gs sc pos ρ
  | .SetComp _ _ _ _ => stuck
  | .DictComp kx vx gs sc _ => dcX r G kx vx gs sc ρ
  | e => r.e G e ρ
/-- a, b = e, f: both stored at once -/
def cS2 (G : Ctx) (x y : Str) (ds : List D) (ρ : Sl) (K : Sl → M D) : M D := match ds with
  | [d1, d2] => stK ((gN G x d1 ρ).bind fun ρ1 => gN G y d2 ρ1) K
  | _ => stuck
def cS3 (G : Ctx) (x y z : Str) (ds : List D) (ρ : Sl) (K : Sl → M D) : M D := match ds with
  | [d1, d2, d3] => stK ((gN G x d1 ρ).bind fun ρ1 => (gN G y d2 ρ1).bind fun ρ2 => gN G z d3 ρ2) K
  | _ => stuck
def cSw (r : Dn) (G : Ctx) (ts vs : List Expr) (ρ : Sl) (K : Sl → M D) : M D := match ts, vs with
  | [.Name x _, .Name y _], [a, b] => if G.N.idxOf x ≠ G.N.idxOf y ∧ G.sc.names.lookup x = some .local ∧ G.sc.names.lookup y = some .local ∧ noStar [a, b] = true ∧ canN G x = true ∧ canN G y = true ∧ swNames G.sc ((ts.head?.map (·.pos.line)).getD 0) ts = [x, y] then (aD r G [a, b] ρ >>= fun ds => cS2 G x y ds ρ K) else stuck
  | [.Name x _, .Name y _, .Name z _], [a, b, c] => if (G.N.idxOf x ≠ G.N.idxOf y ∧ G.N.idxOf x ≠ G.N.idxOf z ∧ G.N.idxOf y ≠ G.N.idxOf z) ∧ (G.sc.names.lookup x = some .local ∧ G.sc.names.lookup y = some .local ∧ G.sc.names.lookup z = some .local) ∧ noStar [a, b, c] = true ∧ (canN G x = true ∧ canN G y = true ∧ canN G z = true) ∧ swNames G.sc ((ts.head?.map (·.pos.line)).getD 0) ts = [x, y, z] then (aD r G [a, b, c] ρ >>= fun ds => cS3 G x y z ds ρ K) else stuck
  | _, _ => stuck
def cT (r : Dn) (G : Ctx) (tg : Expr) (ts : List Expr) (e : Expr) (ρ : Sl) (K : Sl → M D) : M D := match e with
  | .Tuple vs _ _ => if swKind G.sc ts vs = 0 then (r.e G e ρ >>= fun d => stK (gD G tg d ρ) K) else if swKind G.sc ts vs = 1 then cSw r G ts vs ρ K else stuck
  | .ListComp _ _ _ _ => stuck
  | .SetComp _ _ _ _ => stuck
  | .DictComp _ _ _ _ _ => stuck
  | e => r.e G e ρ >>= fun d => stK (gD G tg d ρ) K
def cst (c : CS) (r : Dn) (G : Ctx) (st : Stmt) (ρ : Sl) (K kb kc : Sl → M D) : M D := match st with
  | .Expr e _ => if isComp e = false then (r.e G e ρ >>= fun _ => K ρ) else stuck
  | .Return (some e) _ => r.e G e ρ
  | .If q a b _ => r.t G q ρ >>= fun x => match x with
    | true => c G a ρ K kb kc
    | false => c G b ρ K kb kc
  | .Assign [.Name x _] e _ => if canN G x = true then (asgV r G e ρ >>= fun d => stK (gN G x d ρ) K) else stuck
  | .Assign [.Tuple ts k p] e _ => if G.hot = false then cT r G (.Tuple ts k p) ts e ρ K else stuck
  | .Assign [.Attribute o f _] e _ => if isComp e = false then (r.e G e ρ >>= fun v => r.e G o ρ >>= fun x => fldD G f x v >>= fun _ => K ρ) else stuck
  | .Assign [.Subscript o (.Tuple es _ _) _] e _ => if isComp e = false ∧ noStar es = true then (r.e G e ρ >>= fun v => r.e G o ρ >>= fun x => aD r G es ρ >>= fun ds => setT x ds v >>= fun _ => K ρ) else stuck
  | .Assign [.Subscript o i _] e _ => if isComp e = false ∧ isSlice i = false then (r.e G e ρ >>= fun v => r.e G o ρ >>= fun x => r.e G i ρ >>= fun k => setD x k v >>= fun _ => K ρ) else stuck
  | .AugAssign (.Subscript o i _) .Add e _ => if isSlice i = false then (r.e G o ρ >>= fun x => r.e G i ρ >>= fun k => getC x k >>= fun a => r.e G e ρ >>= fun v => addI a v >>= fun b => setD x k b >>= fun _ => K ρ) else stuck
  | .AugAssign (.Name x _) .Add e _ => if canN G x = true then (slot (G.N.idxOf x) ρ >>= fun a => r.e G e ρ >>= fun v => addI a v >>= fun d => stK (gN G x d ρ) K) else stuck
  | .For tg iter body [] _ => if G.hot = false ∧ notSet iter = true then (iD r G tg iter ρ >>= fun ds => cL (gD G tg) (fun ρ1 k => c G body ρ1 k K k) K ds ρ) else stuck
  | .While q body [] _ => cW (r.t G q) (fun ρ1 k => c G body ρ1 k K k) K 1000000 ρ
  | st => stmD r G st ρ >>= flK K kb kc
def cS1 (c : CS) (r : Dn) (G : Ctx) : List Stmt → Sl → (Sl → M D) → (Sl → M D) → (Sl → M D) → M D
  | [], ρ, k, _, _ => k ρ
  | st :: rest, ρ, k, kb, kc => cst c r G st ρ (fun ρ' => cS1 c r G rest ρ' k kb kc) kb kc
def cS : Nat → CS
  | 0 => fun _ _ _ _ _ _ => stuck
  | n + 1 => fun G ss ρ k kb kc => cS1 (cS n) (den n) G ss ρ k kb kc

theorem m_bind_ap {α β : Type} (x : M α) (f : α → M β) (μ : Sto) : (x >>= f) μ = M.bind x f μ := rfl
theorem m_assoc {α β γ : Type} (x : M α) (f : α → M β) (g : β → M γ) : ((x >>= f) >>= g) = (x >>= fun a => f a >>= g) := by
  funext μ
  show M.bind (M.bind x f) g μ = M.bind x (fun a => M.bind (f a) g) μ
  unfold M.bind
  cases x μ <;> rfl
theorem stuck_bind {α β : Type} (f : α → M β) : ((stuck : M α) >>= f) = stuck := rfl
theorem yes_bind {α β : Type} (a : α) (f : α → M β) : (yes a >>= f) = f a := rfl
theorem with_flK {α : Type} {ρ : Sl} {x : M α} {k : α → M Fl} {K kb kc : Sl → M D} : (withX ρ x k >>= flK K kb kc) = (x >>= fun a => k a >>= flK K kb kc) := by
  funext μ
  show M.bind (withX ρ x k) _ μ = M.bind x (fun a => M.bind (k a) _) μ
  unfold M.bind withX
  cases x μ <;> rfl
theorem ite_bind {α β : Type} {c : Prop} [Decidable c] (x : M α) (f : α → M β) : ((if c then x else stuck) >>= f) = if c then (x >>= f) else stuck := by
  by_cases h : c
  · rw [if_pos h, if_pos h]
  · rw [if_neg h, if_neg h]; rfl
section
variable {r : Dn} {c : CS} {G : Ctx} {K kb kc : Sl → M D}
theorem loop_flK {tg : Expr} {body : Sl → M Fl} {cb : Sl → (Sl → M D) → (Sl → M D) → (Sl → M D) → M D} (h : ∀ ρ k kb kc, (body ρ >>= flK k kb kc) = cb ρ k kb kc) : ∀ (ds : List D) (ρ : Sl), (loopD G tg body ds ρ >>= flK K kb kc) = cL (gD G tg) (fun ρ1 k => cb ρ1 k K k) K ds ρ
  | [], ρ => rfl
  | d :: ds, ρ => by
    unfold loopD cL
    cases gD G tg d ρ with
    | none => rfl
    | some ρ1 =>
      show ((body ρ1 >>= _) >>= flK K kb kc) = cb ρ1 _ K _
      rw [m_assoc, ← h]
      refine congrArg _ (funext fun fl => ?_)
      cases fl with
      | next ρ' => exact loop_flK h ds ρ'
      | cont ρ' => exact loop_flK h ds ρ'
      | brk ρ' => rfl
      | ret d => rfl
      | exc e ρ' => rfl
theorem wh_flK {q : Expr} {body : List Stmt} (h : ∀ G ss ρ k kb kc, (r.s G ss ρ >>= flK k kb kc) = c G ss ρ k kb kc) : ∀ (n : Nat) (ρ : Sl), (whD r G q body n ρ >>= flK K kb kc) = cW (r.t G q) (fun ρ1 k => c G body ρ1 k K k) K n ρ
  | 0, ρ => rfl
  | n + 1, ρ => by
    unfold whD cW
    rw [with_flK]
    refine congrArg _ (funext fun b => ?_)
    cases b with
    | false => rfl
    | true =>
      show ((r.s G body ρ >>= _) >>= flK K kb kc) = c G body ρ _ K _
      rw [m_assoc, ← h]
      refine congrArg _ (funext fun fl => ?_)
      cases fl with
      | next ρ' => exact wh_flK h n ρ'
      | cont ρ' => exact wh_flK h n ρ'
      | brk ρ' => rfl
      | ret d => rfl
      | exc e ρ' => rfl
theorem storeN_flK {x : Str} {d : D} {ρ : Sl} : (storeN G x d ρ >>= flK K kb kc) = stK (gN G x d ρ) K := by
  funext μ
  show M.bind (storeN G x d ρ) _ μ = _
  unfold M.bind storeN stK
  cases gN G x d ρ <;> rfl
theorem storeT_flK {tg : Expr} {d : D} {ρ : Sl} : (storeT G tg d ρ >>= flK K kb kc) = stK (gD G tg d ρ) K := by
  funext μ
  show M.bind (storeT G tg d ρ) _ μ = _
  unfold M.bind storeT stK
  cases gD G tg d ρ <;> rfl
theorem opt_flK {o : Option Sl} : ((fun μ => match o with | some ρ' => R.ok (Fl.next ρ') μ | none => .stuck : M Fl) >>= flK K kb kc) = stK o K := by
  cases o <;> rfl
theorem store2_flK {x y : Str} {ds : List D} {ρ : Sl} : (store2 G x y ds ρ >>= flK K kb kc) = cS2 G x y ds ρ K := by
  match ds with
  | [] => rfl
  | [_] => rfl
  | [d1, d2] => exact opt_flK (o := (gN G x d1 ρ).bind fun ρ1 => gN G y d2 ρ1)
  | _ :: _ :: _ :: _ => rfl
theorem store3_flK {x y w : Str} {ds : List D} {ρ : Sl} : (store3 G x y w ds ρ >>= flK K kb kc) = cS3 G x y w ds ρ K := by
  match ds with
  | [] => rfl
  | [_] => rfl
  | [_, _] => rfl
  | [d1, d2, d3] => exact opt_flK (o := (gN G x d1 ρ).bind fun ρ1 => (gN G y d2 ρ1).bind fun ρ2 => gN G w d3 ρ2)
  | _ :: _ :: _ :: _ :: _ => rfl
theorem swap_flK {ts vs : List Expr} {ρ : Sl} : (swapD r G ts vs ρ >>= flK K kb kc) = cSw r G ts vs ρ K := by
  unfold swapD cSw
  split
  · rw [ite_bind, with_flK]
    exact congrArg (fun z => ite _ z stuck) (congrArg _ (funext fun d => store2_flK))
  · rw [ite_bind, with_flK]
    exact congrArg (fun z => ite _ z stuck) (congrArg _ (funext fun d => store3_flK))
  · rename_i h1 h2
    first
    | exact stuck_bind _
    | (split
       · exact (h1 _ _ _ _ _ _ rfl rfl).elim
       · exact (h2 _ _ _ _ _ _ _ _ _ rfl rfl).elim
       · rfl)
theorem stm_flK (h : ∀ G ss ρ k kb kc, (r.s G ss ρ >>= flK k kb kc) = c G ss ρ k kb kc) (st : Stmt) (ρ : Sl) : (stmD r G st ρ >>= flK K kb kc) = cst c r G st ρ K kb kc := by
  unfold cst
  split
  · show ((if _ then _ else stuck) >>= _) = _
    rw [ite_bind, with_flK]
    rfl
  · show (withX _ _ _ >>= _) = _
    rw [with_flK]
    funext μ
    show M.bind (r.e G _ ρ) _ μ = _
    unfold M.bind
    cases q : r.e G _ ρ μ <;> rfl
  · rename_i e a b p
    show (withX _ _ _ >>= _) = _
    rw [with_flK]
    refine congrArg _ (funext fun k => ?_)
    cases k with
    | true => exact h _ _ _ _ _ _
    | false => exact h _ _ _ _ _ _
  · rename_i x p e p2
    show (asgN r G x e ρ >>= _) = _
    unfold asgN
    rw [ite_bind]
    refine congrArg (fun z => if canN G x = true then z else stuck) ?_
    have gen : ∀ X : M D, (withX ρ X (fun d => storeN G x d ρ) >>= flK K kb kc) = (X >>= fun d => stK (gN G x d ρ) K) := fun X => by
      rw [with_flK]; exact congrArg _ (funext fun d => storeN_flK)
    cases e <;> first | exact gen _ | rfl
  · rename_i ts k p e p2
    show ((if G.hot = false then asgT r G (.Tuple ts k p) ts e ρ else stuck) >>= _) = _
    rw [ite_bind]
    refine congrArg (fun z => if G.hot = false then z else stuck) ?_
    have gen : ∀ X : M D, (withX ρ X (fun d => storeT G (.Tuple ts k p) d ρ) >>= flK K kb kc) = (X >>= fun d => stK (gD G (.Tuple ts k p) d ρ) K) := fun X => by
      rw [with_flK]; exact congrArg _ (funext fun d => storeT_flK)
    cases e with
    | Tuple vs k2 p3 =>
      show ((if swKind G.sc ts vs = 0 then _ else _) >>= _) = (if swKind G.sc ts vs = 0 then _ else _)
      by_cases h1 : swKind G.sc ts vs = 0
      · rw [if_pos h1, if_pos h1]; exact gen _
      · rw [if_neg h1, if_neg h1]
        by_cases h2 : swKind G.sc ts vs = 1
        · rw [if_pos h2, if_pos h2]; exact swap_flK
        · rw [if_neg h2, if_neg h2]; rfl
    | ListComp _ _ _ _ => rfl
    | SetComp _ _ _ _ => rfl
    | DictComp _ _ _ _ _ => rfl
    | _ => exact gen _
  · show ((if _ then _ else stuck) >>= _) = _
    rw [ite_bind, with_flK, m_assoc]
    refine congrArg (fun z => if isComp _ = false then z else stuck) (congrArg _ (funext fun v => ?_))
    rw [m_assoc]
    rfl
  · show ((if _ then _ else stuck) >>= _) = _
    rw [ite_bind, with_flK, m_assoc]
    refine congrArg (fun z => if isComp _ = false ∧ noStar _ = true then z else stuck) (congrArg _ (funext fun v => ?_))
    rw [m_assoc]
    refine congrArg _ (funext fun x => ?_)
    rw [m_assoc]
    rfl
  · rename_i o i p e p2 hne
    have e0 : stmD r G (.Assign [.Subscript o i p] e p2) ρ = (if isComp e = false ∧ isSlice i = false then withX ρ (do let v ← r.e G e ρ; let x ← r.e G o ρ; let k ← r.e G i ρ; setD x k v) (fun _ => yes (.next ρ)) else stuck) := by
      show asgD r G (.Subscript o i p) e ρ = _
      cases i <;> first | rfl | exact absurd rfl (hne _ _ _)
    rw [e0, ite_bind, with_flK, m_assoc]
    refine congrArg (fun z => if isComp _ = false ∧ isSlice _ = false then z else stuck) (congrArg _ (funext fun v => ?_))
    rw [m_assoc]
    refine congrArg _ (funext fun x => ?_)
    rw [m_assoc]
    rfl
  · rename_i o i p e p2
    show ((if isSlice i = false then _ else stuck) >>= _) = _
    rw [ite_bind, with_flK, m_assoc]
    refine congrArg (fun z => if isSlice i = false then z else stuck) (congrArg _ (funext fun x => ?_))
    rw [m_assoc]
    refine congrArg _ (funext fun k => ?_)
    rw [m_assoc]
    refine congrArg _ (funext fun a => ?_)
    rw [m_assoc]
    refine congrArg _ (funext fun v => ?_)
    rw [m_assoc]
    rfl
  · rename_i x p e p2
    show ((if canN G x = true then _ else stuck) >>= _) = _
    rw [ite_bind, with_flK, m_assoc]
    refine congrArg (fun z => if canN G x = true then z else stuck) (congrArg _ (funext fun a => ?_))
    rw [m_assoc]
    refine congrArg _ (funext fun v => ?_)
    exact congrArg _ (funext fun d => storeN_flK)
  · rename_i tg iter body p
    show (forD r G tg iter body ρ >>= _) = _
    unfold forD
    rw [ite_bind, with_flK]
    refine congrArg (fun z => if G.hot = false ∧ notSet iter = true then z else stuck) (congrArg _ (funext fun ds => ?_))
    exact loop_flK (cb := c G body) (fun ρ k kb kc => h _ _ _ _ _ _) ds ρ
  · rename_i q body p
    exact wh_flK h 1000000 ρ
  · rfl
theorem sD_flK (h : ∀ G ss ρ k kb kc, (r.s G ss ρ >>= flK k kb kc) = c G ss ρ k kb kc) : ∀ (ss : List Stmt) (ρ : Sl), (sD r G ss ρ >>= flK K kb kc) = cS1 c r G ss ρ K kb kc
  | [], ρ => rfl
  | st :: ss, ρ => by
    unfold sD cS1
    rw [m_assoc, ← stm_flK h]
    refine congrArg _ (funext fun fl => ?_)
    cases fl with
    | next ρ' => exact sD_flK h ss ρ'
    | cont ρ' => rfl
    | brk ρ' => rfl
    | ret d => rfl
    | exc e ρ' => rfl
end
theorem den_flK : ∀ (n : Nat) (G : Ctx) (ss : List Stmt) (ρ : Sl) (k kb kc : Sl → M D), ((den n).s G ss ρ >>= flK k kb kc) = cS n G ss ρ k kb kc
  | 0, _, _, _, _, _, _ => rfl
  | n + 1, G, ss, ρ, k, kb, kc => sD_flK (r := den n) (c := cS n) (den_flK n) ss ρ
def fin0 : Sl → M D := fun _ => yes .non
def fin1 : Sl → M D := fun _ => stuck
/-- a def's run -/
theorem def_cS (n : Nat) (G : Ctx) (body : List Stmt) (ds : List D) : defD n G body ds = cS n G body (begin G.N ds) fin0 fin1 fin1 := by
  rw [← den_flK]
  funext μ
  unfold defD endD
  show _ = M.bind _ _ μ
  unfold M.bind
  have nx := nx_den n G body (begin G.N ds) μ
  cases q : (den n).s G body (begin G.N ds) μ with
  | stuck => rfl
  | exc e μ' => exact absurd q (nx e μ')
  | ok fl μ' => cases fl <;> rfl
end Pu

set_option Elab.async false
set_option linter.all false
set_option maxRecDepth 100000
/-! Pu41: pieces that the printed plain forms of defs are made of, and how they run. -/
namespace Pu
open PySem L2
/-! ### pieces -/
/-- what comes behind is not looked into by simp: the type of what comes first names it -/
abbrev Tg {β : Sort _} (_ : β) (γ : Type) : Type := γ
def bIf {α : Type} (a b : M α) (k : Tg (a, b) Bool) : M α := match (k : Bool) with
  | true => a
  | false => b
def bAnd (x : D) (m : M D) (k : Tg (x, m) Bool) : M D := match (k : Bool) with
  | true => m
  | false => yes x
def bOr (x : D) (m : M D) (k : Tg (x, m) Bool) : M D := match (k : Bool) with
  | true => yes x
  | false => m
def tAnd (m : M Bool) (k : Tg m Bool) : M Bool := match (k : Bool) with
  | true => m
  | false => yes false
def tOr (m : M Bool) (k : Tg m Bool) : M Bool := match (k : Bool) with
  | true => yes true
  | false => m
def chS (m : M D) (z : Tg m D) : M D := match (z : D) with
  | .bl true => m
  | .bl false => yes (.bl false)
  | _ => stuck
def cN (n : Nat) (F : List D → M D) (ds : List D) : M D := if ds.length = n then F ds else stuck
def cO (n : Nat) (F : List D → M D) (d : D) (ds : List D) : M D := if ds.length = n then F (d :: ds) else stuck
def mkS (C : Str) (keep : Bool) (n : Nat) (F : List D → M D) (ds : List D) : M D := if ds.length = n then (newO C >>= fun i => F (.cell i :: ds) >>= fun d => madeD keep i d) else stuck
def turnS (u : D → Sl → Option Sl) (t : Sl → M Bool) (el : Sl → M D) (ρ : Sl) (d : D) : M (Option D) := match u d ρ with
  | some ρ' => t ρ' >>= fun b => if b then (el ρ' >>= fun y => yes (some y)) else yes none
  | none => stuck
def leafS (el : Sl → M D) (ρ : Sl) (acc : List D) : M (List D) := el ρ >>= fun y => if acc.length < sizeLine then yes (acc ++ [y]) else stuck
def putA (acc : List (Key × D)) (x y : D) : M (List (Key × D)) := fun μ => match keyOf x with
  | some k => if acc.length < sizeLine then .ok (putD acc k y) μ else .stuck
  | none => .stuck
def leafDS (kx vx : Sl → M D) (ρ : Sl) (acc : List (Key × D)) : M (List (Key × D)) := kx ρ >>= fun x => vx ρ >>= fun y => putA acc x y
def innS {α : Type} (it : Sl → M (List D)) (vs : List Nat) (u : D → Sl → Option Sl) (t : Sl → M Bool) (body : Sl → α → M α) (ρ : Sl) (a : α) : M α := it ρ >>= fun ds => clS u t body (wipeL ρ vs) ds a
def rg1 (d : D) : M (List D) := fun μ => match d with
  | .int j => if -(2 ^ 62) ≤ j ∧ j < 2 ^ 62 then .ok (rangeL 0 j.toNat) μ else .stuck
  | _ => .stuck
def rg2 (d e : D) : M (List D) := fun μ => match d, e with
  | .int i, .int j => if -(2 ^ 62) ≤ i ∧ i < 2 ^ 62 ∧ -(2 ^ 62) ≤ j ∧ j < 2 ^ 62 then .ok (rangeL i (j - i).toNat) μ else .stuck
  | _, _ => .stuck
def itmS (d : D) : M (List D) := fun μ => match d with
  | .dic kvs => .ok (pairsOf kvs) μ
  | _ => .stuck
def prt (d : D) : M (Option Int) := fun μ => match d with
  | .int i => .ok (some i) μ
  | _ => .stuck
def pairK (x y : D) (l : List (Key × D)) : M (List (Key × D)) := fun μ => match keyOf x with
  | some q => .ok ((q, y) :: l) μ
  | none => .stuck
def newC (o : MO) : M D := fun μ => .ok (.cell μ.length) (μ ++ [o])
/-- a method: of an instance, of a class, of a list or a text -/
def mthS (eo : M D) (inst : Str → List (Str × D) → D → M D) (cm : Str → M D) (oth : M D) : M D := fun μ => match eo μ with
  | .ok d μ1 => (match asO μ1 d with
    | some (C, fs) => inst C fs d μ1
    | none => match asC d with
      | some C => cm C μ1
      | none => oth μ)
  | .exc _ _ => oth μ
  | .stuck => oth μ
def pkS (ea : M D) (p : Sto → D → Bool) (x y : M D) : M D := fun μ => match ea μ with
  | .ok d μ1 => (if p μ1 d = true then x else y) μ
  | _ => y μ
def s2K (ds : List D) (f : D → D → M D) : M D := match ds with
  | [a, b] => f a b
  | _ => stuck
def s3K (ds : List D) (f : D → D → D → M D) : M D := match ds with
  | [a, b, c] => f a b c
  | _ => stuck
def sK (K : Sl → M D) (ρ : Tg K Sl) : M D := K ρ
def ptS (acc : Str) (d : D) (k : Str → M Str) : M Str := isStr d >>= fun y => if (acc ++ y).length ≤ sizeLine then k (acc ++ y) else stuck
def mInst (G : Ctx) (m : Str) (A : M (List D)) (C : Str) (fs : List (Str × D)) (d : D) : M D := match G.meth C m with
  | some (n, F) => if fs.lookup m = none then (A >>= fun ds => cO n F d ds) else stuck
  | none => stuck
def mCls (G : Ctx) (m : Str) (A : M (List D)) (C : Str) : M D := match G.cmeth C m with
  | some (n, F) => A >>= fun ds => cO n F (.adr C) ds
  | none => stuck
def cvS (G : Ctx) (keep : Bool) (A : M (List D)) (d : D) : M D := match asP d with
  | some C => (match G.dun C "__call__" with
    | some (n, F) => A >>= fun ds => cO n F d ds
    | none => stuck)
  | none => match asC d with
    | some C => (match G.make C with
      | some (n, F) => A >>= fun ds => mkS C keep n F ds
      | none => stuck)
    | none => stuck
def nxt : Sl → M Bool := fun _ => yes true

/-! ### how they run -/
def rb {α β : Type} (f : α → M β) (x : Tg f (R α)) : R β := match (x : R α) with
  | .ok a μ => f a μ
  | .exc e μ => .exc e μ
  | .stuck => .stuck
section
variable {α β : Type} {μ : Sto} {ρ : Sl}
@[simp] theorem rb_ok {a : α} {f : α → M β} : rb f (.ok a μ) = f a μ := (rfl)
@[simp] theorem rb_exc {e : Ex} {f : α → M β} : rb f (.exc e μ) = .exc e μ := (rfl)
@[simp] theorem rb_stuck {f : α → M β} : rb f .stuck = .stuck := (rfl)
@[simp ↓] theorem bind_ap {x : M α} {f : α → M β} : (x >>= f) μ = rb f (x μ) := by
  show M.bind x f μ = _
  unfold M.bind rb
  cases x μ <;> rfl
@[simp] theorem yes_ap {a : α} : yes a μ = .ok a μ := (rfl)
@[simp] theorem raise_ap {e : Ex} : (raise e : M α) μ = .exc e μ := (rfl)
@[simp] theorem stuck_ap : (stuck : M α) μ = .stuck := (rfl)
@[simp] theorem slot_z {d : D} : slot 0 (some d :: ρ) μ = .ok d μ := (rfl)
@[simp] theorem slot_s {v : Option D} {n : Nat} : slot (n + 1) (v :: ρ) μ = slot n ρ μ := (rfl)
@[simp] theorem wipe_n : wipeL ρ [] = ρ := (rfl)
@[simp] theorem wipe_c {v : Nat} {vs : List Nat} : wipeL ρ (v :: vs) = (wipeL ρ vs).set v none := (rfl)
@[simp] theorem bIf_t {a b : M α} : bIf a b true = a := (rfl)
@[simp] theorem bIf_f {a b : M α} : bIf a b false = b := (rfl)
@[simp] theorem bAnd_t {a : D} {b : M D} : bAnd a b true = b := (rfl)
@[simp] theorem bAnd_f {a : D} {b : M D} : bAnd a b false = yes a := (rfl)
@[simp] theorem bOr_t {a : D} {b : M D} : bOr a b true = yes a := (rfl)
@[simp] theorem bOr_f {a : D} {b : M D} : bOr a b false = b := (rfl)
@[simp] theorem tAnd_t {b : M Bool} : tAnd b true = b := (rfl)
@[simp] theorem tAnd_f {b : M Bool} : tAnd b false = yes false := (rfl)
@[simp] theorem tOr_t {b : M Bool} : tOr b true = yes true := (rfl)
@[simp] theorem tOr_f {b : M Bool} : tOr b false = b := (rfl)
@[simp] theorem chS_t {b : M D} : chS b (.bl true) = b := (rfl)
@[simp] theorem chS_f {b : M D} : chS b (.bl false) = yes (.bl false) := (rfl)
@[simp] theorem s2K_ok {a b : D} {f : D → D → M D} : s2K [a, b] f = f a b := (rfl)
@[simp] theorem s3K_ok {a b c : D} {f : D → D → D → M D} : s3K [a, b, c] f = f a b c := (rfl)
@[simp] theorem sK_c {a : Option D} {K : Sl → M D} : sK K (a :: ρ) = K (a :: ρ) := (rfl)
@[simp] theorem stK_some {K : Sl → M D} : stK (some ρ) K = K ρ := (rfl)
@[simp] theorem uT_l {is : List Nat} {ds : List D} : uT (some is) (.lst ds) ρ = uNs is ds ρ := (rfl)
@[simp] theorem uT_t {is : List Nat} {ds : List D} : uT (some is) (.tup ds) ρ = uNs is ds ρ := (rfl)
@[simp] theorem uNs_n : uNs [] [] ρ = some ρ := (rfl)
@[simp] theorem uNs_c {i : Nat} {is : List Nat} {d : D} {ds : List D} : uNs (i :: is) (d :: ds) ρ = uNs is ds (ρ.set i (some d)) := (rfl)
@[simp] theorem cL_n {u : D → Sl → Option Sl} {body : Sl → (Sl → M D) → M D} {K : Sl → M D} : cL u body K [] ρ = K ρ := (rfl)
@[simp] theorem fin0_ap : fin0 ρ = yes .non := (rfl)
@[simp] theorem fin1_ap : fin1 ρ = stuck := (rfl)
@[simp] theorem newC_ap {o : MO} : newC o μ = .ok (.cell μ.length) (μ ++ [o]) := (rfl)
end
/-! ### the primitives at plain data -/
section
variable {μ : Sto} {G : Ctx}
@[simp] theorem asL_lst {ds : List D} : asL μ (.lst ds) = some ds := (rfl)
@[simp] theorem asQ_lst {ds : List D} : asQ μ (.lst ds) = some ds := (rfl)
@[simp] theorem asQ_frz {ds : List D} : asQ μ (.frz ds) = some ds := (rfl)
@[simp] theorem asS_lst {ds : List D} : asS μ (.lst ds) = some ds := (rfl)
@[simp] theorem asS_tup {ds : List D} : asS μ (.tup ds) = some ds := (rfl)
@[simp] theorem asS_frz {ds : List D} : asS μ (.frz ds) = some ds := (rfl)
@[simp] theorem truth_non : truthD .non μ = .ok false μ := (rfl)
@[simp] theorem truth_bl {b : Bool} : truthD (.bl b) μ = .ok b μ := (rfl)
@[simp] theorem truth_int {i : Int} : truthD (.int i) μ = .ok (i != 0) μ := (rfl)
@[simp] theorem asB_bl {b : Bool} : asB (.bl b) μ = .ok b μ := (rfl)
@[simp] theorem notD_bl {b : Bool} : notD (.bl b) μ = .ok (.bl (!b)) μ := (rfl)
@[simp] theorem neg_int {i : Int} : negD (.int i) μ = .ok (.int (-i)) μ := (rfl)
@[simp] theorem add_int {i j : Int} : binD .Add (.int i) (.int j) μ = .ok (.int (i + j)) μ := (rfl)
@[simp] theorem sub_int {i j : Int} : binD .Sub (.int i) (.int j) μ = .ok (.int (i - j)) μ := (rfl)
@[simp] theorem lt_int' {i j : Int} : ltD (.int i) (.int j) μ = .ok (.bl (decide (i < j))) μ := (rfl)
@[simp] theorem le_int' {i j : Int} : leD (.int i) (.int j) μ = .ok (.bl (decide (i ≤ j))) μ := (rfl)
@[simp] theorem gt_int' {i j : Int} : gtD (.int i) (.int j) μ = .ok (.bl (decide (j < i))) μ := (rfl)
@[simp] theorem ge_int' {i j : Int} : geD (.int i) (.int j) μ = .ok (.bl (decide (j ≤ i))) μ := (rfl)
@[simp] theorem lt_str' {i j : Str} : ltD (.str i) (.str j) μ = .ok (.bl (decide (i.cps.toList < j.cps.toList))) μ := (rfl)
@[simp] theorem le_str' {i j : Str} : leD (.str i) (.str j) μ = .ok (.bl (!decide (j.cps.toList < i.cps.toList))) μ := (rfl)
@[simp] theorem eq_int {n : Bool} {i j : Int} : eqO G n (.int i) (.int j) μ = .ok (.bl (if n then !decide (i = j) else decide (i = j))) μ := (rfl)
@[simp] theorem eq_bl {n : Bool} {i j : Bool} : eqO G n (.bl i) (.bl j) μ = .ok (.bl (if n then !decide (i = j) else decide (i = j))) μ := (rfl)
@[simp] theorem eq_str {n : Bool} {i j : Str} : eqO G n (.str i) (.str j) μ = .ok (.bl (if n then !decide (i = j) else decide (i = j))) μ := (rfl)
@[simp] theorem is_non_non {n : Bool} : isND n .non .non μ = .ok (.bl (!n)) μ := (rfl)
@[simp] theorem int_int {i : Int} : intD [.int i] μ = .ok (.int i) μ := (rfl)
@[simp] theorem int_bl {i : Bool} : intD [.bl i] μ = .ok (.int (if i then 1 else 0)) μ := (rfl)
@[simp] theorem abs_int {i : Int} : absD [.int i] μ = .ok (.int (if i < 0 then -i else i)) μ := (rfl)
@[simp] theorem max_int {i j : Int} : max2D [.int i, .int j] μ = .ok (.int (if j > i then j else i)) μ := (rfl)
@[simp] theorem min_int {i j : Int} : min2D [.int i, .int j] μ = .ok (.int (if j < i then j else i)) μ := (rfl)
@[simp] theorem len_lst {ds : List D} : lenO G [.lst ds] μ = .ok (.int ds.length) μ := (rfl)
@[simp] theorem len_tup {ds : List D} : lenO G [.tup ds] μ = .ok (.int ds.length) μ := (rfl)
@[simp] theorem len_frz {ds : List D} : lenO G [.frz ds] μ = .ok (.int ds.length) μ := (rfl)
@[simp] theorem len_dic {ds : List (Key × D)} : lenO G [.dic ds] μ = .ok (.int ds.length) μ := (rfl)
@[simp] theorem list_lst {ds : List D} : listD [.lst ds] μ = .ok (.lst ds) μ := (rfl)
@[simp] theorem list_tup {ds : List D} : listD [.tup ds] μ = .ok (.lst ds) μ := (rfl)
@[simp] theorem tuple_lst {ds : List D} : tupleD [.lst ds] μ = .ok (.tup ds) μ := (rfl)
@[simp] theorem tuple_tup {ds : List D} : tupleD [.tup ds] μ = .ok (.tup ds) μ := (rfl)
@[simp] theorem tupL_ap {ds : List D} (h : ds.length ≤ sizeLine) : tupL ds μ = .ok (.tup ds) μ := if_pos h
@[simp] theorem le_sz {n : Nat} (h : n ≤ 16777216) : n ≤ sizeLine := h
@[simp] theorem lt_sz {n : Nat} (h : n < 16777216) : n < sizeLine := h
@[simp] theorem newL_0 {ds : List D} (h : ds.length ≤ sizeLine) : newL 0 ds μ = .ok (.lst ds) μ := by unfold newL; rw [if_pos h]; rfl
@[simp] theorem newL_1 {ds : List D} (h : ds.length ≤ sizeLine) : newL 1 ds μ = .ok (.cell μ.length) (μ ++ [.lst ds]) := by unfold newL; rw [if_pos h]; rfl
@[simp] theorem fixL_0 {ds : List D} : fixL 0 ds μ = .ok (.lst ds) μ := (rfl)
@[simp] theorem fixL_1 {ds : List D} : fixL 1 ds μ = .ok (.cell μ.length) (μ ++ [.lst ds]) := (rfl)
@[simp] theorem items_lst {ds : List D} : itemsD (.lst ds) μ = .ok ds μ := (rfl)
@[simp] theorem items_tup {ds : List D} : itemsD (.tup ds) μ = .ok ds μ := (rfl)
@[simp] theorem items_frz {ds : List D} : itemsD (.frz ds) μ = .ok ds μ := (rfl)
@[simp] theorem items_str {z : Str} : itemsD (.str z) μ = .ok (signsL z) μ := (rfl)
@[simp] theorem cN_ap {n : Nat} {F : List D → M D} {ds : List D} (h : ds.length = n) : cN n F ds = F ds := if_pos h
@[simp] theorem cO_ap {n : Nat} {F : List D → M D} {d : D} {ds : List D} (h : ds.length = n) : cO n F d ds = F (d :: ds) := if_pos h
end
end Pu

set_option Elab.async false
set_option linter.all false
set_option maxRecDepth 100000
set_option maxHeartbeats 1000000
/-! k12: the plain forms of the law's defs (printed by shgen.py). -/
namespace K12
open PySem L2 Pu
def p__law_pot (ρ : Sl) : M D := (((((slot 1 ρ) >>= fun x1 => ((((slot 0 ρ) >>= fun x2 => (yes [x2])) >>= fun x3 => lenO g__law_pot x3) >>= fun x4 => ltD x1 x4)) >>= fun x5 => asB x5) >>= fun x6 => bIf ((slot 0 ρ) >>= fun x7 => ((slot 1 ρ) >>= fun x8 => ixD x7 x8)) (((slot 1 ρ) >>= fun x9 => binD .Mult (.int 67) x9) >>= fun x10 => (binD .Add x10 (.int 37))) x6) >>= fun x11 => sK (fun ρ => (((((((slot 2 ρ) >>= fun x12 => (yes [x12])) >>= fun x13 => absD x13) >>= fun x14 => (yes [x14])) >>= fun x15 => intD x15) >>= fun x16 => (((binD .Pow (.int 10) (.int 61)) >>= fun x17 => (binD .Pow x17 (.int 11))) >>= fun x18 => binD .Mod x16 x18)) >>= fun x19 => sK (fun ρ => (((((((((slot 3 ρ) >>= fun x20 => (yes [x20])) >>= fun x21 => intD x21) >>= fun x22 => (binD .Mod x22 (.int 2147483249))) >>= fun x23 => (binD .Mult x23 (.int 96293))) >>= fun x24 => (((slot 1 ρ) >>= fun x25 => binD .Mult (.int 9413) x25) >>= fun x26 => binD .Add x24 x26)) >>= fun x27 => ((((((slot 2 ρ) >>= fun x28 => (ltD x28 (.int 0))) >>= fun x29 => (yes [x29])) >>= fun x30 => intD x30) >>= fun x31 => binD .Mult (.int 47) x31) >>= fun x32 => binD .Add x27 x32)) >>= fun x33 => (binD .Add x33 (.int 73))) >>= fun x34 => sK (fun ρ => (((((((slot 3 ρ) >>= fun x35 => ((binD .Pow (.int 10) (.int 18)) >>= fun x36 => binD .Sub x35 x36)) >>= fun x37 => (yes [x37])) >>= fun x38 => (yes ((.int 0) :: x38))) >>= fun x39 => max2D x39) >>= fun x40 => ((((((slot 4 ρ) >>= fun x41 => (yes [x41])) >>= fun x42 => intD x42) >>= fun x43 => (binD .Mod x43 (.int 2305843009213693907))) >>= fun x44 => (yes [x44, (.int 0)])) >>= fun x45 => (yes (x40 :: x45)))) >>= fun x46 => newL 1 x46)) (ρ.set 4 (some x34)))) (ρ.set 3 (some x19)))) (ρ.set 2 (some x11)))
set_option smartUnfolding false in
theorem u__law_pot {a0 a1 : D} : d__law_pot [a0, a1] = p__law_pot [some a0, some a1, none, none, none] := (def_cS _ _ _ _).trans rfl
def p_require_reader (ρ : Sl) : M D := ((((((slot 0 ρ) >>= fun x1 => (yes [x1, (.adr "Reader")])) >>= fun x2 => isiO g_require_reader x2) >>= fun x3 => truthD x3) >>= fun x4 => yes (!x4)) >>= fun x5 => bIf stuck (fin0 ρ) x5)
set_option smartUnfolding false in
theorem u_require_reader {a0 : D} : d_require_reader [a0] = p_require_reader [some a0] := (def_cS _ _ _ _).trans rfl
def p_is_integer (ρ : Sl) : M D := ((((slot 0 ρ) >>= fun x1 => (yes [x1, (.ty "int")])) >>= fun x2 => isiO g_is_integer x2) >>= fun x3 => (truthD x3 >>= fun x4 => bAnd x3 (((((slot 0 ρ) >>= fun x5 => (yes [x5, (.ty "bool")])) >>= fun x6 => isiO g_is_integer x6) >>= fun x7 => notD x7) >>= fun x8 => (truthD x8 >>= fun x9 => bAnd x8 ((negD (D.int 99999999999999999999999999999999999999999999999999999999999999999999999999999999999999999999999999999999999999999999999999999999999999999999999999999999999999999999999999999999999999999999999999999999)) >>= fun x10 => ((slot 0 ρ) >>= fun x11 => (leD x10 x11 >>= fun x12 => chS (leD x11 (D.int 99999999999999999999999999999999999999999999999999999999999999999999999999999999999999999999999999999999999999999999999999999999999999999999999999999999999999999999999999999999999999999999999999999999)) x12))) x9)) x4))
set_option smartUnfolding false in
theorem u_is_integer {a0 : D} : d_is_integer [a0] = p_is_integer [some a0] := (def_cS _ _ _ _).trans rfl
def p_is_integer_within (ρ : Sl) : M D := ((((slot 0 ρ) >>= fun x1 => (yes [x1])) >>= fun x2 => cN 1 d_is_integer x2) >>= fun x3 => (truthD x3 >>= fun x4 => bAnd x3 ((slot 1 ρ) >>= fun x5 => ((slot 0 ρ) >>= fun x6 => (leD x5 x6 >>= fun x7 => chS ((slot 2 ρ) >>= fun x8 => leD x6 x8) x7))) x4))
set_option smartUnfolding false in
theorem u_is_integer_within {a0 a1 a2 : D} : d_is_integer_within [a0, a1, a2] = p_is_integer_within [some a0, some a1, some a2] := (def_cS _ _ _ _).trans rfl
def p_require_length (ρ : Sl) : M D := ((((((slot 0 ρ) >>= fun x1 => (yes [x1, (.int 0), (D.int 400)])) >>= fun x2 => cN 3 d_is_integer_within x2) >>= fun x3 => truthD x3) >>= fun x4 => yes (!x4)) >>= fun x5 => bIf stuck (fin0 ρ) x5)
set_option smartUnfolding false in
theorem u_require_length {a0 : D} : d_require_length [a0] = p_require_length [some a0] := (def_cS _ _ _ _).trans rfl
def e1_first_row_of (ρ : Sl) : M D := ((((slot 1 ρ) >>= fun x1 => (((slot 0 ρ) >>= fun x2 => attrD g_first_row_of "own_firsts" x2) >>= fun x3 => inO g_first_row_of false x1 x3)) >>= fun x4 => (yes [x4])) >>= fun x5 => intD x5)
def p_first_row_of (ρ : Sl) : M D := ((((((slot 0 ρ) >>= fun x6 => attrD g_first_row_of "own_size" x6) >>= fun x7 => rg1 x7) >>= fun x8 => (noX (compL (turnS (fun d ρ => some (ρ.set 1 (some d))) nxt e1_first_row_of (wipeL ρ [1])) x8 []) >>= fun x9 => fixL 0 x9)) >>= fun x10 => (yes [x10])) >>= fun x11 => tupleD x11)
set_option smartUnfolding false in
theorem u_first_row_of {a0 : D} : d_first_row_of [a0] = p_first_row_of [some a0, none] := (def_cS _ _ _ _).trans rfl
def k1_stepped (k kb kc : Sl → M D) (ρ : Sl) : M D := (((slot 2 ρ) >>= fun x5 => (yes [x5])) >>= fun x6 => tupleD x6)
def b1_stepped (K : Sl → M D) (ρ : Sl) (k : Sl → M D) : M D := ((slot 2 ρ) >>= fun x7 => ((slot 5 ρ) >>= fun x8 => (getC x7 x8 >>= fun x9 => (((slot 1 ρ) >>= fun x10 => ((slot 3 ρ) >>= fun x11 => ixD x10 x11)) >>= fun x12 => (addI x9 x12 >>= fun x13 => (setD x7 x8 x13 >>= fun x14 => (k ρ)))))))
def p_stepped (ρ : Sl) : M D := (((newL 1 [(.int 0)]) >>= fun x1 => (((slot 0 ρ) >>= fun x2 => attrD g_stepped "own_size" x2) >>= fun x3 => mulC x1 x3)) >>= fun x4 => sK (fun ρ => ((((slot 0 ρ) >>= fun x15 => attrD g_stepped "own_arrows" x15) >>= fun x16 => itemsD x16) >>= fun x17 => cL (uT (some [3, 4, 5])) (b1_stepped (k1_stepped fin0 fin1 fin1)) (k1_stepped fin0 fin1 fin1) x17 ρ)) (ρ.set 2 (some x4)))
set_option smartUnfolding false in
theorem u_stepped {a0 a1 : D} : d_stepped [a0, a1] = p_stepped [some a0, some a1, none, none, none, none] := (def_cS _ _ _ _).trans rfl
def e1_end_of (ρ : Sl) : M D := ((slot 1 ρ) >>= fun x1 => ((slot 2 ρ) >>= fun x2 => ixD x1 x2))
def p_end_of (ρ : Sl) : M D := ((((((slot 0 ρ) >>= fun x3 => attrD g_end_of "own_lasts" x3) >>= fun x4 => itemsD x4) >>= fun x5 => (noX (compL (turnS (fun d ρ => some (ρ.set 2 (some d))) nxt e1_end_of (wipeL ρ [2])) x5 []) >>= fun x6 => fixL 0 x6)) >>= fun x7 => (yes [x7])) >>= fun x8 => sumD x8)
set_option smartUnfolding false in
theorem u_end_of {a0 a1 : D} : d_end_of [a0, a1] = p_end_of [some a0, some a1, none] := (def_cS _ _ _ _).trans rfl
def k1_totals_of (k kb kc : Sl → M D) (ρ : Sl) : M D := (slot 4 ρ >>= frzD)
def b1_totals_of (K : Sl → M D) (ρ : Sl) (k : Sl → M D) : M D := ((mthS (slot 4 ρ) (mInst g_totals_of "append" ((((slot 0 ρ) >>= fun x21 => (((slot 3 ρ) >>= fun x22 => (yes [x22])) >>= fun x23 => (yes (x21 :: x23)))) >>= fun x24 => cN 2 d_end_of x24) >>= fun x25 => (yes [x25]))) (mCls g_totals_of "append" ((((slot 0 ρ) >>= fun x16 => (((slot 3 ρ) >>= fun x17 => (yes [x17])) >>= fun x18 => (yes (x16 :: x18)))) >>= fun x19 => cN 2 d_end_of x19) >>= fun x20 => (yes [x20]))) ((slot 4 ρ) >>= fun x9 => (chkL x9 >>= fun x10 => ((((slot 0 ρ) >>= fun x11 => (((slot 3 ρ) >>= fun x12 => (yes [x12])) >>= fun x13 => (yes (x11 :: x13)))) >>= fun x14 => cN 2 d_end_of x14) >>= fun x15 => appD x9 x15)))) >>= fun x26 => ((((slot 0 ρ) >>= fun x27 => (((slot 3 ρ) >>= fun x28 => (yes [x28])) >>= fun x29 => (yes (x27 :: x29)))) >>= fun x30 => cN 2 d_stepped x30) >>= fun x31 => sK (fun ρ => (k ρ)) (ρ.set 3 (some x31))))
def p_totals_of (ρ : Sl) : M D := (((((slot 0 ρ) >>= fun x3 => (yes [x3])) >>= fun x4 => cN 1 d_first_row_of x4) >>= fun x5 => (((newL 1 []) >>= fun x6 => (yes [x6])) >>= fun x7 => (yes (x5 :: x7)))) >>= fun x8 => s2K x8 fun x1 x2 => sK (fun ρ => (((slot 1 ρ) >>= fun x32 => rg1 x32) >>= fun x33 => cL (fun d ρ => some (ρ.set 2 (some d))) (b1_totals_of (k1_totals_of fin0 fin1 fin1)) (k1_totals_of fin0 fin1 fin1) x33 ρ)) ((ρ.set 3 (some x1)).set 4 (some x2)))
set_option smartUnfolding false in
theorem u_totals_of {a0 a1 : D} : d_totals_of [a0, a1] = p_totals_of [some a0, some a1, none, none, none] := (def_cS _ _ _ _).trans rfl
def p_totals (ρ : Sl) : M D := ((((slot 0 ρ) >>= fun x1 => (yes [x1])) >>= fun x2 => cN 1 d_require_reader x2) >>= fun x3 => ((((slot 1 ρ) >>= fun x4 => (yes [x4])) >>= fun x5 => cN 1 d_require_length x5) >>= fun x6 => (((((slot 0 ρ) >>= fun x7 => (((slot 1 ρ) >>= fun x8 => (yes [x8])) >>= fun x9 => (yes (x7 :: x9)))) >>= fun x10 => cN 2 d_totals_of x10) >>= fun x11 => (yes [x11])) >>= fun x12 => tupleD x12)))
set_option smartUnfolding false in
theorem u_totals {a0 a1 : D} : d_totals [a0, a1] = p_totals [some a0, some a1] := (def_cS _ _ _ _).trans rfl
def p_total (ρ : Sl) : M D := ((((slot 0 ρ) >>= fun x1 => (yes [x1])) >>= fun x2 => cN 1 d_require_reader x2) >>= fun x3 => ((((slot 1 ρ) >>= fun x4 => (yes [x4])) >>= fun x5 => cN 1 d_require_length x5) >>= fun x6 => ((((slot 0 ρ) >>= fun x7 => ((((slot 1 ρ) >>= fun x8 => (binD .Add x8 (.int 1))) >>= fun x9 => (yes [x9])) >>= fun x10 => (yes (x7 :: x10)))) >>= fun x11 => cN 2 d_totals_of x11) >>= fun x12 => ((negD (.int 1)) >>= fun x13 => ixD x12 x13))))
set_option smartUnfolding false in
theorem u_total {a0 a1 : D} : d_total [a0, a1] = p_total [some a0, some a1] := (def_cS _ _ _ _).trans rfl
def p__law_bit (ρ : Sl) : M D := (((((slot 0 ρ) >>= fun x1 => (ixD x1 (.int 0))) >>= fun x2 => (gtD x2 (.int 0))) >>= fun x3 => asB x3) >>= fun x4 => bIf ((((((slot 0 ρ) >>= fun x5 => (ixD x5 (.int 0))) >>= fun x6 => (yes [x6])) >>= fun x7 => intD x7) >>= fun x8 => ((slot 1 ρ) >>= fun x9 => binD .Mod x8 x9)) >>= fun x10 => sK (fun ρ => ((((slot 0 ρ) >>= fun x11 => (ixD x11 (.int 0))) >>= fun x12 => ((slot 1 ρ) >>= fun x13 => binD .FloorDiv x12 x13)) >>= fun x14 => ((slot 0 ρ) >>= fun x15 => (setD x15 (.int 0) x14 >>= fun x16 => (slot 4 ρ))))) (ρ.set 4 (some x10))) ((((slot 0 ρ) >>= fun x17 => (ixD x17 (.int 2))) >>= fun x18 => (binD .Add x18 (.int 1))) >>= fun x19 => ((slot 0 ρ) >>= fun x20 => (setD x20 (.int 2) x19 >>= fun x21 => (((((((slot 0 ρ) >>= fun x22 => (ixD x22 (.int 1))) >>= fun x23 => ((((slot 0 ρ) >>= fun x24 => (ixD x24 (.int 2))) >>= fun x25 => binD .Mult (.int 1000453) x25) >>= fun x26 => binD .Add x23 x26)) >>= fun x27 => (yes [x27])) >>= fun x28 => intD x28) >>= fun x29 => (binD .Mod x29 (.int 2305843009213693951))) >>= fun x30 => sK (fun ρ => ((((((((slot 2 ρ) >>= fun x31 => ((slot 2 ρ) >>= fun x32 => binD .Mult x31 x32)) >>= fun x33 => (yes [x33])) >>= fun x34 => intD x34) >>= fun x35 => (binD .Mod x35 (.int 2305843009213693921))) >>= fun x36 => ((slot 2 ρ) >>= fun x37 => binD .Mult x36 x37)) >>= fun x38 => ((((slot 0 ρ) >>= fun x39 => (ixD x39 (.int 2))) >>= fun x40 => binD .Mult (.int 9103) x40) >>= fun x41 => binD .Add x38 x41)) >>= fun x42 => sK (fun ρ => ((((((((slot 3 ρ) >>= fun x43 => (yes [x43])) >>= fun x44 => intD x44) >>= fun x45 => (binD .Mod x45 (.int 2305843009213693907))) >>= fun x46 => (binD .FloorDiv x46 (.int 16384))) >>= fun x47 => (yes [x47])) >>= fun x48 => intD x48) >>= fun x49 => ((slot 1 ρ) >>= fun x50 => binD .Mod x49 x50))) (ρ.set 3 (some x42)))) (ρ.set 2 (some x30)))))) x4)
set_option smartUnfolding false in
theorem u__law_bit {a0 a1 : D} : d__law_bit [a0, a1] = p__law_bit [some a0, some a1, none, none, none] := (def_cS _ _ _ _).trans rfl
def p__law_pick (ρ : Sl) : M D := ((slot 1 ρ) >>= fun x1 => ((((slot 0 ρ) >>= fun x2 => (((((slot 1 ρ) >>= fun x3 => (yes [x3])) >>= fun x4 => lenO g__law_pick x4) >>= fun x5 => (yes [x5])) >>= fun x6 => (yes (x2 :: x6)))) >>= fun x7 => cN 2 d__law_bit x7) >>= fun x8 => ixD x1 x8))
set_option smartUnfolding false in
theorem u__law_pick {a0 a1 : D} : d__law_pick [a0, a1] = p__law_pick [some a0, some a1] := (def_cS _ _ _ _).trans rfl
def p__law_signs (ρ : Sl) : M D := (((slot 0 ρ) >>= fun x1 => (((newL 0 [(.str "ab"), (.str "ab"), (.str "ab"), (.str "a"), (.str "xy"), (.str "abc")]) >>= fun x2 => (yes [x2])) >>= fun x3 => (yes (x1 :: x3)))) >>= fun x4 => cN 2 d__law_pick x4)
set_option smartUnfolding false in
theorem u__law_signs {a0 : D} : d__law_signs [a0] = p__law_signs [some a0] := (def_cS _ _ _ _).trans rfl
def e1__law_dealt (ρ : Sl) : M D := (mthS (slot 2 ρ) (mInst g__law_dealt "pop" ((((slot 0 ρ) >>= fun x19 => (((((slot 2 ρ) >>= fun x20 => (yes [x20])) >>= fun x21 => lenO g__law_dealt x21) >>= fun x22 => (yes [x22])) >>= fun x23 => (yes (x19 :: x23)))) >>= fun x24 => cN 2 d__law_bit x24) >>= fun x25 => (yes [x25]))) (mCls g__law_dealt "pop" ((((slot 0 ρ) >>= fun x12 => (((((slot 2 ρ) >>= fun x13 => (yes [x13])) >>= fun x14 => lenO g__law_dealt x14) >>= fun x15 => (yes [x15])) >>= fun x16 => (yes (x12 :: x16)))) >>= fun x17 => cN 2 d__law_bit x17) >>= fun x18 => (yes [x18]))) ((slot 2 ρ) >>= fun x3 => (chkL x3 >>= fun x4 => ((((slot 0 ρ) >>= fun x5 => (((((slot 2 ρ) >>= fun x6 => (yes [x6])) >>= fun x7 => lenO g__law_dealt x7) >>= fun x8 => (yes [x8])) >>= fun x9 => (yes (x5 :: x9)))) >>= fun x10 => cN 2 d__law_bit x10) >>= fun x11 => popD x3 x11))))
def p__law_dealt (ρ : Sl) : M D := (((slot 1 ρ) >>= fun x1 => listCD [x1]) >>= fun x2 => sK (fun ρ => (((((slot 1 ρ) >>= fun x26 => (yes [x26])) >>= fun x27 => lenO g__law_dealt x27) >>= fun x28 => rg1 x28) >>= fun x29 => (noX (compL (turnS (fun d ρ => some (ρ.set 3 (some d))) nxt e1__law_dealt (wipeL ρ [3])) x29 []) >>= fun x30 => fixL 0 x30))) (ρ.set 2 (some x2)))
set_option smartUnfolding false in
theorem u__law_dealt {a0 a1 : D} : d__law_dealt [a0, a1] = p__law_dealt [some a0, some a1, none, none] := (def_cS _ _ _ _).trans rfl
def p__law_some_of (ρ : Sl) : M D := (((slot 2 ρ) >>= fun x1 => ((((slot 0 ρ) >>= fun x2 => (((((((slot 1 ρ) >>= fun x3 => (yes [x3])) >>= fun x4 => lenO g__law_some_of x4) >>= fun x5 => ((slot 2 ρ) >>= fun x6 => binD .Sub x5 x6)) >>= fun x7 => (binD .Add x7 (.int 1))) >>= fun x8 => (yes [x8])) >>= fun x9 => (yes (x2 :: x9)))) >>= fun x10 => cN 2 d__law_bit x10) >>= fun x11 => binD .Add x1 x11)) >>= fun x12 => sK (fun ρ => ((((((((slot 0 ρ) >>= fun x13 => (((slot 1 ρ) >>= fun x14 => (yes [x14])) >>= fun x15 => (yes (x13 :: x15)))) >>= fun x16 => cN 2 d__law_dealt x16) >>= fun x17 => (((slot 3 ρ) >>= fun x18 => prt x18) >>= fun x19 => slD x17 (none) x19)) >>= fun x20 => (yes [x20])) >>= fun x21 => sortedD x21) >>= fun x22 => (yes [x22])) >>= fun x23 => tupleD x23)) (ρ.set 3 (some x12)))
set_option smartUnfolding false in
theorem u__law_some_of {a0 a1 a2 : D} : d__law_some_of [a0, a1, a2] = p__law_some_of [some a0, some a1, some a2, none] := (def_cS _ _ _ _).trans rfl
def p__law_told_reader (ρ : Sl) : M D := ((noX ((slot 0 ρ) >>= fun x1 => (((slot 1 ρ) >>= fun x2 => (((((((slot 2 ρ) >>= fun x3 => (yes [x3])) >>= fun x4 => sortedD x4) >>= fun x5 => (yes [x5])) >>= fun x6 => tupleD x6) >>= fun x7 => (((((((slot 3 ρ) >>= fun x8 => (yes [x8])) >>= fun x9 => sortedD x9) >>= fun x10 => (yes [x10])) >>= fun x11 => tupleD x11) >>= fun x12 => (pairK (.str "tails") x12 [])) >>= fun x13 => pairK (.str "heads") x7 x13)) >>= fun x14 => pairK (.str "size") x2 x14)) >>= fun x15 => pairK (.str "signs") x1 x15)) >>= fun x16 => newC (.dic (mergeD [] x16))) >>= fun x17 => sK (fun ρ => ((((((slot 4 ρ) >>= fun x18 => (yes [x18])) >>= fun x19 => sortedD x19) >>= fun x20 => (yes [x20])) >>= fun x21 => tupleD x21) >>= fun x22 => ((slot 5 ρ) >>= fun x23 => (setD x23 (.str "links") x22 >>= fun x24 => (slot 5 ρ >>= frzD))))) (ρ.set 5 (some x17)))
set_option smartUnfolding false in
theorem u__law_told_reader {a0 a1 a2 a3 a4 : D} : d__law_told_reader [a0, a1, a2, a3, a4] = p__law_told_reader [some a0, some a1, some a2, some a3, some a4, none] := (def_cS _ _ _ _).trans rfl
def k1__law_any_reader (k kb kc : Sl → M D) (ρ : Sl) : M D := ((((slot 0 ρ) >>= fun x8 => ((((slot 3 ρ) >>= fun x9 => rgD x9) >>= fun x10 => ((((((((slot 0 ρ) >>= fun x11 => (yes [x11, (.int 9)])) >>= fun x12 => cN 2 d__law_bit x12) >>= fun x13 => (yes [x13])) >>= fun x14 => (yes ((.int 1) :: x14))) >>= fun x15 => min2D x15) >>= fun x16 => (yes [x16])) >>= fun x17 => (yes (x10 :: x17)))) >>= fun x18 => (yes (x8 :: x18)))) >>= fun x19 => cN 3 d__law_some_of x19) >>= fun x20 => sK (fun ρ => ((((slot 0 ρ) >>= fun x21 => ((((slot 3 ρ) >>= fun x22 => rgD x22) >>= fun x23 => ((((((((slot 0 ρ) >>= fun x24 => (yes [x24, (.int 9)])) >>= fun x25 => cN 2 d__law_bit x25) >>= fun x26 => (yes [x26])) >>= fun x27 => (yes ((.int 1) :: x27))) >>= fun x28 => min2D x28) >>= fun x29 => (yes [x29])) >>= fun x30 => (yes (x23 :: x30)))) >>= fun x31 => (yes (x21 :: x31)))) >>= fun x32 => cN 3 d__law_some_of x32) >>= fun x33 => sK (fun ρ => (((slot 1 ρ) >>= fun x34 => (((slot 3 ρ) >>= fun x35 => (((slot 6 ρ) >>= fun x36 => (((slot 7 ρ) >>= fun x37 => (((((slot 4 ρ) >>= fun x38 => (yes [x38])) >>= fun x39 => listD x39) >>= fun x40 => (yes [x40])) >>= fun x41 => (yes (x37 :: x41)))) >>= fun x42 => (yes (x36 :: x42)))) >>= fun x43 => (yes (x35 :: x43)))) >>= fun x44 => (yes (x34 :: x44)))) >>= fun x45 => cN 5 d__law_told_reader x45)) (ρ.set 7 (some x33)))) (ρ.set 6 (some x20)))
def b3__law_any_reader (K : Sl → M D) (ρ : Sl) (k : Sl → M D) : M D := ((slot 4 ρ) >>= fun x46 => (((slot 5 ρ) >>= fun x47 => (((slot 8 ρ) >>= fun x48 => (((((slot 0 ρ) >>= fun x49 => (((slot 3 ρ) >>= fun x50 => (yes [x50])) >>= fun x51 => (yes (x49 :: x51)))) >>= fun x52 => cN 2 d__law_bit x52) >>= fun x53 => (yes [x53])) >>= fun x54 => (yes (x48 :: x54)))) >>= fun x55 => (yes (x47 :: x55)))) >>= fun x56 => (setT x46 x56 (.bl true) >>= fun x57 => (k ρ))))
def b2__law_any_reader (K : Sl → M D) (ρ : Sl) (k : Sl → M D) : M D := (((((slot 0 ρ) >>= fun x58 => (((newL 0 [(.int 0), (.int 1), (.int 1), (.int 1), (.int 2)]) >>= fun x59 => (yes [x59])) >>= fun x60 => (yes (x58 :: x60)))) >>= fun x61 => cN 2 d__law_pick x61) >>= fun x62 => rg1 x62) >>= fun x63 => cL (fun d ρ => some (ρ.set 9 (some d))) (b3__law_any_reader k) k x63 ρ)
def b1__law_any_reader (K : Sl → M D) (ρ : Sl) (k : Sl → M D) : M D := (((slot 1 ρ) >>= fun x64 => itemsD x64) >>= fun x65 => cL (fun d ρ => some (ρ.set 8 (some d))) (b2__law_any_reader k) k x65 ρ)
def p__law_any_reader (ρ : Sl) : M D := (((((slot 0 ρ) >>= fun x1 => (((slot 2 ρ) >>= fun x2 => (yes [x2])) >>= fun x3 => (yes (x1 :: x3)))) >>= fun x4 => cN 2 d__law_bit x4) >>= fun x5 => binD .Add (.int 1) x5) >>= fun x6 => sK (fun ρ => ((newC (.dt [])) >>= fun x7 => sK (fun ρ => (((slot 3 ρ) >>= fun x66 => rg1 x66) >>= fun x67 => cL (fun d ρ => some (ρ.set 5 (some d))) (b1__law_any_reader (k1__law_any_reader fin0 fin1 fin1)) (k1__law_any_reader fin0 fin1 fin1) x67 ρ)) (ρ.set 4 (some x7)))) (ρ.set 3 (some x6)))
set_option smartUnfolding false in
theorem u__law_any_reader {a0 a1 a2 : D} : d__law_any_reader [a0, a1, a2] = p__law_any_reader [some a0, some a1, some a2, none, none, none, none, none, none, none] := (def_cS _ _ _ _).trans rfl
def e1_are_small (ρ : Sl) : M D := ((slot 1 ρ) >>= fun x1 => (leD (.str "a") x1 >>= fun x2 => chS (leD x1 (.str "z")) x2))
def p_are_small (ρ : Sl) : M D := (((((slot 0 ρ) >>= fun x3 => itemsD x3) >>= fun x4 => (noX (compL (turnS (fun d ρ => some (ρ.set 1 (some d))) nxt e1_are_small (wipeL ρ [1])) x4 []) >>= fun x5 => fixL 0 x5)) >>= fun x6 => (yes [x6])) >>= fun x7 => allD x7)
set_option smartUnfolding false in
theorem u_are_small {a0 : D} : d_are_small [a0] = p_are_small [some a0, none] := (def_cS _ _ _ _).trans rfl
def e1_is_ascending (ρ : Sl) : M D := ((slot 1 ρ) >>= fun x1 => ((slot 2 ρ) >>= fun x2 => ltD x1 x2))
def p_is_ascending (ρ : Sl) : M D := (((((slot 0 ρ) >>= fun x3 => (((slot 0 ρ) >>= fun x4 => ((prt (.int 1)) >>= fun x5 => (slD x4 x5 (none)))) >>= fun x6 => zipD x3 x6)) >>= fun x7 => (noX (compL (turnS (uT (some [1, 2])) nxt e1_is_ascending (wipeL ρ [1, 2])) x7 []) >>= fun x8 => fixL 0 x8)) >>= fun x9 => (yes [x9])) >>= fun x10 => allD x10)
set_option smartUnfolding false in
theorem u_is_ascending {a0 : D} : d_is_ascending [a0] = p_is_ascending [some a0, none, none] := (def_cS _ _ _ _).trans rfl
def p_is_letters (ρ : Sl) : M D := (((((((slot 0 ρ) >>= fun x1 => (yes [x1, (.ty "str")])) >>= fun x2 => isiO g_is_letters x2) >>= fun x3 => truthD x3) >>= fun x4 => yes (!x4)) >>= fun x5 => tOr ((((((slot 0 ρ) >>= fun x6 => (yes [x6])) >>= fun x7 => lenO g_is_letters x7) >>= fun x8 => (leD (.int 1) x8 >>= fun x9 => chS (leD x8 (D.int 4)) x9)) >>= fun x10 => asB x10) >>= fun x11 => yes (!x11)) x5) >>= fun x12 => bIf (yes (.bl false)) ((((slot 0 ρ) >>= fun x13 => (yes [x13])) >>= fun x14 => cN 1 d_are_small x14) >>= fun x15 => (truthD x15 >>= fun x16 => bAnd x15 (((slot 0 ρ) >>= fun x17 => (yes [x17])) >>= fun x18 => cN 1 d_is_ascending x18) x16)) x12)
set_option smartUnfolding false in
theorem u_is_letters {a0 : D} : d_is_letters [a0] = p_is_letters [some a0] := (def_cS _ _ _ _).trans rfl
def p_require_letters (ρ : Sl) : M D := ((((((slot 0 ρ) >>= fun x1 => (yes [x1])) >>= fun x2 => cN 1 d_is_letters x2) >>= fun x3 => truthD x3) >>= fun x4 => yes (!x4)) >>= fun x5 => bIf stuck (fin0 ρ) x5)
set_option smartUnfolding false in
theorem u_require_letters {a0 : D} : d_require_letters [a0] = p_require_letters [some a0] := (def_cS _ _ _ _).trans rfl
def e1_moves_of (ρ : Sl) : M D := (slot 5 ρ)
def e2_moves_of (ρ : Sl) : M D := (newL 1 [])
def e3_moves_of (ρ : Sl) : M D := (((slot 1 ρ) >>= fun x1 => rg1 x1) >>= fun x2 => (noX (compL (turnS (fun d ρ => some (ρ.set 4 (some d))) nxt e2_moves_of (wipeL ρ [4])) x2 []) >>= fun x3 => fixL 0 x3))
def e4_moves_of (ρ : Sl) : M D := (slot 5 ρ)
def e5_moves_of (ρ : Sl) : M D := (((slot 8 ρ) >>= fun x8 => (yes [x8])) >>= fun x9 => tupleD x9)
def e6_moves_of (ρ : Sl) : M D := (((((slot 7 ρ) >>= fun x10 => itemsD x10) >>= fun x11 => (noX (compL (turnS (fun d ρ => some (ρ.set 8 (some d))) nxt e5_moves_of (wipeL ρ [8])) x11 []) >>= fun x12 => fixL 0 x12)) >>= fun x13 => (yes [x13])) >>= fun x14 => tupleD x14)
def k1_moves_of (k kb kc : Sl → M D) (ρ : Sl) : M D := (((slot 3 ρ) >>= fun x15 => itmS x15) >>= fun x16 => (noX (clS (uT (some [5, 7])) nxt (leafDS e4_moves_of e6_moves_of) (wipeL ρ [5, 7]) x16 []) >>= fun x17 => yes (.dic x17)))
def b1_moves_of (K : Sl → M D) (ρ : Sl) (k : Sl → M D) : M D := ((mthS (((slot 3 ρ) >>= fun x26 => ((slot 5 ρ) >>= fun x27 => ixD x26 x27)) >>= fun x28 => ((slot 4 ρ) >>= fun x29 => ixD x28 x29)) (mInst g_moves_of "append" ((slot 6 ρ) >>= fun x30 => (yes [x30]))) (mCls g_moves_of "append" ((slot 6 ρ) >>= fun x25 => (yes [x25]))) ((((slot 3 ρ) >>= fun x18 => ((slot 5 ρ) >>= fun x19 => ixD x18 x19)) >>= fun x20 => ((slot 4 ρ) >>= fun x21 => ixD x20 x21)) >>= fun x22 => (chkL x22 >>= fun x23 => ((slot 6 ρ) >>= fun x24 => appD x22 x24)))) >>= fun x31 => (k ρ))
def p_moves_of (ρ : Sl) : M D := ((((slot 0 ρ) >>= fun x4 => itemsD x4) >>= fun x5 => (noX (clS (fun d ρ => some (ρ.set 5 (some d))) nxt (leafDS e1_moves_of e3_moves_of) (wipeL ρ [5]) x5 []) >>= fun x6 => yes (.dic x6))) >>= fun x7 => sK (fun ρ => (((slot 2 ρ) >>= fun x32 => itemsD x32) >>= fun x33 => cL (uT (some [4, 5, 6])) (b1_moves_of (k1_moves_of fin0 fin1 fin1)) (k1_moves_of fin0 fin1 fin1) x33 ρ)) (ρ.set 3 (some x7)))
set_option smartUnfolding false in
theorem u_moves_of {a0 a1 a2 : D} : d_moves_of [a0, a1, a2] = p_moves_of [some a0, some a1, some a2, none, none, none, none, none, none] := (def_cS _ _ _ _).trans rfl
def e1_is_number_set (ρ : Sl) : M D := (((slot 2 ρ) >>= fun x6 => (((((slot 1 ρ) >>= fun x7 => (binD .Sub x7 (.int 1))) >>= fun x8 => (yes [x8])) >>= fun x9 => (yes ((.int 0) :: x9))) >>= fun x10 => (yes (x6 :: x10)))) >>= fun x11 => cN 3 d_is_integer_within x11)
def p_is_number_set (ρ : Sl) : M D := (((((((slot 0 ρ) >>= fun x1 => (yes [x1, (.ty "tuple")])) >>= fun x2 => isiO g_is_number_set x2) >>= fun x3 => truthD x3) >>= fun x4 => yes (!x4)) >>= fun x5 => tOr (((((((slot 0 ρ) >>= fun x12 => itemsD x12) >>= fun x13 => (noX (compL (turnS (fun d ρ => some (ρ.set 2 (some d))) nxt e1_is_number_set (wipeL ρ [2])) x13 []) >>= fun x14 => fixL 0 x14)) >>= fun x15 => (yes [x15])) >>= fun x16 => allD x16) >>= fun x17 => truthD x17) >>= fun x18 => yes (!x18)) x5) >>= fun x19 => bIf (yes (.bl false)) (((slot 0 ρ) >>= fun x20 => (yes [x20])) >>= fun x21 => cN 1 d_is_ascending x21) x19)
set_option smartUnfolding false in
theorem u_is_number_set {a0 a1 : D} : d_is_number_set [a0, a1] = p_is_number_set [some a0, some a1, none] := (def_cS _ _ _ _).trans rfl
def e1_is_text_within (ρ : Sl) : M D := ((slot 2 ρ) >>= fun x5 => ((slot 0 ρ) >>= fun x6 => inO g_is_text_within false x5 x6))
def p_is_text_within (ρ : Sl) : M D := ((((slot 1 ρ) >>= fun x1 => (yes [x1, (.ty "str")])) >>= fun x2 => isiO g_is_text_within x2) >>= fun x3 => (truthD x3 >>= fun x4 => bAnd x3 (((((slot 1 ρ) >>= fun x7 => itemsD x7) >>= fun x8 => (noX (compL (turnS (fun d ρ => some (ρ.set 2 (some d))) nxt e1_is_text_within (wipeL ρ [2])) x8 []) >>= fun x9 => fixL 0 x9)) >>= fun x10 => (yes [x10])) >>= fun x11 => allD x11) x4))
set_option smartUnfolding false in
theorem u_is_text_within {a0 a1 : D} : d_is_text_within [a0, a1] = p_is_text_within [some a0, some a1, none] := (def_cS _ _ _ _).trans rfl
def p_is_letter_of (ρ : Sl) : M D := ((((slot 0 ρ) >>= fun x1 => (((slot 1 ρ) >>= fun x2 => (yes [x2])) >>= fun x3 => (yes (x1 :: x3)))) >>= fun x4 => cN 2 d_is_text_within x4) >>= fun x5 => (truthD x5 >>= fun x6 => bAnd x5 ((((slot 1 ρ) >>= fun x7 => (yes [x7])) >>= fun x8 => lenO g_is_letter_of x8) >>= fun x9 => (eqO g_is_letter_of false x9 (.int 1))) x6))
set_option smartUnfolding false in
theorem u_is_letter_of {a0 a1 : D} : d_is_letter_of [a0, a1] = p_is_letter_of [some a0, some a1] := (def_cS _ _ _ _).trans rfl
def p_is_arrow (ρ : Sl) : M D := (((((((slot 2 ρ) >>= fun x1 => (yes [x1, (.ty "tuple")])) >>= fun x2 => isiO g_is_arrow x2) >>= fun x3 => truthD x3) >>= fun x4 => yes (!x4)) >>= fun x5 => tOr ((((((slot 2 ρ) >>= fun x6 => (yes [x6])) >>= fun x7 => lenO g_is_arrow x7) >>= fun x8 => (eqO g_is_arrow true x8 (.int 3))) >>= fun x9 => asB x9) >>= fun x10 => tOr (((((slot 0 ρ) >>= fun x11 => ((((slot 2 ρ) >>= fun x12 => (ixD x12 (.int 1))) >>= fun x13 => (yes [x13])) >>= fun x14 => (yes (x11 :: x14)))) >>= fun x15 => cN 2 d_is_letter_of x15) >>= fun x16 => truthD x16) >>= fun x17 => yes (!x17)) x10) x5) >>= fun x18 => bIf (yes (.bl false)) (((((slot 2 ρ) >>= fun x19 => (ixD x19 (.int 0))) >>= fun x20 => (((((slot 1 ρ) >>= fun x21 => (binD .Sub x21 (.int 1))) >>= fun x22 => (yes [x22])) >>= fun x23 => (yes ((.int 0) :: x23))) >>= fun x24 => (yes (x20 :: x24)))) >>= fun x25 => cN 3 d_is_integer_within x25) >>= fun x26 => (truthD x26 >>= fun x27 => bAnd x26 ((((slot 2 ρ) >>= fun x28 => (ixD x28 (.int 2))) >>= fun x29 => (((((slot 1 ρ) >>= fun x30 => (binD .Sub x30 (.int 1))) >>= fun x31 => (yes [x31])) >>= fun x32 => (yes ((.int 0) :: x32))) >>= fun x33 => (yes (x29 :: x33)))) >>= fun x34 => cN 3 d_is_integer_within x34) x27)) x18)
set_option smartUnfolding false in
theorem u_is_arrow {a0 a1 a2 : D} : d_is_arrow [a0, a1, a2] = p_is_arrow [some a0, some a1, some a2] := (def_cS _ _ _ _).trans rfl
def e1_are_arrows (ρ : Sl) : M D := (((slot 0 ρ) >>= fun x6 => (((slot 1 ρ) >>= fun x7 => (((slot 3 ρ) >>= fun x8 => (yes [x8])) >>= fun x9 => (yes (x7 :: x9)))) >>= fun x10 => (yes (x6 :: x10)))) >>= fun x11 => cN 3 d_is_arrow x11)
def p_are_arrows (ρ : Sl) : M D := (((((((slot 2 ρ) >>= fun x1 => (yes [x1, (.ty "tuple")])) >>= fun x2 => isiO g_are_arrows x2) >>= fun x3 => truthD x3) >>= fun x4 => yes (!x4)) >>= fun x5 => tOr (((((((slot 2 ρ) >>= fun x12 => itemsD x12) >>= fun x13 => (noX (compL (turnS (fun d ρ => some (ρ.set 3 (some d))) nxt e1_are_arrows (wipeL ρ [3])) x13 []) >>= fun x14 => fixL 0 x14)) >>= fun x15 => (yes [x15])) >>= fun x16 => allD x16) >>= fun x17 => truthD x17) >>= fun x18 => yes (!x18)) x5) >>= fun x19 => bIf (yes (.bl false)) (((slot 2 ρ) >>= fun x20 => (yes [x20])) >>= fun x21 => cN 1 d_is_ascending x21) x19)
set_option smartUnfolding false in
theorem u_are_arrows {a0 a1 a2 : D} : d_are_arrows [a0, a1, a2] = p_are_arrows [some a0, some a1, some a2, none] := (def_cS _ _ _ _).trans rfl
def p_Reader___init__ (ρ : Sl) : M D := ((((slot 1 ρ) >>= fun x1 => (yes [x1])) >>= fun x2 => cN 1 d_require_letters x2) >>= fun x3 => ((((((slot 2 ρ) >>= fun x4 => (yes [x4, (.int 1), (D.int 60)])) >>= fun x5 => cN 3 d_is_integer_within x5) >>= fun x6 => truthD x6) >>= fun x7 => yes (!x7)) >>= fun x8 => bIf stuck (((((((slot 3 ρ) >>= fun x9 => (((slot 2 ρ) >>= fun x10 => (yes [x10])) >>= fun x11 => (yes (x9 :: x11)))) >>= fun x12 => cN 2 d_is_number_set x12) >>= fun x13 => truthD x13) >>= fun x14 => yes (!x14)) >>= fun x15 => tOr ((((((slot 4 ρ) >>= fun x16 => (((slot 2 ρ) >>= fun x17 => (yes [x17])) >>= fun x18 => (yes (x16 :: x18)))) >>= fun x19 => cN 2 d_is_number_set x19) >>= fun x20 => truthD x20) >>= fun x21 => yes (!x21)) >>= fun x22 => tOr (((((slot 1 ρ) >>= fun x23 => (((slot 2 ρ) >>= fun x24 => (((slot 5 ρ) >>= fun x25 => (yes [x25])) >>= fun x26 => (yes (x24 :: x26)))) >>= fun x27 => (yes (x23 :: x27)))) >>= fun x28 => cN 3 d_are_arrows x28) >>= fun x29 => truthD x29) >>= fun x30 => yes (!x30)) x22) x15) >>= fun x31 => bIf stuck ((slot 1 ρ) >>= fun x32 => ((slot 0 ρ) >>= fun x33 => (fldD g_Reader___init__ "own_letters" x33 x32 >>= fun x34 => ((slot 2 ρ) >>= fun x35 => ((slot 0 ρ) >>= fun x36 => (fldD g_Reader___init__ "own_size" x36 x35 >>= fun x37 => (((slot 2 ρ) >>= fun x38 => rgD x38) >>= fun x39 => ((slot 0 ρ) >>= fun x40 => (fldD g_Reader___init__ "own_states" x40 x39 >>= fun x41 => ((slot 3 ρ) >>= fun x42 => ((slot 0 ρ) >>= fun x43 => (fldD g_Reader___init__ "own_firsts" x43 x42 >>= fun x44 => ((slot 4 ρ) >>= fun x45 => ((slot 0 ρ) >>= fun x46 => (fldD g_Reader___init__ "own_lasts" x46 x45 >>= fun x47 => ((slot 5 ρ) >>= fun x48 => ((slot 0 ρ) >>= fun x49 => (fldD g_Reader___init__ "own_arrows" x49 x48 >>= fun x50 => ((((slot 1 ρ) >>= fun x51 => (((slot 2 ρ) >>= fun x52 => (((slot 5 ρ) >>= fun x53 => (yes [x53])) >>= fun x54 => (yes (x52 :: x54)))) >>= fun x55 => (yes (x51 :: x55)))) >>= fun x56 => cN 3 d_moves_of x56) >>= fun x57 => ((slot 0 ρ) >>= fun x58 => (fldD g_Reader___init__ "own_moves" x58 x57 >>= fun x59 => (fin0 ρ)))))))))))))))))))))) x31) x8))
set_option smartUnfolding false in
theorem u_Reader___init__ {a0 a1 a2 a3 a4 a5 : D} : d_Reader___init__ [a0, a1, a2, a3, a4, a5] = p_Reader___init__ [some a0, some a1, some a2, some a3, some a4, some a5] := (def_cS _ _ _ _).trans rfl
def p__law_made_reader (ρ : Sl) : M D := ((((slot 0 ρ) >>= fun x1 => (ixD x1 (.str "signs"))) >>= fun x2 => ((((slot 0 ρ) >>= fun x3 => (ixD x3 (.str "size"))) >>= fun x4 => ((((slot 0 ρ) >>= fun x5 => (ixD x5 (.str "heads"))) >>= fun x6 => ((((slot 0 ρ) >>= fun x7 => (ixD x7 (.str "tails"))) >>= fun x8 => ((((slot 0 ρ) >>= fun x9 => (ixD x9 (.str "links"))) >>= fun x10 => (yes [x10])) >>= fun x11 => (yes (x8 :: x11)))) >>= fun x12 => (yes (x6 :: x12)))) >>= fun x13 => (yes (x4 :: x13)))) >>= fun x14 => (yes (x2 :: x14)))) >>= fun x15 => mkS "Reader" false 5 d_Reader___init__ x15)
set_option smartUnfolding false in
theorem u__law_made_reader {a0 : D} : d__law_made_reader [a0] = p__law_made_reader [some a0] := (def_cS _ _ _ _).trans rfl
def p_require_same (ρ : Sl) : M D := ((((slot 0 ρ) >>= fun x1 => (yes [x1])) >>= fun x2 => cN 1 d_require_reader x2) >>= fun x3 => ((((slot 1 ρ) >>= fun x4 => (yes [x4])) >>= fun x5 => cN 1 d_require_reader x5) >>= fun x6 => (((((slot 0 ρ) >>= fun x7 => attrD g_require_same "own_letters" x7) >>= fun x8 => (((slot 1 ρ) >>= fun x9 => attrD g_require_same "own_letters" x9) >>= fun x10 => eqO g_require_same true x8 x10)) >>= fun x11 => asB x11) >>= fun x12 => bIf stuck (fin0 ρ) x12)))
set_option smartUnfolding false in
theorem u_require_same {a0 a1 : D} : d_require_same [a0, a1] = p_require_same [some a0, some a1] := (def_cS _ _ _ _).trans rfl
def p_require_size (ρ : Sl) : M D := ((((slot 0 ρ) >>= fun x1 => (gtD x1 (D.int 60))) >>= fun x2 => asB x2) >>= fun x3 => bIf stuck (fin0 ρ) x3)
set_option smartUnfolding false in
theorem u_require_size {a0 : D} : d_require_size [a0] = p_require_size [some a0] := (def_cS _ _ _ _).trans rfl
def e1_pairs_of (ρ : Sl) : M D := (((slot 3 ρ) >>= fun x1 => ((slot 2 ρ) >>= fun x2 => binD .Mult x1 x2)) >>= fun x3 => ((slot 4 ρ) >>= fun x4 => binD .Add x3 x4))
def e2_pairs_of (ρ : Sl) : M (List D) := ((slot 1 ρ) >>= fun x5 => itemsD x5)
def p_pairs_of (ρ : Sl) : M D := (((((slot 0 ρ) >>= fun x6 => itemsD x6) >>= fun x7 => (noX (clS (fun d ρ => some (ρ.set 3 (some d))) nxt (innS e2_pairs_of [4] (fun d ρ => some (ρ.set 4 (some d))) nxt (leafS e1_pairs_of)) (wipeL ρ [3, 4]) x7 []) >>= fun x8 => fixL 0 x8)) >>= fun x9 => (yes [x9])) >>= fun x10 => tupleD x10)
set_option smartUnfolding false in
theorem u_pairs_of {a0 a1 a2 : D} : d_pairs_of [a0, a1, a2] = p_pairs_of [some a0, some a1, some a2, none, none] := (def_cS _ _ _ _).trans rfl
def k1_both_of (k kb kc : Sl → M D) (ρ : Sl) : M D := ((((((slot 0 ρ) >>= fun x12 => attrD g_both_of "own_firsts" x12) >>= fun x13 => ((((slot 1 ρ) >>= fun x14 => attrD g_both_of "own_firsts" x14) >>= fun x15 => (((slot 2 ρ) >>= fun x16 => (yes [x16])) >>= fun x17 => (yes (x15 :: x17)))) >>= fun x18 => (yes (x13 :: x18)))) >>= fun x19 => cN 3 d_pairs_of x19) >>= fun x20 => ((((((slot 0 ρ) >>= fun x21 => attrD g_both_of "own_lasts" x21) >>= fun x22 => ((((slot 1 ρ) >>= fun x23 => attrD g_both_of "own_lasts" x23) >>= fun x24 => (((slot 2 ρ) >>= fun x25 => (yes [x25])) >>= fun x26 => (yes (x24 :: x26)))) >>= fun x27 => (yes (x22 :: x27)))) >>= fun x28 => cN 3 d_pairs_of x28) >>= fun x29 => (yes [x29])) >>= fun x30 => (yes (x20 :: x30)))) >>= fun x31 => s2K x31 fun x10 x11 => sK (fun ρ => ((((slot 0 ρ) >>= fun x32 => attrD g_both_of "own_letters" x32) >>= fun x33 => (((((slot 0 ρ) >>= fun x34 => attrD g_both_of "own_size" x34) >>= fun x35 => ((slot 2 ρ) >>= fun x36 => binD .Mult x35 x36)) >>= fun x37 => (((slot 9 ρ) >>= fun x38 => (((slot 10 ρ) >>= fun x39 => (((((((slot 3 ρ) >>= fun x40 => (yes [x40])) >>= fun x41 => sortedD x41) >>= fun x42 => (yes [x42])) >>= fun x43 => tupleD x43) >>= fun x44 => (yes [x44])) >>= fun x45 => (yes (x39 :: x45)))) >>= fun x46 => (yes (x38 :: x46)))) >>= fun x47 => (yes (x37 :: x47)))) >>= fun x48 => (yes (x33 :: x48)))) >>= fun x49 => mkS "Reader" false 5 d_Reader___init__ x49)) ((ρ.set 9 (some x10)).set 10 (some x11)))
def e1_both_of (ρ : Sl) : M D := (((((slot 4 ρ) >>= fun x56 => ((slot 2 ρ) >>= fun x57 => binD .Mult x56 x57)) >>= fun x58 => ((slot 8 ρ) >>= fun x59 => binD .Add x58 x59)) >>= fun x60 => (((slot 5 ρ) >>= fun x61 => (((((slot 6 ρ) >>= fun x62 => ((slot 2 ρ) >>= fun x63 => binD .Mult x62 x63)) >>= fun x64 => ((slot 11 ρ) >>= fun x65 => binD .Add x64 x65)) >>= fun x66 => (yes [x66])) >>= fun x67 => (yes (x61 :: x67)))) >>= fun x68 => (yes (x60 :: x68)))) >>= fun x69 => tupL x69)
def e2_both_of (ρ : Sl) : M D := (((((slot 4 ρ) >>= fun x76 => ((slot 2 ρ) >>= fun x77 => binD .Mult x76 x77)) >>= fun x78 => ((slot 8 ρ) >>= fun x79 => binD .Add x78 x79)) >>= fun x80 => (((slot 5 ρ) >>= fun x81 => (((((slot 6 ρ) >>= fun x82 => ((slot 2 ρ) >>= fun x83 => binD .Mult x82 x83)) >>= fun x84 => ((slot 11 ρ) >>= fun x85 => binD .Add x84 x85)) >>= fun x86 => (yes [x86])) >>= fun x87 => (yes (x81 :: x87)))) >>= fun x88 => (yes (x80 :: x88)))) >>= fun x89 => tupL x89)
def e3_both_of (ρ : Sl) : M D := (((((slot 4 ρ) >>= fun x96 => ((slot 2 ρ) >>= fun x97 => binD .Mult x96 x97)) >>= fun x98 => ((slot 8 ρ) >>= fun x99 => binD .Add x98 x99)) >>= fun x100 => (((slot 5 ρ) >>= fun x101 => (((((slot 6 ρ) >>= fun x102 => ((slot 2 ρ) >>= fun x103 => binD .Mult x102 x103)) >>= fun x104 => ((slot 11 ρ) >>= fun x105 => binD .Add x104 x105)) >>= fun x106 => (yes [x106])) >>= fun x107 => (yes (x101 :: x107)))) >>= fun x108 => (yes (x100 :: x108)))) >>= fun x109 => tupL x109)
def b2_both_of (K : Sl → M D) (ρ : Sl) (k : Sl → M D) : M D := ((mthS (slot 3 ρ) (mInst g_both_of "extend" (((((slot 7 ρ) >>= fun x110 => ((slot 8 ρ) >>= fun x111 => ixD x110 x111)) >>= fun x112 => itemsD x112) >>= fun x113 => (noX (compL (turnS (fun d ρ => some (ρ.set 11 (some d))) nxt e3_both_of (wipeL ρ [11])) x113 []) >>= fun x114 => fixL 0 x114)) >>= fun x115 => (yes [x115]))) (mCls g_both_of "extend" (((((slot 7 ρ) >>= fun x90 => ((slot 8 ρ) >>= fun x91 => ixD x90 x91)) >>= fun x92 => itemsD x92) >>= fun x93 => (noX (compL (turnS (fun d ρ => some (ρ.set 11 (some d))) nxt e2_both_of (wipeL ρ [11])) x93 []) >>= fun x94 => fixL 0 x94)) >>= fun x95 => (yes [x95]))) ((slot 3 ρ) >>= fun x54 => (chkL x54 >>= fun x55 => (((((slot 7 ρ) >>= fun x70 => ((slot 8 ρ) >>= fun x71 => ixD x70 x71)) >>= fun x72 => itemsD x72) >>= fun x73 => (noX (compL (turnS (fun d ρ => some (ρ.set 11 (some d))) nxt e1_both_of (wipeL ρ [11])) x73 []) >>= fun x74 => fixL 0 x74)) >>= fun x75 => extD x54 x75)))) >>= fun x116 => (k ρ))
def b1_both_of (K : Sl → M D) (ρ : Sl) (k : Sl → M D) : M D := ((((slot 1 ρ) >>= fun x50 => attrD g_both_of "own_moves" x50) >>= fun x51 => ((slot 5 ρ) >>= fun x52 => ixD x51 x52)) >>= fun x53 => sK (fun ρ => (((slot 2 ρ) >>= fun x117 => rg1 x117) >>= fun x118 => cL (fun d ρ => some (ρ.set 8 (some d))) (b2_both_of k) k x118 ρ)) (ρ.set 7 (some x53)))
def p_both_of (ρ : Sl) : M D := (((slot 1 ρ) >>= fun x1 => attrD g_both_of "own_size" x1) >>= fun x2 => sK (fun ρ => ((((((slot 0 ρ) >>= fun x3 => attrD g_both_of "own_size" x3) >>= fun x4 => ((slot 2 ρ) >>= fun x5 => binD .Mult x4 x5)) >>= fun x6 => (yes [x6])) >>= fun x7 => cN 1 d_require_size x7) >>= fun x8 => ((newL 1 []) >>= fun x9 => sK (fun ρ => ((((slot 0 ρ) >>= fun x119 => attrD g_both_of "own_arrows" x119) >>= fun x120 => itemsD x120) >>= fun x121 => cL (uT (some [4, 5, 6])) (b1_both_of (k1_both_of fin0 fin1 fin1)) (k1_both_of fin0 fin1 fin1) x121 ρ)) (ρ.set 3 (some x9))))) (ρ.set 2 (some x2)))
set_option smartUnfolding false in
theorem u_both_of {a0 a1 : D} : d_both_of [a0, a1] = p_both_of [some a0, some a1, none, none, none, none, none, none, none, none, none, none] := (def_cS _ _ _ _).trans rfl
def p_both (ρ : Sl) : M D := ((((slot 0 ρ) >>= fun x1 => (((slot 1 ρ) >>= fun x2 => (yes [x2])) >>= fun x3 => (yes (x1 :: x3)))) >>= fun x4 => cN 2 d_require_same x4) >>= fun x5 => (((slot 0 ρ) >>= fun x6 => (((slot 1 ρ) >>= fun x7 => (yes [x7])) >>= fun x8 => (yes (x6 :: x8)))) >>= fun x9 => cN 2 d_both_of x9))
set_option smartUnfolding false in
theorem u_both {a0 a1 : D} : d_both [a0, a1] = p_both [some a0, some a1] := (def_cS _ _ _ _).trans rfl
def e1__law_head_line (ρ : Sl) : M D := ((((slot 1 ρ) >>= fun x1 => (((slot 0 ρ) >>= fun x2 => (ixD x2 (.str "heads"))) >>= fun x3 => inO g__law_head_line false x1 x3)) >>= fun x4 => (yes [x4])) >>= fun x5 => intD x5)
def p__law_head_line (ρ : Sl) : M D := ((((slot 0 ρ) >>= fun x6 => (ixD x6 (.str "size"))) >>= fun x7 => rg1 x7) >>= fun x8 => (noX (compL (turnS (fun d ρ => some (ρ.set 1 (some d))) nxt e1__law_head_line (wipeL ρ [1])) x8 []) >>= fun x9 => fixL 0 x9))
set_option smartUnfolding false in
theorem u__law_head_line {a0 : D} : d__law_head_line [a0] = p__law_head_line [some a0, none] := (def_cS _ _ _ _).trans rfl
def e1__law_tail_sum (ρ : Sl) : M D := ((slot 1 ρ) >>= fun x1 => ((slot 2 ρ) >>= fun x2 => ixD x1 x2))
def p__law_tail_sum (ρ : Sl) : M D := ((((((slot 0 ρ) >>= fun x3 => (ixD x3 (.str "tails"))) >>= fun x4 => itemsD x4) >>= fun x5 => (noX (compL (turnS (fun d ρ => some (ρ.set 2 (some d))) nxt e1__law_tail_sum (wipeL ρ [2])) x5 []) >>= fun x6 => fixL 0 x6)) >>= fun x7 => (yes [x7])) >>= fun x8 => sumD x8)
set_option smartUnfolding false in
theorem u__law_tail_sum {a0 a1 : D} : d__law_tail_sum [a0, a1] = p__law_tail_sum [some a0, some a1, none] := (def_cS _ _ _ _).trans rfl
def k1__law_put (k kb kc : Sl → M D) (ρ : Sl) : M D := (slot 3 ρ >>= frzD)
def b1__law_put (K : Sl → M D) (ρ : Sl) (k : Sl → M D) : M D := ((((slot 5 ρ) >>= fun x5 => ((slot 2 ρ) >>= fun x6 => eqO g__law_put false x5 x6)) >>= fun x7 => asB x7) >>= fun x8 => bIf ((((slot 3 ρ) >>= fun x9 => ((slot 6 ρ) >>= fun x10 => ixD x9 x10)) >>= fun x11 => (((slot 1 ρ) >>= fun x12 => ((slot 4 ρ) >>= fun x13 => ixD x12 x13)) >>= fun x14 => binD .Add x11 x14)) >>= fun x15 => ((slot 3 ρ) >>= fun x16 => ((slot 6 ρ) >>= fun x17 => (setD x16 x17 x15 >>= fun x18 => (k ρ))))) (k ρ) x8)
def p__law_put (ρ : Sl) : M D := (((newL 1 [(.int 0)]) >>= fun x1 => (((slot 0 ρ) >>= fun x2 => (ixD x2 (.str "size"))) >>= fun x3 => mulC x1 x3)) >>= fun x4 => sK (fun ρ => ((((slot 0 ρ) >>= fun x19 => (ixD x19 (.str "links"))) >>= fun x20 => itemsD x20) >>= fun x21 => cL (uT (some [4, 5, 6])) (b1__law_put (k1__law_put fin0 fin1 fin1)) (k1__law_put fin0 fin1 fin1) x21 ρ)) (ρ.set 3 (some x4)))
set_option smartUnfolding false in
theorem u__law_put {a0 a1 a2 : D} : d__law_put [a0, a1, a2] = p__law_put [some a0, some a1, some a2, none, none, none, none] := (def_cS _ _ _ _).trans rfl
def k1__law_ways_of (k kb kc : Sl → M D) (ρ : Sl) : M D := (((slot 0 ρ) >>= fun x4 => (((slot 2 ρ) >>= fun x5 => (yes [x5])) >>= fun x6 => (yes (x4 :: x6)))) >>= fun x7 => cN 2 d__law_tail_sum x7)
def b1__law_ways_of (K : Sl → M D) (ρ : Sl) (k : Sl → M D) : M D := ((((slot 0 ρ) >>= fun x8 => (((slot 2 ρ) >>= fun x9 => (((slot 3 ρ) >>= fun x10 => (yes [x10])) >>= fun x11 => (yes (x9 :: x11)))) >>= fun x12 => (yes (x8 :: x12)))) >>= fun x13 => cN 3 d__law_put x13) >>= fun x14 => sK (fun ρ => (k ρ)) (ρ.set 2 (some x14)))
def p__law_ways_of (ρ : Sl) : M D := ((((slot 0 ρ) >>= fun x1 => (yes [x1])) >>= fun x2 => cN 1 d__law_head_line x2) >>= fun x3 => sK (fun ρ => (((slot 1 ρ) >>= fun x15 => itemsD x15) >>= fun x16 => cL (fun d ρ => some (ρ.set 3 (some d))) (b1__law_ways_of (k1__law_ways_of fin0 fin1 fin1)) (k1__law_ways_of fin0 fin1 fin1) x16 ρ)) (ρ.set 2 (some x3)))
set_option smartUnfolding false in
theorem u__law_ways_of {a0 a1 : D} : d__law_ways_of [a0, a1] = p__law_ways_of [some a0, some a1, none, none] := (def_cS _ _ _ _).trans rfl
def k1__law_step_line (k kb kc : Sl → M D) (ρ : Sl) : M D := (slot 2 ρ >>= frzD)
def b1__law_step_line (K : Sl → M D) (ρ : Sl) (k : Sl → M D) : M D := ((((slot 2 ρ) >>= fun x5 => ((slot 5 ρ) >>= fun x6 => ixD x5 x6)) >>= fun x7 => (((slot 1 ρ) >>= fun x8 => ((slot 3 ρ) >>= fun x9 => ixD x8 x9)) >>= fun x10 => binD .Add x7 x10)) >>= fun x11 => ((slot 2 ρ) >>= fun x12 => ((slot 5 ρ) >>= fun x13 => (setD x12 x13 x11 >>= fun x14 => (k ρ)))))
def p__law_step_line (ρ : Sl) : M D := (((newL 1 [(.int 0)]) >>= fun x1 => (((slot 0 ρ) >>= fun x2 => (ixD x2 (.str "size"))) >>= fun x3 => mulC x1 x3)) >>= fun x4 => sK (fun ρ => ((((slot 0 ρ) >>= fun x15 => (ixD x15 (.str "links"))) >>= fun x16 => itemsD x16) >>= fun x17 => cL (uT (some [3, 4, 5])) (b1__law_step_line (k1__law_step_line fin0 fin1 fin1)) (k1__law_step_line fin0 fin1 fin1) x17 ρ)) (ρ.set 2 (some x4)))
set_option smartUnfolding false in
theorem u__law_step_line {a0 a1 : D} : d__law_step_line [a0, a1] = p__law_step_line [some a0, some a1, none, none, none, none] := (def_cS _ _ _ _).trans rfl
def k1__law_sums_of (k kb kc : Sl → M D) (ρ : Sl) : M D := (slot 4 ρ >>= frzD)
def b1__law_sums_of (K : Sl → M D) (ρ : Sl) (k : Sl → M D) : M D := ((mthS (slot 4 ρ) (mInst g__law_sums_of "append" ((((slot 0 ρ) >>= fun x21 => (((slot 3 ρ) >>= fun x22 => (yes [x22])) >>= fun x23 => (yes (x21 :: x23)))) >>= fun x24 => cN 2 d__law_tail_sum x24) >>= fun x25 => (yes [x25]))) (mCls g__law_sums_of "append" ((((slot 0 ρ) >>= fun x16 => (((slot 3 ρ) >>= fun x17 => (yes [x17])) >>= fun x18 => (yes (x16 :: x18)))) >>= fun x19 => cN 2 d__law_tail_sum x19) >>= fun x20 => (yes [x20]))) ((slot 4 ρ) >>= fun x9 => (chkL x9 >>= fun x10 => ((((slot 0 ρ) >>= fun x11 => (((slot 3 ρ) >>= fun x12 => (yes [x12])) >>= fun x13 => (yes (x11 :: x13)))) >>= fun x14 => cN 2 d__law_tail_sum x14) >>= fun x15 => appD x9 x15)))) >>= fun x26 => ((((slot 0 ρ) >>= fun x27 => (((slot 3 ρ) >>= fun x28 => (yes [x28])) >>= fun x29 => (yes (x27 :: x29)))) >>= fun x30 => cN 2 d__law_step_line x30) >>= fun x31 => sK (fun ρ => (k ρ)) (ρ.set 3 (some x31))))
def p__law_sums_of (ρ : Sl) : M D := (((((slot 0 ρ) >>= fun x3 => (yes [x3])) >>= fun x4 => cN 1 d__law_head_line x4) >>= fun x5 => (((newL 1 []) >>= fun x6 => (yes [x6])) >>= fun x7 => (yes (x5 :: x7)))) >>= fun x8 => s2K x8 fun x1 x2 => sK (fun ρ => (((slot 1 ρ) >>= fun x32 => rg1 x32) >>= fun x33 => cL (fun d ρ => some (ρ.set 2 (some d))) (b1__law_sums_of (k1__law_sums_of fin0 fin1 fin1)) (k1__law_sums_of fin0 fin1 fin1) x33 ρ)) ((ρ.set 3 (some x1)).set 4 (some x2)))
set_option smartUnfolding false in
theorem u__law_sums_of {a0 a1 : D} : d__law_sums_of [a0, a1] = p__law_sums_of [some a0, some a1, none, none, none] := (def_cS _ _ _ _).trans rfl
def k1__law_words_of (k kb kc : Sl → M D) (ρ : Sl) : M D := (slot 2 ρ)
def k2__law_words_of (k kb kc : Sl → M D) (ρ : Sl) : M D := ((slot 4 ρ) >>= fun x3 => sK (fun ρ => (k ρ)) (ρ.set 2 (some x3)))
def e1__law_words_of (ρ : Sl) : M D := ((slot 5 ρ) >>= fun x5 => ((slot 6 ρ) >>= fun x6 => binD .Add x5 x6))
def b2__law_words_of (K : Sl → M D) (ρ : Sl) (k : Sl → M D) : M D := (((slot 4 ρ) >>= fun x4 => ((((slot 0 ρ) >>= fun x7 => itemsD x7) >>= fun x8 => (noX (compL (turnS (fun d ρ => some (ρ.set 6 (some d))) nxt e1__law_words_of (wipeL ρ [6])) x8 []) >>= fun x9 => fixL 0 x9)) >>= fun x10 => binD .Add x4 x10)) >>= fun x11 => sK (fun ρ => (k ρ)) (ρ.set 4 (some x11)))
def b1__law_words_of (K : Sl → M D) (ρ : Sl) (k : Sl → M D) : M D := ((newL 0 []) >>= fun x2 => sK (fun ρ => (((slot 2 ρ) >>= fun x12 => itemsD x12) >>= fun x13 => cL (fun d ρ => some (ρ.set 5 (some d))) (b2__law_words_of (k2__law_words_of k K k)) (k2__law_words_of k K k) x13 ρ)) (ρ.set 4 (some x2)))
def p__law_words_of (ρ : Sl) : M D := ((newL 0 [(.str "")]) >>= fun x1 => sK (fun ρ => (((slot 1 ρ) >>= fun x14 => rg1 x14) >>= fun x15 => cL (fun d ρ => some (ρ.set 3 (some d))) (b1__law_words_of (k1__law_words_of fin0 fin1 fin1)) (k1__law_words_of fin0 fin1 fin1) x15 ρ)) (ρ.set 2 (some x1)))
set_option smartUnfolding false in
theorem u__law_words_of {a0 a1 : D} : d__law_words_of [a0, a1] = p__law_words_of [some a0, some a1, none, none, none, none, none] := (def_cS _ _ _ _).trans rfl
def e1_Reader_over (ρ : Sl) : M D := ((slot 2 ρ) >>= fun x4 => ((slot 1 ρ) >>= fun x5 => inO g_Reader_over false x4 x5))
def p_Reader_over (ρ : Sl) : M D := ((((slot 1 ρ) >>= fun x1 => (yes [x1])) >>= fun x2 => cN 1 d_require_letters x2) >>= fun x3 => (((((((((slot 0 ρ) >>= fun x6 => attrD g_Reader_over "own_letters" x6) >>= fun x7 => itemsD x7) >>= fun x8 => (noX (compL (turnS (fun d ρ => some (ρ.set 2 (some d))) nxt e1_Reader_over (wipeL ρ [2])) x8 []) >>= fun x9 => fixL 0 x9)) >>= fun x10 => (yes [x10])) >>= fun x11 => allD x11) >>= fun x12 => truthD x12) >>= fun x13 => yes (!x13)) >>= fun x14 => bIf stuck (((slot 1 ρ) >>= fun x15 => ((((slot 0 ρ) >>= fun x16 => attrD g_Reader_over "own_size" x16) >>= fun x17 => ((((slot 0 ρ) >>= fun x18 => attrD g_Reader_over "own_firsts" x18) >>= fun x19 => ((((slot 0 ρ) >>= fun x20 => attrD g_Reader_over "own_lasts" x20) >>= fun x21 => ((((slot 0 ρ) >>= fun x22 => attrD g_Reader_over "own_arrows" x22) >>= fun x23 => (yes [x23])) >>= fun x24 => (yes (x21 :: x24)))) >>= fun x25 => (yes (x19 :: x25)))) >>= fun x26 => (yes (x17 :: x26)))) >>= fun x27 => (yes (x15 :: x27)))) >>= fun x28 => mkS "Reader" false 5 d_Reader___init__ x28) x14))
set_option smartUnfolding false in
theorem u_Reader_over {a0 a1 : D} : d_Reader_over [a0, a1] = p_Reader_over [some a0, some a1, none] := (def_cS _ _ _ _).trans rfl
def e1__law_right (ρ : Sl) : M D := (((slot 2 ρ) >>= fun x26 => (((slot 9 ρ) >>= fun x27 => (yes [x27])) >>= fun x28 => (yes (x26 :: x28)))) >>= fun x29 => cN 2 d__law_ways_of x29)
def e2__law_right (ρ : Sl) : M D := (((((((slot 1 ρ) >>= fun x30 => (((slot 8 ρ) >>= fun x31 => (yes [x31])) >>= fun x32 => (yes (x30 :: x32)))) >>= fun x33 => cN 2 d__law_words_of x33) >>= fun x34 => itemsD x34) >>= fun x35 => (noX (compL (turnS (fun d ρ => some (ρ.set 9 (some d))) nxt e1__law_right (wipeL ρ [9])) x35 []) >>= fun x36 => fixL 0 x36)) >>= fun x37 => (yes [x37])) >>= fun x38 => sumD x38)
def e3__law_right (ρ : Sl) : M D := (((slot 6 ρ) >>= fun x59 => (((slot 8 ρ) >>= fun x60 => (yes [x60])) >>= fun x61 => (yes (x59 :: x61)))) >>= fun x62 => cN 2 d_total x62)
def e4__law_right (ρ : Sl) : M D := ((((slot 10 ρ) >>= fun x105 => (yes [x105, (.int 0)])) >>= fun x106 => (yes ((.int 0) :: x106))) >>= fun x107 => tupL x107)
def p__law_right (ρ : Sl) : M D := ((((slot 0 ρ) >>= fun x1 => (yes [x1])) >>= fun x2 => cN 1 d__law_signs x2) >>= fun x3 => sK (fun ρ => ((((slot 0 ρ) >>= fun x4 => (((slot 1 ρ) >>= fun x5 => (yes [x5, (.int 4)])) >>= fun x6 => (yes (x4 :: x6)))) >>= fun x7 => cN 3 d__law_any_reader x7) >>= fun x8 => sK (fun ρ => ((((((slot 2 ρ) >>= fun x9 => (yes [x9])) >>= fun x10 => cN 1 d__law_made_reader x10) >>= fun x11 => ((((((((slot 1 ρ) >>= fun x12 => (yes [x12])) >>= fun x13 => lenO g__law_right x13) >>= fun x14 => (eqO g__law_right false x14 (.int 1))) >>= fun x15 => asB x15) >>= fun x16 => bIf (yes (.int 7)) ((((((slot 1 ρ) >>= fun x17 => (yes [x17])) >>= fun x18 => lenO g__law_right x18) >>= fun x19 => (eqO g__law_right false x19 (.int 2))) >>= fun x20 => asB x20) >>= fun x21 => bIf (yes (.int 6)) (yes (.int 5)) x21) x16) >>= fun x22 => (yes [x22])) >>= fun x23 => (yes (x11 :: x23)))) >>= fun x24 => tupL x24) >>= fun x25 => stK (uT (some [6, 7]) x25 ρ) fun ρ => ((((slot 7 ρ) >>= fun x39 => rg1 x39) >>= fun x40 => (noX (compL (turnS (fun d ρ => some (ρ.set 8 (some d))) nxt e2__law_right (wipeL ρ [8])) x40 []) >>= fun x41 => fixL 0 x41)) >>= fun x42 => sK (fun ρ => (((((((slot 6 ρ) >>= fun x43 => (((slot 7 ρ) >>= fun x44 => (yes [x44])) >>= fun x45 => (yes (x43 :: x45)))) >>= fun x46 => cN 2 d_totals x46) >>= fun x47 => ((((slot 3 ρ) >>= fun x48 => (yes [x48])) >>= fun x49 => tupleD x49) >>= fun x50 => eqO g__law_right true x47 x50)) >>= fun x51 => asB x51) >>= fun x52 => tOr (((((slot 6 ρ) >>= fun x53 => (yes [x53, (.int 0)])) >>= fun x54 => cN 2 d_totals x54) >>= fun x55 => ((tupL []) >>= fun x56 => eqO g__law_right true x55 x56)) >>= fun x57 => asB x57) x52) >>= fun x58 => bIf (yes (.bl false)) ((((((slot 7 ρ) >>= fun x63 => rg1 x63) >>= fun x64 => (noX (compL (turnS (fun d ρ => some (ρ.set 8 (some d))) nxt e3__law_right (wipeL ρ [8])) x64 []) >>= fun x65 => fixL 0 x65)) >>= fun x66 => ((slot 3 ρ) >>= fun x67 => eqO g__law_right true x66 x67)) >>= fun x68 => asB x68) >>= fun x69 => bIf (yes (.bl false)) ((((slot 0 ρ) >>= fun x70 => (yes [x70, (.int 60)])) >>= fun x71 => cN 2 d__law_bit x71) >>= fun x72 => sK (fun ρ => (((((((slot 6 ρ) >>= fun x73 => (((slot 4 ρ) >>= fun x74 => (yes [x74])) >>= fun x75 => (yes (x73 :: x75)))) >>= fun x76 => cN 2 d_totals x76) >>= fun x77 => ((((((slot 2 ρ) >>= fun x78 => (((slot 4 ρ) >>= fun x79 => (yes [x79])) >>= fun x80 => (yes (x78 :: x80)))) >>= fun x81 => cN 2 d__law_sums_of x81) >>= fun x82 => (yes [x82])) >>= fun x83 => tupleD x83) >>= fun x84 => eqO g__law_right true x77 x84)) >>= fun x85 => asB x85) >>= fun x86 => tOr (((((slot 6 ρ) >>= fun x87 => (((slot 4 ρ) >>= fun x88 => (yes [x88])) >>= fun x89 => (yes (x87 :: x89)))) >>= fun x90 => cN 2 d_total x90) >>= fun x91 => (((((slot 2 ρ) >>= fun x92 => ((((slot 4 ρ) >>= fun x93 => (binD .Add x93 (.int 1))) >>= fun x94 => (yes [x94])) >>= fun x95 => (yes (x92 :: x95)))) >>= fun x96 => cN 2 d__law_sums_of x96) >>= fun x97 => ((negD (.int 1)) >>= fun x98 => ixD x97 x98)) >>= fun x99 => eqO g__law_right true x91 x99)) >>= fun x100 => asB x100) x86) >>= fun x101 => bIf (yes (.bl false)) ((((slot 1 ρ) >>= fun x102 => ((((tupL [(.int 0)]) >>= fun x103 => (((tupL [(.int 0)]) >>= fun x104 => (((((((slot 1 ρ) >>= fun x108 => itemsD x108) >>= fun x109 => (noX (compL (turnS (fun d ρ => some (ρ.set 10 (some d))) nxt e4__law_right (wipeL ρ [10])) x109 []) >>= fun x110 => fixL 0 x110)) >>= fun x111 => (yes [x111])) >>= fun x112 => tupleD x112) >>= fun x113 => (yes [x113])) >>= fun x114 => (yes (x104 :: x114)))) >>= fun x115 => (yes (x103 :: x115)))) >>= fun x116 => (yes ((.int 1) :: x116))) >>= fun x117 => (yes (x102 :: x117)))) >>= fun x118 => mkS "Reader" false 5 d_Reader___init__ x118) >>= fun x119 => sK (fun ρ => ((((mthS (slot 6 ρ) (mInst g__law_right "over" (((slot 1 ρ) >>= fun x122 => (binD .Add x122 (.str "z"))) >>= fun x123 => (yes [x123]))) (mCls g__law_right "over" (((slot 1 ρ) >>= fun x120 => (binD .Add x120 (.str "z"))) >>= fun x121 => (yes [x121]))) stuck) >>= fun x124 => (((slot 7 ρ) >>= fun x125 => (yes [x125])) >>= fun x126 => (yes (x124 :: x126)))) >>= fun x127 => cN 2 d_totals x127) >>= fun x128 => ((((slot 3 ρ) >>= fun x129 => (yes [x129])) >>= fun x130 => tupleD x130) >>= fun x131 => (eqO g__law_right false x128 x131 >>= fun x132 => chS ((((((slot 6 ρ) >>= fun x133 => (((slot 5 ρ) >>= fun x134 => (yes [x134])) >>= fun x135 => (yes (x133 :: x135)))) >>= fun x136 => cN 2 d_both x136) >>= fun x137 => (((slot 7 ρ) >>= fun x138 => (yes [x138])) >>= fun x139 => (yes (x137 :: x139)))) >>= fun x140 => cN 2 d_totals x140) >>= fun x141 => eqO g__law_right false x131 x141) x132)))) (ρ.set 5 (some x119))) x101)) (ρ.set 4 (some x72))) x69) x58)) (ρ.set 3 (some x42))))) (ρ.set 2 (some x8)))) (ρ.set 1 (some x3)))
set_option smartUnfolding false in
theorem u__law_right {a0 : D} : d__law_right [a0] = p__law_right [some a0, none, none, none, none, none, none, none, none, none, none] := (def_cS _ _ _ _).trans rfl
def k2_law (k kb kc : Sl → M D) (ρ : Sl) : M D := ((((((slot 2 ρ) >>= fun x54 => (yes [x54, (.int 5)])) >>= fun x55 => cN 2 d_totals x55) >>= fun x56 => (((((slot 3 ρ) >>= fun x57 => (yes [x57, (.int 5)])) >>= fun x58 => cN 2 d_totals x58) >>= fun x59 => (((((slot 4 ρ) >>= fun x60 => (yes [x60, (.int 8)])) >>= fun x61 => cN 2 d_totals x61) >>= fun x62 => ((((((slot 2 ρ) >>= fun x63 => (yes [x63, (.int 400)])) >>= fun x64 => cN 2 d_total x64) >>= fun x65 => ((slot 5 ρ) >>= fun x66 => eqO g_law false x65 x66)) >>= fun x67 => ((((((slot 3 ρ) >>= fun x68 => (yes [x68, (.int 400)])) >>= fun x69 => cN 2 d_total x69) >>= fun x70 => (((slot 5 ρ) >>= fun x71 => binD .Mult (.int 400) x71) >>= fun x72 => eqO g_law false x70 x72)) >>= fun x73 => (yes [x73])) >>= fun x74 => (yes (x67 :: x74)))) >>= fun x75 => (yes (x62 :: x75)))) >>= fun x76 => (yes (x59 :: x76)))) >>= fun x77 => (yes (x56 :: x77)))) >>= fun x78 => newL 0 x78) >>= fun x79 => sK (fun ρ => ((slot 7 ρ) >>= fun x80 => ((((tupL [(.int 0), (.int 1), (.int 2), (.int 4), (.int 8)]) >>= fun x81 => (((tupL [(.int 0), (.int 1), (.int 4), (.int 12), (.int 32)]) >>= fun x82 => (((tupL [(.int 1), (.int 0), (.int 1), (.int 1), (.int 1), (.int 0), (.int 1), (.int 1)]) >>= fun x83 => (yes [x83, (.bl true), (.bl true)])) >>= fun x84 => (yes (x82 :: x84)))) >>= fun x85 => (yes (x81 :: x85)))) >>= fun x86 => newL 0 x86) >>= fun x87 => eqO g_law false x80 x87))) (ρ.set 7 (some x79)))
def b2_law (K : Sl → M D) (ρ : Sl) (k : Sl → M D) : M D := (((slot 5 ρ) >>= fun x88 => binD .Mult (.int 2) x88) >>= fun x89 => sK (fun ρ => (k ρ)) (ρ.set 5 (some x89)))
def k1_law (k kb kc : Sl → M D) (ρ : Sl) : M D := ((((((tupL [(.int 0)]) >>= fun x1 => (((tupL [(.int 1)]) >>= fun x2 => (((((tupL [(.int 0), (.str "a"), (.int 1)]) >>= fun x3 => (((tupL [(.int 0), (.str "b"), (.int 0)]) >>= fun x4 => (((tupL [(.int 1), (.str "a"), (.int 0)]) >>= fun x5 => (((tupL [(.int 1), (.str "b"), (.int 1)]) >>= fun x6 => (yes [x6])) >>= fun x7 => (yes (x5 :: x7)))) >>= fun x8 => (yes (x4 :: x8)))) >>= fun x9 => (yes (x3 :: x9)))) >>= fun x10 => tupL x10) >>= fun x11 => (yes [x11])) >>= fun x12 => (yes (x2 :: x12)))) >>= fun x13 => (yes (x1 :: x13)))) >>= fun x14 => (yes ((.int 2) :: x14))) >>= fun x15 => (yes ((.str "ab") :: x15))) >>= fun x16 => mkS "Reader" false 5 d_Reader___init__ x16) >>= fun x17 => sK (fun ρ => ((((((tupL [(.int 0)]) >>= fun x18 => (((tupL [(.int 1)]) >>= fun x19 => (((((tupL [(.int 0), (.str "a"), (.int 0)]) >>= fun x20 => (((tupL [(.int 0), (.str "a"), (.int 1)]) >>= fun x21 => (((tupL [(.int 0), (.str "b"), (.int 0)]) >>= fun x22 => (((tupL [(.int 1), (.str "a"), (.int 1)]) >>= fun x23 => (((tupL [(.int 1), (.str "b"), (.int 1)]) >>= fun x24 => (yes [x24])) >>= fun x25 => (yes (x23 :: x25)))) >>= fun x26 => (yes (x22 :: x26)))) >>= fun x27 => (yes (x21 :: x27)))) >>= fun x28 => (yes (x20 :: x28)))) >>= fun x29 => tupL x29) >>= fun x30 => (yes [x30])) >>= fun x31 => (yes (x19 :: x31)))) >>= fun x32 => (yes (x18 :: x32)))) >>= fun x33 => (yes ((.int 2) :: x33))) >>= fun x34 => (yes ((.str "ab") :: x34))) >>= fun x35 => mkS "Reader" false 5 d_Reader___init__ x35) >>= fun x36 => sK (fun ρ => ((((((tupL [(.int 0)]) >>= fun x37 => (((tupL [(.int 0), (.int 2), (.int 3)]) >>= fun x38 => (((((tupL [(.int 0), (.str "a"), (.int 1)]) >>= fun x39 => (((tupL [(.int 1), (.str "a"), (.int 2)]) >>= fun x40 => (((tupL [(.int 2), (.str "a"), (.int 3)]) >>= fun x41 => (((tupL [(.int 3), (.str "a"), (.int 0)]) >>= fun x42 => (yes [x42])) >>= fun x43 => (yes (x41 :: x43)))) >>= fun x44 => (yes (x40 :: x44)))) >>= fun x45 => (yes (x39 :: x45)))) >>= fun x46 => tupL x46) >>= fun x47 => (yes [x47])) >>= fun x48 => (yes (x38 :: x48)))) >>= fun x49 => (yes (x37 :: x49)))) >>= fun x50 => (yes ((.int 4) :: x50))) >>= fun x51 => (yes ((.str "a") :: x51))) >>= fun x52 => mkS "Reader" false 5 d_Reader___init__ x52) >>= fun x53 => sK (fun ρ => (sK (fun ρ => ((rg1 (.int 399)) >>= fun x90 => cL (fun d ρ => some (ρ.set 6 (some d))) (b2_law (k2_law k kb kc)) (k2_law k kb kc) x90 ρ)) (ρ.set 5 (some (.int 1))))) (ρ.set 4 (some x53)))) (ρ.set 3 (some x36)))) (ρ.set 2 (some x17)))
def b1_law (K : Sl → M D) (ρ : Sl) (k : Sl → M D) : M D := ((((slot 0 ρ) >>= fun x91 => (((slot 1 ρ) >>= fun x92 => (yes [x92])) >>= fun x93 => (yes (x91 :: x93)))) >>= fun x94 => cN 2 d__law_pot x94) >>= fun x95 => sK (fun ρ => (((((((slot 8 ρ) >>= fun x96 => (yes [x96])) >>= fun x97 => cN 1 d__law_right x97) >>= fun x98 => truthD x98) >>= fun x99 => yes (!x99)) >>= fun x100 => tOr (((((slot 8 ρ) >>= fun x101 => (yes [x101])) >>= fun x102 => cN 1 d__law_right x102) >>= fun x103 => truthD x103) >>= fun x104 => yes (!x104)) x100) >>= fun x105 => bIf (yes (.bl false)) (k ρ) x105)) (ρ.set 8 (some x95)))
def p_law (ρ : Sl) : M D := (((((((((((slot 0 ρ) >>= fun x106 => (yes [x106])) >>= fun x107 => lenO g_law x107) >>= fun x108 => (yes [x108])) >>= fun x109 => (yes ((.int 5) :: x109))) >>= fun x110 => min2D x110) >>= fun x111 => (yes [x111])) >>= fun x112 => (yes ((.int 1) :: x112))) >>= fun x113 => max2D x113) >>= fun x114 => rg1 x114) >>= fun x115 => cL (fun d ρ => some (ρ.set 1 (some d))) (b1_law (k1_law fin0 fin1 fin1)) (k1_law fin0 fin1 fin1) x115 ρ)
end K12

set_option Elab.async false
set_option linter.all false
set_option maxRecDepth 100000
/-! Pu42: plain lemmas: comprehensions over typed lists, slices, zips, all and any, cells. -/
namespace Pu
open PySem L2
def nxR {α : Type} (x : R α) : R α := match x with
  | .ok a μ => .ok a μ
  | _ => .stuck
section
variable {α β γ : Type} {μ : Sto} {ρ : Sl} {G : Ctx}
@[simp ↓] theorem noX_ap {x : M α} : noX x μ = nxR (x μ) := by
  unfold noX nxR
  cases x μ <;> rfl
@[simp] theorem nxR_ok {a : α} : nxR (.ok a μ) = .ok a μ := (rfl)
theorem fm_congr {g h : α → Option β} : ∀ {xs : List α}, (∀ x ∈ xs, g x = h x) → xs.filterMap g = xs.filterMap h
  | [], _ => rfl
  | x :: xs, e => by rw [List.filterMap_cons, List.filterMap_cons, e x List.mem_cons_self, fm_congr fun y hy => e y (List.mem_cons_of_mem _ hy)]
theorem comp_gen {f : D → M (Option D)} {e : α → D} {g : α → Option D} (xs : List α) (h : ∀ x ∈ xs, f (e x) μ = .ok (g x) μ) (hl : xs.length ≤ sizeLine) : compL f (xs.map e) [] μ = .ok (xs.filterMap g) μ := by
  have q := comp_pure (f := f) (μ := μ) (g := fun d => match f d μ with | .ok a _ => a | _ => none) (xs.map e) [] (fun d hd => by
    obtain ⟨x, hx, rfl⟩ := List.mem_map.mp hd
    rw [h x hx]) (by simpa using hl)
  rw [q, List.nil_append, List.filterMap_map]
  refine congrArg (fun z => R.ok z μ) (fm_congr fun x hx => ?_)
  simp [h x hx]
/-- [g for x in xs] -/
theorem cmp_map {u : D → Sl → Option Sl} {t : Sl → M Bool} {el : Sl → M D} {e g : α → D} {xs : List α} (h : ∀ x ∈ xs, turnS u t el ρ (e x) μ = .ok (some (g x)) μ) (hl : xs.length ≤ sizeLine) :
    compL (turnS u t el ρ) (xs.map e) [] μ = .ok (xs.map g) μ := by
  rw [comp_gen (g := fun x => some (g x)) xs h hl, List.filterMap_eq_map']
/-- [g for x in xs if p] -/
theorem cmp_if {u : D → Sl → Option Sl} {t : Sl → M Bool} {el : Sl → M D} {e g : α → D} {p : α → Bool} {xs : List α} (h : ∀ x ∈ xs, turnS u t el ρ (e x) μ = .ok (if p x then some (g x) else none) μ) (hl : xs.length ≤ sizeLine) :
    compL (turnS u t el ρ) (xs.map e) [] μ = .ok ((xs.filter p).map g) μ := by
  rw [comp_gen (g := fun x => if p x then some (g x) else none) xs h hl, ← List.filterMap_eq_map, List.filterMap_filter]
  refine congrArg (fun z => R.ok z μ) (fm_congr fun x hx => ?_)
  simp
@[simp] theorem nxt_ap : nxt ρ μ = .ok true μ := (rfl)
theorem blsOf_bls (p : α → Bool) (xs : List α) : blsOf (xs.map fun x => D.bl (p x)) = some (xs.map p) := by
  induction xs with
  | nil => rfl
  | cons a r ih => simp [blsOf, ih]
@[simp] theorem all_bls {p : α → Bool} {xs : List α} : allD [.lst (xs.map fun x => D.bl (p x))] μ = .ok (.bl (xs.all p)) μ := by
  unfold allD
  simp [blsOf_bls]
@[simp] theorem any_bls {p : α → Bool} {xs : List α} : anyD [.lst (xs.map fun x => D.bl (p x))] μ = .ok (.bl (xs.any p)) μ := by
  unfold anyD
  simp [blsOf_bls]
theorem cut_from1 (xs : List D) : cutL xs (some 1) none = xs.tail := by
  unfold cutL HT.sIx
  cases xs with
  | nil => rfl
  | cons a r => simp
theorem cut_to (xs : List D) (k : Nat) : cutL xs none (some (k : Int)) = xs.take k := by
  unfold cutL HT.sIx
  have h : ¬ ((k : Int) < 0) := by omega
  simp [h]
@[simp] theorem prt_int {i : Int} : prt (.int i) μ = .ok (some i) μ := (rfl)
@[simp] theorem sl_tup' {xs : List D} {l h : Option Int} : slD (.tup xs) l h μ = .ok (.tup (cutL xs l h)) μ := (rfl)
@[simp] theorem sl_lst' {xs : List D} {l h : Option Int} : slD (.lst xs) l h μ = .ok (.lst (cutL xs l h)) μ := (rfl)
@[simp] theorem zip_tup {a b : List D} : zipD (.tup a) (.tup b) μ = .ok (List.zipWith (fun p q => .tup [p, q]) a b) μ := (rfl)
@[simp] theorem zip_mix {a b : List D} : zipD (.lst a) (.tup b) μ = .ok (List.zipWith (fun p q => .tup [p, q]) a b) μ := (rfl)
@[simp] theorem zip_lst {a b : List D} : zipD (.lst a) (.lst b) μ = .ok (List.zipWith (fun p q => .tup [p, q]) a b) μ := (rfl)
theorem zip_map (e : α → D) (f : β → D) (xs : List α) (ys : List β) : List.zipWith (fun p q => D.tup [p, q]) (xs.map e) (ys.map f) = (xs.zip ys).map fun p => .tup [e p.1, f p.2] := by
  rw [List.zipWith_map, List.zip, List.map_zipWith]
theorem zw_zip {f : α → β → γ} {xs : List α} {ys : List β} : List.zipWith f xs ys = (xs.zip ys).map fun p => f p.1 p.2 := by
  rw [List.zip, List.map_zipWith]
/-! ### truth values put together -/
@[simp] theorem chS_if {m : M D} {b : Bool} : chS m (.bl b) μ = if b = true then m μ else .ok (.bl false) μ := by cases b <;> rfl
@[simp] theorem bAnd_if {m : M D} {x : D} {b : Bool} : bAnd x m b μ = if b = true then m μ else .ok x μ := by cases b <;> rfl
@[simp] theorem bOr_if {m : M D} {x : D} {b : Bool} : bOr x m b μ = if b = true then .ok x μ else m μ := by cases b <;> rfl
@[simp] theorem tAnd_if {m : M Bool} {b : Bool} : tAnd m b μ = if b = true then m μ else .ok false μ := by cases b <;> rfl
@[simp] theorem tOr_if {m : M Bool} {b : Bool} : tOr m b μ = if b = true then .ok true μ else m μ := by cases b <;> rfl
@[simp] theorem if_and {p : Prop} [Decidable p] {b : Bool} : (if p then R.ok (D.bl b) μ else R.ok (D.bl false) μ) = R.ok (D.bl (decide p && b)) μ := by by_cases h : p <;> simp [h]
@[simp] theorem if_andD {p : Prop} [Decidable p] {b : Bool} : (if p then R.ok (D.bl b) μ else R.ok (D.bl (decide p)) μ) = R.ok (D.bl (decide p && b)) μ := by by_cases h : p <;> simp [h]
@[simp] theorem if_andB {k b : Bool} : (if k = true then R.ok (D.bl b) μ else R.ok (D.bl k) μ) = R.ok (D.bl (k && b)) μ := by cases k <;> simp
@[simp] theorem if_or {p : Prop} [Decidable p] {b : Bool} : (if p then R.ok (D.bl true) μ else R.ok (D.bl b) μ) = R.ok (D.bl (decide p || b)) μ := by by_cases h : p <;> simp [h]
@[simp] theorem if_orD {p : Prop} [Decidable p] {b : Bool} : (if p then R.ok (D.bl (decide p)) μ else R.ok (D.bl b) μ) = R.ok (D.bl (decide p || b)) μ := by by_cases h : p <;> simp [h]
@[simp] theorem if_orB {k b : Bool} : (if k = true then R.ok (D.bl k) μ else R.ok (D.bl b) μ) = R.ok (D.bl (k || b)) μ := by cases k <;> simp
@[simp] theorem if_tand {p : Prop} [Decidable p] {b : Bool} : (if p then R.ok b μ else R.ok false μ) = R.ok (decide p && b) μ := by by_cases h : p <;> simp [h]
@[simp] theorem if_tor {p : Prop} [Decidable p] {b : Bool} : (if p then R.ok true μ else R.ok b μ) = R.ok (decide p || b) μ := by by_cases h : p <;> simp [h]
/-! ### dicts -/
@[simp] theorem asD_dic {kvs : List (Key × D)} : asD μ (.dic kvs) = some kvs := (rfl)
theorem ix_dic {kvs : List (Key × D)} {k : D} {q : Key} {v : D} (h1 : keyOf k = some q) (h2 : valD kvs q = some v) : ixD (.dic kvs) k μ = .ok v μ := by
  unfold ixD
  rw [asD_dic]
  simp only [h1, h2]
@[simp] theorem key_int {i : Int} : keyOf (.int i) = some (.inl i) := (rfl)
@[simp] theorem key_str {i : Str} : keyOf (.str i) = some (.inr i) := (rfl)
theorem ix_tup {xs : List D} {i : Int} {v : D} (h : L2.atI xs i = some v) : ixD (.tup xs) (.int i) μ = .ok v μ := by
  show ixK (.tup xs) (.int i) μ = _
  unfold ixK
  simp [h]
theorem ix_lst {xs : List D} {i : Int} {v : D} (h : L2.atI xs i = some v) : ixD (.lst xs) (.int i) μ = .ok v μ := by
  show ixK (.lst xs) (.int i) μ = _
  unfold ixK
  simp [h]
/-! ### cells -/
theorem at_end {l : Sto} {a : MO} : (μ ++ a :: l)[μ.length]? = some a := by simp
theorem set_end {l : Sto} {a b : MO} : (μ ++ a :: l).set μ.length b = μ ++ b :: l := by simp
/-! ### objects -/
@[simp] theorem asO_obj {C : Str} {fs : List (Str × D)} : asO μ (.obj C fs) = some (C, fs) := (rfl)
theorem attr_obj {C f : Str} {fs : List (Str × D)} {v : D} (h1 : G.prop C f = none) (h2 : G.fld C f = true) (h3 : fs.lookup f = some v) : attrD G f (.obj C fs) μ = .ok v μ := by
  unfold attrD
  simp [h1, h2, h3]
end
end Pu

set_option Elab.async false
set_option linter.all false
set_option maxRecDepth 100000
set_option maxHeartbeats 1000000
/-! k12: integers, ascending tuples, texts. -/
namespace K12
open PySem L2 Pu
section
variable {μ : Sto}
theorem is_integer_ok {i : Int} (h0 : 0 ≤ i) (h1 : i < 1000) : d_is_integer [.int i] μ = .ok (.bl true) μ := by
  rw [u_is_integer]
  simp [p_is_integer, isiO, isiD, tyD, isiB, knownC]
  omega
theorem within_ok {v lo hi : Int} (h0 : 0 ≤ v) (h1 : v < 1000) : d_is_integer_within [.int v, .int lo, .int hi] μ = .ok (.bl (decide (lo ≤ v) && decide (v ≤ hi))) μ := by
  rw [u_is_integer_within]
  simp [p_is_integer_within, is_integer_ok h0 h1]
theorem asc_ok {α : Type} {e : α → D} {lt : α → α → Bool} {xs : List α} (h : ∀ x ∈ xs, ∀ y ∈ xs, ltD (e x) (e y) μ = .ok (.bl (lt x y)) μ) (hl : xs.length ≤ sizeLine) :
    d_is_ascending [.tup (xs.map e)] μ = .ok (.bl ((xs.zip xs.tail).all fun p => lt p.1 p.2)) μ := by
  rw [u_is_ascending]
  simp [p_is_ascending, cut_from1, ← List.map_tail]
  rw [zw_zip, cmp_map (g := fun p => D.bl (lt p.1 p.2)) (fun p hp => ?_) (by simp; omega)]
  · simp
  · have := List.of_mem_zip (show (p.1, p.2) ∈ _ from hp)
    simp [turnS, e1_is_ascending, h _ this.1 _ (List.mem_of_mem_tail this.2)]
end
end K12

set_option Elab.async false
set_option linter.all false
set_option maxRecDepth 100000
/-! Pu43: plain lemmas: numbers, signs, loops. -/
namespace Pu
open PySem L2
abbrev nD (n : Nat) : D := .int (n : Int)
abbrev sgn (c : Nat) : Str := ⟨#[c]⟩
abbrev sD' (c : Nat) : D := .str (sgn c)
section
variable {α β γ σ : Type} {μ : Sto} {ρ : Sl} {G : Ctx}
theorem inV_nats {i : Nat} : ∀ {ns : List Nat}, inV (V.int i) (ns.map fun (n : Nat) => V.int (n : Int)) = decide (i ∈ ns)
  | [] => rfl
  | n :: ns => by
    have ih := inV_nats (i := i) (ns := ns)
    unfold inV at ih ⊢
    rw [List.map_cons, List.any_cons, ih]
    by_cases h : n = i
    · subst h; simp [eqV]
    · have h2 : ¬ i = n := fun z => h z.symm
      have h3 : ¬ ((n : Int) = (i : Int)) := by omega
      simp [eqV, h2, h3]
theorem flat_nats {ns : List Nat} : ((ns.map nD).all flatD) = true := by
  induction ns with
  | nil => rfl
  | cons a r ih => rw [List.map_cons, List.all_cons, ih]; rfl
theorem flatOf_nats {ns : List Nat} : (ns.map nD).map flatOf = ns.map fun (n : Nat) => V.int (n : Int) := by
  rw [List.map_map]
  rfl
@[simp] theorem in_tup_nats {n : Bool} {i : Nat} {ns : List Nat} : inO G n (.int i) (.tup (ns.map nD)) μ = .ok (.bl (if n then !decide (i ∈ ns) else decide (i ∈ ns))) μ := by
  show inD n (.int i) (.tup (ns.map nD)) μ = _
  unfold inD
  simp only [asS_tup, flat_nats, flatOf_nats]
  simp [flatD, flatOf, inV_nats]
@[simp] theorem in_lst_nats {n : Bool} {i : Nat} {ns : List Nat} : inO G n (.int i) (.lst (ns.map nD)) μ = .ok (.bl (if n then !decide (i ∈ ns) else decide (i ∈ ns))) μ := by
  show inD n (.int i) (.lst (ns.map nD)) μ = _
  unfold inD
  simp only [asS_lst, flat_nats, flatOf_nats]
  simp [flatD, flatOf, inV_nats]
@[simp] theorem in_sign {n : Bool} {c : Nat} {z : Str} : inO G n (sD' c) (.str z) μ = .ok (.bl (if n then !decide (c ∈ z.cps.toList) else decide (c ∈ z.cps.toList))) μ := (rfl)
@[simp] theorem all_tt {xs : List α} : (xs.all fun _ => true) = true := by simp
@[simp] theorem len_sgn {c : Nat} : lenO G [sD' c] μ = .ok (.int 1) μ := (rfl)
theorem len_str {z : Str} (h : z.length ≤ 1000) : lenO G [.str z] μ = .ok (.int z.length) μ := by
  show lenD [.str z] μ = _
  unfold lenD
  simp only []
  rw [if_pos (Nat.le_trans h (by decide))]
theorem signs_map {z : Str} : signsL z = z.cps.toList.map sD' := rfl
theorem range_map {n : Nat} : rangeL 0 n = (List.range n).map nD := by
  unfold rangeL
  refine List.map_congr_left fun i _ => ?_
  simp
theorem rg1_nat {n : Nat} (h : n < 2 ^ 62) : rg1 (nD n) μ = .ok ((List.range n).map nD) μ := by
  unfold rg1
  have h1 : -(2 ^ 62) ≤ (n : Int) ∧ (n : Int) < 2 ^ 62 := by omega
  simp only [h1, and_self, ↓reduceIte, Int.toNat_natCast, range_map]
theorem rgD_nat {n : Nat} (h : n ≤ 1000) : rgD (nD n) μ = .ok (.lst ((List.range n).map nD)) μ := by
  unfold rgD
  have h1 : 0 ≤ (n : Int) ∧ (n : Int) ≤ 16777216 := by omega
  simp only [h1, and_self, ↓reduceIte, Int.toNat_natCast, range_map]
theorem at_nat {xs : List D} {i : Nat} {d : D} (h : xs[i]? = some d) : L2.atI xs (i : Int) = some d := by
  have hi : i < xs.length := (List.getElem?_eq_some_iff.mp h).1
  have e : ixN xs.length (i : Int) = some i := by
    unfold ixN
    rw [if_pos (by omega), if_pos (by omega)]
    simp
  unfold L2.atI
  rw [e]
  exact h
theorem ix_tup_nat {xs : List D} {i : Nat} {d : D} (h : xs[i]? = some d) : ixD (.tup xs) (nD i) μ = .ok d μ := ix_tup (at_nat h)
theorem ix_lst_nat {xs : List D} {i : Nat} {d : D} (h : xs[i]? = some d) : ixD (.lst xs) (nD i) μ = .ok d μ := ix_lst (at_nat h)
/-! ### tuples by their places -/
theorem lx_i {a b : Int} {r t : List At} : ltAs (.inl a :: r) (.inl b :: t) = (decide (a < b) || (!decide (b < a) && ltAs r t)) := PyProof.Rows.lex_cons (O := PyProof.Rows.itemOrd) _ _ _ _
theorem lx_s {a b : Nat} {r t : List At} : ltAs (.inr [a] :: r) (.inr [b] :: t) = (decide (a < b) || (!decide (b < a) && ltAs r t)) := by
  refine (PyProof.Rows.lex_cons (O := PyProof.Rows.itemOrd) _ _ _ _).trans ?_
  have h : ∀ x y : Nat, PyProof.Rows.itemOrd.blt (.inr [x]) (.inr [y]) = decide (x < y) := fun x y => by
    show decide ([x] < [y]) = _
    have e : ([x] < [y]) ↔ x < y := by
      rw [List.cons_lt_cons_iff]
      simp
    simp [e]
  rw [h, h]
theorem lx_n {b : At} {t : List At} : ltAs [] (b :: t) = true := rfl
theorem lx_nn : ltAs [] [] = false := rfl
abbrev arD (l : Nat × Nat × Nat) : D := .tup [nD l.1, sD' l.2.1, nD l.2.2]
def arLt (l m : Nat × Nat × Nat) : Bool := decide (l.1 < m.1) || (decide (l.1 = m.1) && (decide (l.2.1 < m.2.1) || (decide (l.2.1 = m.2.1) && decide (l.2.2 < m.2.2))))
theorem lt_arr {l m : Nat × Nat × Nat} : ltD (arD l) (arD m) μ = .ok (.bl (arLt l m)) μ := by
  have e : ltD (arD l) (arD m) μ = .ok (.bl (ltAs [.inl 1, .inl l.1, .inl 1, .inr [l.2.1], .inl 1, .inl l.2.2, .inl 0] [.inl 1, .inl m.1, .inl 1, .inr [m.2.1], .inl 1, .inl m.2.2, .inl 0])) μ := rfl
  rw [e]
  refine congrArg (fun z => R.ok (D.bl z) μ) ?_
  unfold arLt
  simp only [lx_i, lx_s, lx_nn]
  rw [Bool.eq_iff_iff]
  simp
  omega
theorem ltK_arr {l m : Nat × Nat × Nat} : ltK (arD l) (arD m) = arLt l m := by
  show ltAs [.inl l.1, .inr [l.2.1], .inl l.2.2] [.inl m.1, .inr [m.2.1], .inl m.2.2] = _
  unfold arLt
  simp only [lx_i, lx_s, lx_nn]
  rw [Bool.eq_iff_iff]
  simp
  omega
theorem ltK_nat {a b : Nat} : ltK (nD a) (nD b) = decide (a < b) := by
  show ltAs [.inl a] [.inl b] = _
  simp only [lx_i, lx_nn]
  rw [Bool.eq_iff_iff]
  simp
/-! ### loops -/
def lpS (u : D → Sl → Option Sl) (body : Sl → (Sl → M D) → M D) (d : D) (ρ : Sl) (k : Sl → M D) : M D := match u d ρ with
  | none => stuck
  | some ρ1 => body ρ1 k
theorem cL_cons {u : D → Sl → Option Sl} {body : Sl → (Sl → M D) → M D} {K : Sl → M D} {d : D} {ds : List D} : cL u body K (d :: ds) ρ = lpS u body d ρ (cL u body K ds) := rfl
/-- a loop that goes on, told by a fold -/
theorem cL_fold {u : D → Sl → Option Sl} {body : Sl → (Sl → M D) → M D} {K : Sl → M D} {e : α → D} (P : σ → Prop) (en : σ → Sl) (st : σ → Sto) (f : σ → α → σ) : ∀ (xs : List α) (s : σ), P s →
    (∀ s x, x ∈ xs → P s → P (f s x) ∧ ∀ k, lpS u body (e x) (en s) k (st s) = k (en (f s x)) (st (f s x))) → cL u body K (xs.map e) (en s) (st s) = K (en (xs.foldl f s)) (st (xs.foldl f s))
  | [], s, _, _ => rfl
  | x :: xs, s, hs, h => by
    obtain ⟨h1, h2⟩ := h s x List.mem_cons_self hs
    rw [List.map_cons, cL_cons, h2]
    exact cL_fold P en st f xs (f s x) h1 fun s y hy => h s y (List.mem_cons_of_mem _ hy)
/-- a loop that goes on, told by what holds at each turn -/
theorem cL_inv {u : D → Sl → Option Sl} {body : Sl → (Sl → M D) → M D} {K : Sl → M D} {e : α → D} : ∀ (I : List α → Sl → Sto → Prop) (xs ys : List α) (ρ : Sl) (μ : Sto), I ys ρ μ →
    (∀ zs x ρ μ, zs ++ [x] <+: ys ++ xs → I zs ρ μ → ∃ ρ' μ', (∀ k, lpS u body (e x) ρ k μ = k ρ' μ') ∧ I (zs ++ [x]) ρ' μ') → ∃ ρ' μ', I (ys ++ xs) ρ' μ' ∧ cL u body K (xs.map e) ρ μ = K ρ' μ'
  | I, [], ys, ρ, μ, h0, _ => ⟨ρ, μ, by rw [List.append_nil]; exact h0, rfl⟩
  | I, x :: xs, ys, ρ, μ, h0, h => by
    obtain ⟨ρ1, μ1, h1, h2⟩ := h ys x ρ μ (by simp) h0
    obtain ⟨ρ2, μ2, h3, h4⟩ := cL_inv (u := u) (body := body) (K := K) (e := e) I xs (ys ++ [x]) ρ1 μ1 h2 (fun zs y ρ μ p q => h zs y ρ μ (by simpa using p) q)
    refine ⟨ρ2, μ2, by simpa using h3, ?_⟩
    rw [List.map_cons, cL_cons, h1]
    exact h4
end
end Pu

set_option Elab.async false
set_option linter.all false
set_option maxRecDepth 100000
set_option maxHeartbeats 1000000
/-! k12: texts, arrows. -/
namespace K12
open PySem L2 Pu
section
variable {μ : Sto}
/-- strictly rising -/
def ris (ns : List Nat) : Bool := (ns.zip ns.tail).all fun p => decide (p.1 < p.2)
theorem number_set_ok {ns : List Nat} {n : Nat} (hl : ns.length ≤ 1000) (hn : ∀ i ∈ ns, i < n) (h1 : n ≤ 1000) : d_is_number_set [.tup (ns.map nD), .int n] μ = .ok (.bl (ris ns)) μ := by
  have hs : (1000 : Nat) ≤ sizeLine := by decide
  rw [u_is_number_set]
  simp [p_is_number_set, isiO, isiD, tyD, isiB, knownC]
  rw [cmp_map (g := fun _ => D.bl true) (fun i hi => ?_) (by omega)]
  · simp [all_bls (p := fun _ => true), asc_ok (e := nD) (lt := fun a b => decide (a < b)) (xs := ns) (μ := μ) (by simp) (by omega), ris]
  · have h2 := hn i hi
    simp [turnS, e1_is_number_set, within_ok (show 0 ≤ (i : Int) by omega) (show (i : Int) < 1000 by omega)]
    omega
theorem text_within_ok {z w : Str} (hl : w.cps.toList.length ≤ 1000) : d_is_text_within [.str z, .str w] μ = .ok (.bl (w.cps.toList.all fun c => decide (c ∈ z.cps.toList))) μ := by
  have hs : (1000 : Nat) ≤ sizeLine := by decide
  rw [u_is_text_within]
  simp [p_is_text_within, isiO, isiD, tyD, isiB, knownC, signs_map]
  rw [cmp_map (g := fun c => D.bl (decide (c ∈ z.cps.toList))) (fun c hc => by simp [turnS, e1_is_text_within]) (by simp; simp at hl; omega)]
  simp
theorem text_within_no {z : Str} {d : D} {t : String} (h : tyD μ d = some t) (ht : t = "NoneType" ∨ t = "int" ∨ t = "tuple" ∨ t = "list") : d_is_text_within [.str z, d] μ = .ok (.bl false) μ := by
  rw [u_is_text_within]
  rcases ht with rfl | rfl | rfl | rfl <;> simp [p_is_text_within, isiO, isiD, h, isiB, knownC]
theorem letter_ok {z : Str} {c : Nat} : d_is_letter_of [.str z, sD' c] μ = .ok (.bl (decide (c ∈ z.cps.toList))) μ := by
  rw [u_is_letter_of]
  simp [p_is_letter_of, text_within_ok (z := z) (w := sgn c) (μ := μ) (by simp)]
end
end K12

set_option Elab.async false
set_option linter.all false
set_option maxRecDepth 100000
/-! Pu44: plain lemmas: rows of new lists, dicts by letters, methods of lists. -/
namespace Pu
open PySem L2
section
variable {α β γ σ : Type} {μ : Sto} {ρ : Sl} {G : Ctx}
@[simp] theorem ix_t0 {a : D} {r : List D} : ixD (.tup (a :: r)) (.int 0) μ = .ok a μ := ix_tup_nat (i := 0) rfl
@[simp] theorem ix_t1 {a b : D} {r : List D} : ixD (.tup (a :: b :: r)) (.int 1) μ = .ok b μ := ix_tup_nat (i := 1) rfl
@[simp] theorem ix_t2 {a b c : D} {r : List D} : ixD (.tup (a :: b :: c :: r)) (.int 2) μ = .ok c μ := ix_tup_nat (i := 2) rfl
@[simp] theorem ix_l0 {a : D} {r : List D} : ixD (.lst (a :: r)) (.int 0) μ = .ok a μ := ix_lst_nat (i := 0) rfl
@[simp] theorem ix_l1 {a b : D} {r : List D} : ixD (.lst (a :: b :: r)) (.int 1) μ = .ok b μ := ix_lst_nat (i := 1) rfl
theorem ok_congr {a b : α} {ν : Sto} (h : a = b) (h2 : μ = ν) : R.ok a μ = R.ok b ν := by rw [h, h2]
/-- a method of a list that is a cell -/
theorem mth_cell {eo oth : M D} {inst : Str → List (Str × D) → D → M D} {cm : Str → M D} {c : Nat} {xs : List D} {μ1 : Sto} (h : eo μ = .ok (.cell c) μ1) (hc : μ1[c]? = some (.lst xs)) : mthS eo inst cm oth μ = oth μ := by
  unfold mthS
  rw [h]
  have e : asO μ1 (.cell c) = none := by simp [asO, hc]
  simp only [e]
  rfl
theorem chk_cell {c : Nat} {xs : List D} (h : μ[c]? = some (.lst xs)) : chkL (.cell c) μ = .ok () μ := by simp [chkL, h]
theorem app_cell {c : Nat} {xs : List D} {v : D} (h : μ[c]? = some (.lst xs)) (hl : xs.length < sizeLine) : appD (.cell c) v μ = .ok .non (μ.set c (.lst (xs ++ [v]))) := by simp [appD, h, hl]
theorem tuple_cell {c : Nat} {xs : List D} (h : μ[c]? = some (.lst xs)) : tupleD [.cell c] μ = .ok (.tup xs) μ := by simp [tupleD, asS, asQ, asL, h]
theorem comp_cells {f : D → M (Option D)} (h : ∀ d μ, f d μ = .ok (some (.cell μ.length)) (μ ++ [.lst []])) : ∀ (ds acc : List D) (μ : Sto), acc.length + ds.length ≤ sizeLine →
    compL f ds acc μ = .ok (acc ++ (List.range ds.length).map fun i => D.cell (μ.length + i)) (μ ++ List.replicate ds.length (.lst []))
  | [], acc, μ, _ => by simp [compL]
  | d :: ds, acc, μ, hl => by
    rw [List.length_cons] at hl
    unfold compL
    rw [bind_ap, h, rb_ok]
    show (if acc.length < sizeLine then compL f ds (acc ++ [.cell μ.length]) else stuck) (μ ++ [.lst []]) = _
    rw [if_pos (by omega), comp_cells h ds _ _ (by simp; omega)]
    refine ok_congr ?_ ?_
    · rw [List.length_cons, List.range_succ_eq_map, List.map_cons, List.map_map, List.append_assoc]
      simp [Function.comp_def, Nat.add_comm, Nat.add_left_comm]
    · rw [List.length_cons, List.replicate_succ, List.append_assoc]
      rfl
theorem putD_new {acc : List (Key × D)} {k : Key} {v : D} (h : ∀ kv ∈ acc, kv.1 ≠ k) : putD acc k v = acc ++ [(k, v)] := by
  unfold putD
  rw [if_neg]
  simp only [List.any_eq_true, decide_eq_true_eq, not_exists, not_and]
  exact fun kv hm e => h kv hm e
theorem valD_map {z : List Nat} {g : Nat → D} {c : Nat} (h : c ∈ z) : valD (z.map fun c => ((Sum.inr (sgn c) : Key), g c)) (.inr (sgn c)) = some (g c) := by
  induction z with
  | nil => simp at h
  | cons a r ih =>
    unfold valD at ih ⊢
    rw [List.map_cons, List.find?_cons]
    by_cases e : a = c
    · subst e; simp
    · have e2 : ¬ ((Sum.inr (sgn a) : Key) = Sum.inr (sgn c)) := by
        intro q
        apply e
        simpa [sgn] using q
      simp only [e2, decide_false]
      exact ih (by rcases List.mem_cons.mp h with q | q; exact absurd q.symm e; exact q)
theorem set_range {f : Nat → α} {n i : Nat} {v : α} : ((List.range n).map f).set i v = (List.range n).map fun k => if k = i then v else f k := by
  apply List.ext_getElem?
  intro j
  rw [List.getElem?_set]
  by_cases h : i = j
  · subst h
    by_cases hl : i < n <;> simp [hl]
  · simp only [h, ↓reduceIte, List.getElem?_map]
    cases q : (List.range n)[j]? with
    | none => rfl
    | some k =>
      have : k = j := by
        obtain ⟨h1, h2⟩ := List.getElem?_eq_some_iff.mp q
        simpa using h2.symm
      subst this
      have h' : ¬ k = i := fun e => h e.symm
      simp [h']
end
end Pu

set_option Elab.async false
set_option linter.all false
set_option maxRecDepth 100000
set_option maxHeartbeats 1000000
/-! k12: arrows, moves. -/
namespace K12
open PySem L2 Pu
section
variable {μ : Sto}
theorem is_arrow_ok {z : Str} {n : Nat} {l : Nat × Nat × Nat} (h1 : l.1 < n) (h2 : l.2.1 ∈ z.cps.toList) (h3 : l.2.2 < n) (hn : n ≤ 1000) : d_is_arrow [.str z, .int n, arD l] μ = .ok (.bl true) μ := by
  have z1 : (l.1 : Int) ≤ n - 1 := by omega
  have z2 : (l.2.2 : Int) ≤ n - 1 := by omega
  rw [u_is_arrow]
  simp [p_is_arrow, isiO, isiD, tyD, isiB, knownC, letter_ok, within_ok (show 0 ≤ (l.1 : Int) by omega) (show (l.1 : Int) < 1000 by omega), within_ok (show 0 ≤ (l.2.2 : Int) by omega) (show (l.2.2 : Int) < 1000 by omega), show l.2.1 ∈ z.cps by simpa using h2, z1, z2]
theorem are_arrows_ok {z : Str} {n : Nat} {ls : List (Nat × Nat × Nat)} (hl : ls.length ≤ 1000) (h : ∀ l ∈ ls, l.1 < n ∧ l.2.1 ∈ z.cps.toList ∧ l.2.2 < n) (hn : n ≤ 1000) :
    d_are_arrows [.str z, .int n, .tup (ls.map arD)] μ = .ok (.bl ((ls.zip ls.tail).all fun p => arLt p.1 p.2)) μ := by
  have hs : (1000 : Nat) ≤ sizeLine := by decide
  rw [u_are_arrows]
  simp [p_are_arrows, isiO, isiD, tyD, isiB, knownC]
  rw [cmp_map (g := fun _ => D.bl true) (fun l hl => ?_) (by omega)]
  · simp [all_bls (p := fun _ => true), asc_ok (e := arD) (lt := arLt) (xs := ls) (μ := μ) (fun _ _ _ _ => lt_arr) (by omega)]
  · obtain ⟨h1, h2, h3⟩ := h l hl
    simp [turnS, e1_are_arrows, is_arrow_ok h1 h2 h3 hn]
/-- the targets of a state and a letter -/
def tg (ls : List (Nat × Nat × Nat)) (a c : Nat) : List Nat := (ls.filter fun l => l.1 == a && l.2.1 == c).map (·.2.2)
abbrev lstN (ns : List Nat) : MO := .lst (ns.map nD)
def rowC (m n i : Nat) : D := .lst ((List.range n).map fun a => D.cell (m + i * n + a))
def dk (m n : Nat) : Nat → List Nat → List (Key × D)
  | _, [] => []
  | i, c :: z => (.inr (sgn c), rowC m n i) :: dk m n (i + 1) z
theorem dk_keys {m n : Nat} {kv : Key × D} : ∀ {z : List Nat} {i : Nat}, kv ∈ dk m n i z → ∃ c ∈ z, kv.1 = .inr (sgn c)
  | [], _, h => by simp [dk] at h
  | c :: z, i, h => by
    rcases List.mem_cons.mp h with rfl | h
    · exact ⟨c, List.mem_cons_self, rfl⟩
    · obtain ⟨d, h1, h2⟩ := dk_keys h
      exact ⟨d, List.mem_cons_of_mem _ h1, h2⟩
theorem dk_val {m n : Nat} {c j : Nat} : ∀ {z : List Nat} {i : Nat}, z[j]? = some c → (∀ k, k < j → z[k]? ≠ some c) → valD (dk m n i z) (.inr (sgn c)) = some (rowC m n (i + j))
  | [], i, h, _ => by simp at h
  | d :: z, i, h, hd => by
    unfold valD dk
    rw [List.find?_cons]
    cases j with
    | zero =>
      simp at h
      subst h
      simp
    | succ j =>
      have e : ¬ d = c := fun e => hd 0 (by omega) (by simp [e])
      have e2 : ¬ ((Sum.inr (sgn d) : Key) = Sum.inr (sgn c)) := by
        intro q
        apply e
        simpa [sgn] using q
      simp only [e2, decide_false]
      have ih := dk_val (m := m) (n := n) (c := c) (j := j) (z := z) (i := i + 1) (by simpa using h) (fun k hk => by simpa using hd (k + 1) (by omega))
      rw [show i + (j + 1) = i + 1 + j by omega]
      exact ih
theorem rep_add {a : MO} {x y : Nat} : List.replicate x a ++ List.replicate y a = List.replicate (x + y) a := by simp
theorem found_mk {n : Nat} (hn : n ≤ 60) {x0 x2 x3 x6 x7 x8 : Option D} (z : List Nat) (i : Nat) (acc : List (Key × D)) (μ : Sto) (nd : z.Nodup) (hk : ∀ kv ∈ acc, ∀ c ∈ z, kv.1 ≠ .inr (sgn c)) (hl : acc.length + z.length ≤ 1000) :
    clS (fun d ρ => some (ρ.set 5 (some d))) nxt (leafDS e1_moves_of e3_moves_of) [x0, some (nD n), x2, x3, none, none, x6, x7, x8] (z.map sD') acc (μ ++ List.replicate (i * n) (.lst []))
      = .ok (acc ++ dk μ.length n i z) (μ ++ List.replicate ((i + z.length) * n) (.lst [])) := by
  induction z generalizing i acc with
  | nil => simp [clS, dk]
  | cons c z ih =>
    have hs : (1000 : Nat) ≤ sizeLine := by decide
    rw [List.length_cons] at hl
    obtain ⟨n1, n2⟩ := List.nodup_cons.mp nd
    rw [List.map_cons]
    unfold clS
    simp [leafDS, e1_moves_of, e3_moves_of, rg1_nat (show n < 2 ^ 62 by omega)]
    rw [comp_cells (fun d μ => by simp [turnS, e2_moves_of, newL_1]) _ [] _ (by simp; omega)]
    simp [putA, show acc.length < sizeLine by omega]
    rw [show i * n + n = (i + 1) * n by rw [Nat.add_mul]; omega]
    have p := putD_new (acc := acc) (k := .inr (sgn c)) (v := rowC μ.length n i) (fun kv h => hk kv h c List.mem_cons_self)
    unfold rowC at p
    rw [p]
    refine Eq.trans (ih (i + 1) _ n2 (fun kv h d hd => ?_) (by simp; omega)) ?_
    · rcases List.mem_append.mp h with h | h
      · exact hk kv h d (List.mem_cons_of_mem _ hd)
      · simp at h
        subst h
        intro q
        have : c = d := by simpa [sgn] using q
        subst this
        exact n1 hd
    · simp [dk, rowC, Nat.add_assoc, Nat.add_comm 1]
/-- the lists of targets, letter by letter -/
def cels (n : Nat) (z : List Nat) (ls : List (Nat × Nat × Nat)) : Sto := (List.range (z.length * n)).map fun k => lstN (tg ls (k % n) (z.getD (k / n) 0))
theorem cels_nil {n : Nat} {z : List Nat} : cels n z [] = List.replicate (z.length * n) (.lst []) := by
  unfold cels
  have e : ∀ a c, tg [] a c = [] := fun _ _ => rfl
  simp only [e, List.map_nil]
  rw [List.map_const', List.length_range]
  rfl
theorem tg_app {ls : List (Nat × Nat × Nat)} {a c b x y : Nat} : tg (ls ++ [(a, c, b)]) x y = if a = x ∧ c = y then tg ls x y ++ [b] else tg ls x y := by
  unfold tg
  by_cases h : a = x ∧ c = y
  · obtain ⟨rfl, rfl⟩ := h; simp
  · have : ¬ ((a == x && c == y) = true) := by simpa using h
    simp [h, this]
theorem cels_at {n : Nat} {z : List Nat} {ls : List (Nat × Nat × Nat)} {i a c : Nat} (ha : a < n) (hi : z[i]? = some c) : (cels n z ls)[i * n + a]? = some (lstN (tg ls a c)) := by
  have hz : i < z.length := (List.getElem?_eq_some_iff.mp hi).1
  have h1 : i * n + a < z.length * n := by
    have : (i + 1) * n ≤ z.length * n := Nat.mul_le_mul_right n hz
    rw [Nat.add_mul] at this
    omega
  unfold cels
  rw [List.getElem?_map, List.getElem?_range h1]
  have e1 : (i * n + a) % n = a := by rw [Nat.mul_comm, Nat.mul_add_mod, Nat.mod_eq_of_lt ha]
  have e2 : (i * n + a) / n = i := by rw [Nat.mul_comm, Nat.mul_add_div (by omega), Nat.div_eq_of_lt ha]; omega
  simp [e1, e2, List.getD_eq_getElem?_getD, hi]
theorem cels_set {n : Nat} {z : List Nat} {ls : List (Nat × Nat × Nat)} {i a c b : Nat} (nd : z.Nodup) (ha : a < n) (hi : z[i]? = some c) : (cels n z ls).set (i * n + a) (lstN (tg ls a c ++ [b])) = cels n z (ls ++ [(a, c, b)]) := by
  unfold cels
  rw [set_range]
  refine List.map_congr_left fun k hk => ?_
  have hk : k < z.length * n := List.mem_range.mp hk
  have hz : i < z.length := (List.getElem?_eq_some_iff.mp hi).1
  rw [tg_app]
  by_cases e : k = i * n + a
  · subst e
    have e1 : (i * n + a) % n = a := by rw [Nat.mul_comm, Nat.mul_add_mod, Nat.mod_eq_of_lt ha]
    have e2 : (i * n + a) / n = i := by rw [Nat.mul_comm, Nat.mul_add_div (by omega), Nat.div_eq_of_lt ha]; omega
    simp [e1, e2, List.getD_eq_getElem?_getD, hi]
  · have hn0 : 0 < n := by omega
    have hq : k / n < z.length := by rw [Nat.div_lt_iff_lt_mul hn0]; exact hk
    have : ¬ (a = k % n ∧ c = z.getD (k / n) 0) := by
      rintro ⟨q1, q2⟩
      rw [List.getD_eq_getElem?_getD, List.getElem?_eq_getElem hq] at q2
      have q3 : k / n = i := by
        have q4 : z[i] = c := by
          obtain ⟨_, q⟩ := List.getElem?_eq_some_iff.mp hi
          exact q
        have q5 : z[k / n] = z[i] := by rw [q4]; simpa using q2.symm
        exact (List.getElem_inj nd).mp q5
      apply e
      rw [← q3, q1, Nat.mul_comm]
      exact (Nat.div_add_mod k n).symm
    rw [if_neg e, if_neg this]
/-- the moves of a reader -/
def mvs (n : Nat) (z : List Nat) (ls : List (Nat × Nat × Nat)) : List (Key × D) := z.map fun c => ((.inr (sgn c) : Key), D.tup ((List.range n).map fun a => .tup ((tg ls a c).map nD)))
theorem move_step {n : Nat} {z : List Nat} {ls : List (Nat × Nat × Nat)} {a c b : Nat} {x0 x1 x2 x4 x5 x6 x7 x8 : Option D} {K k : Sl → M D} (nd : z.Nodup) (ha : a < n) (hc : c ∈ z) (hl : ls.length < 1000) :
    lpS (uT (some [4, 5, 6])) (b1_moves_of K) (arD (a, c, b)) [x0, x1, x2, some (.dic (dk μ.length n 0 z)), x4, x5, x6, x7, x8] k (μ ++ cels n z ls) = k [x0, x1, x2, some (.dic (dk μ.length n 0 z)), some (nD a), some (sD' c), some (nD b), x7, x8] (μ ++ cels n z (ls ++ [(a, c, b)])) := by
  have hs : (1000 : Nat) ≤ sizeLine := by decide
  have hi : z[z.idxOf c]? = some c := by rw [List.getElem?_eq_getElem (List.idxOf_lt_length_of_mem hc), List.getElem_idxOf]
  have first : ∀ k, k < z.idxOf c → z[k]? ≠ some c := fun k hk e => by
    obtain ⟨h1, h2⟩ := List.getElem?_eq_some_iff.mp e
    have := (List.getElem_inj nd (h₀ := h1) (h₁ := List.idxOf_lt_length_of_mem hc)).mp (by rw [h2, List.getElem_idxOf])
    omega
  have hv := dk_val (m := μ.length) (n := n) (i := 0) hi first
  rw [Nat.zero_add] at hv
  have hx : ∀ ν, ixD (.dic (dk μ.length n 0 z)) (sD' c) ν = .ok (rowC μ.length n (z.idxOf c)) ν := fun ν => ix_dic (by simp) hv
  have hy : ∀ ν, ixD (rowC μ.length n (z.idxOf c)) (nD a) ν = .ok (.cell (μ.length + z.idxOf c * n + a)) ν := fun ν => ix_lst_nat (by simp [ha])
  have hat : (μ ++ cels n z ls)[μ.length + z.idxOf c * n + a]? = some (lstN (tg ls a c)) := by
    rw [Nat.add_assoc, List.getElem?_append_right (by omega), Nat.add_sub_cancel_left]
    exact cels_at ha hi
  have hset : (μ ++ cels n z ls).set (μ.length + z.idxOf c * n + a) (lstN (tg ls a c ++ [b])) = μ ++ cels n z (ls ++ [(a, c, b)]) := by
    rw [Nat.add_assoc, List.set_append_right _ _ (by omega), Nat.add_sub_cancel_left, cels_set nd ha hi]
  have hlen : ((tg ls a c).map nD).length < sizeLine := by
    have : (tg ls a c).length ≤ ls.length := by unfold tg; rw [List.length_map]; exact List.length_filter_le _ _
    simp
    omega
  have e : lstN (tg ls a c ++ [b]) = .lst ((tg ls a c).map nD ++ [nD b]) := by simp
  rw [e] at hset
  have me : (((slot 3 [x0, x1, x2, some (.dic (dk μ.length n 0 z)), some (nD a), some (sD' c), some (nD b), x7, x8]) >>= fun x26 => ((slot 5 [x0, x1, x2, some (.dic (dk μ.length n 0 z)), some (nD a), some (sD' c), some (nD b), x7, x8]) >>= fun x27 => ixD x26 x27)) >>= fun x28 => ((slot 4 [x0, x1, x2, some (.dic (dk μ.length n 0 z)), some (nD a), some (sD' c), some (nD b), x7, x8]) >>= fun x29 => ixD x28 x29)) (μ ++ cels n z ls) = .ok (.cell (μ.length + z.idxOf c * n + a)) (μ ++ cels n z ls) := by
    simp [hx, hy]
  simp [lpS, b1_moves_of]
  rw [mth_cell me hat]
  simp [hx, hy, chk_cell hat, app_cell hat hlen, hset]
theorem moves_end {n : Nat} {z : List Nat} {ls : List (Nat × Nat × Nat)} {x0 x1 x2 x3 x4 x6 : Option D} (hn : n ≤ 60) (z' : List Nat) (i : Nat) (acc : List (Key × D)) (hz : ∀ j c, z'[j]? = some c → z[i + j]? = some c) (nd : z'.Nodup)
    (hk : ∀ kv ∈ acc, ∀ c ∈ z', kv.1 ≠ .inr (sgn c)) (hl : acc.length + z'.length ≤ 1000) : clS (uT (some [5, 7])) nxt (leafDS e4_moves_of e6_moves_of) [x0, x1, x2, x3, x4, none, x6, none, none] (pairsOf (dk μ.length n i z')) acc (μ ++ cels n z ls) = .ok (acc ++ mvs n z' ls) (μ ++ cels n z ls) := by
  have hs : (1000 : Nat) ≤ sizeLine := by decide
  induction z' generalizing i acc with
  | nil => simp [clS, dk, pairsOf, mvs]
  | cons c z' ih =>
    obtain ⟨n1, n2⟩ := List.nodup_cons.mp nd
    rw [List.length_cons] at hl
    have hi : z[i]? = some c := hz 0 c rfl
    have cell : ∀ a, a < n → (μ ++ cels n z ls)[μ.length + i * n + a]? = some (lstN (tg ls a c)) := fun a ha => by
      rw [Nat.add_assoc, List.getElem?_append_right (by omega), Nat.add_sub_cancel_left]
      exact cels_at ha hi
    have e0 : pairsOf (dk μ.length n i (c :: z')) = .tup [sD' c, rowC μ.length n i] :: pairsOf (dk μ.length n (i + 1) z') := rfl
    have p := putD_new (acc := acc) (k := .inr (sgn c)) (v := .tup ((List.range n).map fun a => .tup ((tg ls a c).map nD))) (fun kv h => hk kv h c List.mem_cons_self)
    have cm : ∀ x7 : Option D, compL (turnS (fun d ρ => some (ρ.set 8 (some d))) nxt e5_moves_of [x0, x1, x2, x3, x4, some (sD' c), x6, x7, none]) ((List.range n).map fun a => D.cell (μ.length + i * n + a)) [] (μ ++ cels n z ls) = .ok ((List.range n).map fun a => .tup ((tg ls a c).map nD)) (μ ++ cels n z ls) := fun x7 =>
      cmp_map (fun a ha => by simp [turnS, e5_moves_of, tuple_cell (cell a (List.mem_range.mp ha))]) (by simp; omega)
    rw [e0]
    unfold clS
    simp [leafDS, e4_moves_of, e6_moves_of, rowC, cm, putA, show acc.length < sizeLine by omega, p]
    refine Eq.trans (ih (i + 1) _ (fun j d hd => ?_) n2 (fun kv h d hd => ?_) (by simp; omega)) ?_
    · have := hz (j + 1) d (by simpa using hd)
      rw [show i + 1 + j = i + (j + 1) by omega]
      exact this
    · rcases List.mem_append.mp h with h | h
      · exact hk kv h d (List.mem_cons_of_mem _ hd)
      · simp at h
        subst h
        intro q
        have : c = d := by simpa [sgn] using q
        subst this
        exact n1 hd
    · simp [mvs]
theorem moves_ok {n : Nat} {z : List Nat} {ls : List (Nat × Nat × Nat)} (hn : n ≤ 60) (nd : z.Nodup) (hz : z.length ≤ 60) (hl : ls.length ≤ 1000) (h : ∀ l ∈ ls, l.1 < n ∧ l.2.1 ∈ z) :
    ∃ l, d_moves_of [.str ⟨z.toArray⟩, nD n, .tup (ls.map arD)] μ = .ok (.dic (mvs n z ls)) (μ ++ l) := by
  have hs : (1000 : Nat) ≤ sizeLine := by decide
  refine ⟨cels n z ls, ?_⟩
  rw [u_moves_of]
  simp [p_moves_of, signs_map]
  have f := found_mk hn (x0 := some (.str ⟨z.toArray⟩)) (x2 := some (.tup (ls.map arD))) (x3 := none) (x6 := none) (x7 := none) (x8 := none) z 0 [] μ nd (by simp) (by simp; omega)
  simp at f
  rw [f]
  simp
  obtain ⟨ρ', μ', ⟨rfl, rfl⟩, hr⟩ := cL_inv (u := uT (some [4, 5, 6])) (body := b1_moves_of (k1_moves_of fin0 fin1 fin1)) (K := k1_moves_of fin0 fin1 fin1) (e := arD)
    (fun zs ρ ν => ρ = [some (.str ⟨z.toArray⟩), some (nD n), some (.tup (ls.map arD)), some (.dic (dk μ.length n 0 z)), zs.getLast?.map fun l => nD l.1, zs.getLast?.map fun l => sD' l.2.1, zs.getLast?.map fun l => nD l.2.2, none, none] ∧ ν = μ ++ cels n z zs) ls []
    [some (.str ⟨z.toArray⟩), some (nD n), some (.tup (ls.map arD)), some (.dic (dk μ.length n 0 z)), none, none, none, none, none] (μ ++ List.replicate (z.length * n) (.lst [])) ⟨rfl, by rw [cels_nil]⟩ (fun zs x ρ ν p ⟨e1, e2⟩ => by
      subst e1 e2
      have hx : x ∈ ls := p.subset (by simp)
      have hlen : (zs ++ [x]).length ≤ ls.length := by simpa using p.length_le
      simp at hlen
      exact ⟨_, _, fun k => move_step (K := k1_moves_of fin0 fin1 fin1) nd (h x hx).1 (h x hx).2 (by omega), by simp, rfl⟩)
  refine hr.trans ?_
  simp [k1_moves_of, itmS]
  rw [moves_end hn z 0 [] (fun j c h => by simpa using h) nd (by simp) (by simp; omega)]
  simp
end
end K12

set_option Elab.async false
set_option linter.all false
set_option maxRecDepth 100000
/-! Pu45: plain lemmas: instances that are made, texts as lists of signs. -/
namespace Pu
open PySem L2
abbrev stS (z : List Nat) : Str := ⟨z.toArray⟩
abbrev stD (z : List Nat) : D := .str (stS z)
section
variable {α β γ σ : Type} {μ : Sto} {ρ : Sl} {G : Ctx}
theorem fld_at {C f : Str} {l : Sto} {fs : List (Str × D)} {v : D} (h : G.fld C f = true) (hl : fs.length < 1000) : fldD G f (.cell μ.length) v (μ ++ .obj C fs :: l) = .ok () (μ ++ .obj C (putFD f v fs) :: l) := by
  unfold fldD
  simp [h, hl]
@[simp] theorem newO_ap {C : Str} : newO C μ = .ok μ.length (μ ++ [.obj C []]) := (rfl)
theorem made_end {C : Str} {fs : List (Str × D)} {l : Sto} : madeD false μ.length .non (μ ++ .obj C fs :: l) = .ok (.obj C fs) (μ ++ .dead :: l) := by
  unfold madeD
  simp
theorem mk_ok {C : Str} {n : Nat} {F : List D → M D} {ds : List D} {fs : List (Str × D)} {l : Sto} (hn : ds.length = n) (h : F (.cell μ.length :: ds) (μ ++ [.obj C []]) = .ok .non (μ ++ .obj C fs :: l)) : mkS C false n F ds μ = .ok (.obj C fs) (μ ++ .dead :: l) := by
  unfold mkS
  rw [if_pos hn]
  simp [h, made_end]
@[simp] theorem items_stD {z : List Nat} : itemsD (stD z) μ = .ok (z.map sD') μ := (rfl)
@[simp] theorem signs_stS {z : List Nat} : signsL (stS z) = z.map sD' := (rfl)
theorem stS_len {z : List Nat} : (stS z).length = z.length := by
  show (z.toArray).size = _
  simp
theorem len_stD {z : List Nat} (h : z.length ≤ 1000) : lenO G [stD z] μ = .ok (.int z.length) μ := by
  rw [len_str (by rw [stS_len]; exact h), stS_len]
theorem cutS_tail {z : List Nat} : cutS (stS z) (some 1) none = stS z.tail := by
  unfold cutS
  cases z with
  | nil => rfl
  | cons a r => simp [HT.sIx, stS_len]
theorem sl_tail {z : List Nat} (h : z.length ≤ 1000) : slD (stD z) (some 1) none μ = .ok (stD z.tail) μ := by
  unfold slD
  have : (stS z).length ≤ sizeLine := by rw [stS_len]; exact Nat.le_trans h (by decide)
  simp [this, cutS_tail]
theorem zip_stD {a b : List Nat} : zipD (stD a) (stD b) μ = .ok ((a.zip b).map fun p => .tup [sD' p.1, sD' p.2]) μ := by
  show R.ok (List.zipWith (fun p q => D.tup [p, q]) (a.map sD') (b.map sD')) μ = _
  rw [zip_map]
theorem asc_pw {lt : α → α → Bool} (tr : ∀ a b c, lt a b = true → lt b c = true → lt a c = true) : ∀ {xs : List α}, ((xs.zip xs.tail).all fun p => lt p.1 p.2) = true ↔ xs.Pairwise fun a b => lt a b = true
  | [] => by simp
  | [a] => by simp
  | a :: b :: r => by
    have ih := asc_pw tr (xs := b :: r)
    rw [List.tail_cons, List.zip_cons_cons, List.all_cons, Bool.and_eq_true]
    rw [List.tail_cons] at ih
    rw [ih]
    constructor
    · rintro ⟨h1, h2⟩
      refine List.pairwise_cons.mpr ⟨fun x hx => ?_, h2⟩
      rcases List.mem_cons.mp hx with rfl | hx
      · exact h1
      · exact tr _ _ _ h1 ((List.pairwise_cons.mp h2).1 x hx)
    · intro h
      obtain ⟨h1, h2⟩ := List.pairwise_cons.mp h
      exact ⟨h1 b List.mem_cons_self, h2⟩
theorem asc_nat {xs : List Nat} : ((xs.zip xs.tail).all fun p => decide (p.1 < p.2)) = true ↔ xs.Pairwise (· < ·) := by
  rw [asc_pw (lt := fun a b => decide (a < b)) (by simp; omega)]
  simp
theorem arLt_tr {a b c : Nat × Nat × Nat} (h1 : arLt a b = true) (h2 : arLt b c = true) : arLt a c = true := by
  unfold arLt at *
  simp at *
  omega
theorem arLt_irr {a : Nat × Nat × Nat} : arLt a a = false := by unfold arLt; simp
theorem asc_arr {xs : List (Nat × Nat × Nat)} : ((xs.zip xs.tail).all fun p => arLt p.1 p.2) = true ↔ xs.Pairwise fun a b => arLt a b = true := asc_pw (lt := arLt) fun _ _ _ => arLt_tr
theorem lt1 {a b : Nat} : ([a] < [b]) ↔ a < b := by rw [List.cons_lt_cons_iff]; simp
end
end Pu

set_option Elab.async false
set_option linter.all false
set_option maxRecDepth 100000
set_option maxHeartbeats 1000000
/-! k12: letters, readers made. -/
namespace K12
open PySem L2 Pu
section
variable {μ : Sto}
structure Lts (z : List Nat) : Prop where
  len : 1 ≤ z.length ∧ z.length ≤ 4
  sm : ∀ c ∈ z, 97 ≤ c ∧ c ≤ 122
  asc : z.Pairwise (· < ·)
theorem small_ok {z : List Nat} (hl : z.length ≤ 1000) : d_are_small [stD z] μ = .ok (.bl (z.all fun c => decide (97 ≤ c) && decide (c ≤ 122))) μ := by
  have hs : (1000 : Nat) ≤ sizeLine := by decide
  rw [u_are_small]
  simp [p_are_small]
  rw [cmp_map (g := fun c => D.bl (decide (97 ≤ c) && decide (c ≤ 122))) (fun c hc => ?_) (by omega)]
  · simp
  · have e1 : ("a" : Str).cps.toList = [97] := rfl
    have e2 : ("z" : Str).cps.toList = [122] := rfl
    have q : (decide ([c] < [97]) = decide (c < 97)) ∧ (decide ([122] < [c]) = decide (122 < c)) := by simp [lt1]
    simp [turnS, e1_are_small, e1, e2, lt1]
    rw [Bool.eq_iff_iff]
    simp
theorem asc_str_ok {z : List Nat} (hl : z.length ≤ 1000) : d_is_ascending [stD z] μ = .ok (.bl ((z.zip z.tail).all fun p => decide (p.1 < p.2))) μ := by
  have hs : (1000 : Nat) ≤ sizeLine := by decide
  rw [u_is_ascending]
  simp [p_is_ascending, sl_tail hl, zip_stD]
  rw [cmp_map (g := fun p => D.bl (decide (p.1 < p.2))) (fun p hp => by simp [turnS, e1_is_ascending, lt1]) (by simp; omega)]
  simp
theorem letters_ok {z : List Nat} (h : Lts z) : d_is_letters [stD z] μ = .ok (.bl true) μ := by
  have h1 := h.len
  have e : (z.all fun c => decide (97 ≤ c) && decide (c ≤ 122)) = true := by simpa using h.sm
  have e3 : (1 : Int) ≤ z.length := by omega
  have e4 : (z.length : Int) ≤ 4 := by omega
  rw [u_is_letters]
  simp [p_is_letters, isiO, isiD, tyD, isiB, knownC, len_stD (show z.length ≤ 1000 by omega), e3, e4, small_ok (show z.length ≤ 1000 by omega), e, asc_str_ok (show z.length ≤ 1000 by omega), asc_nat.mpr h.asc]
theorem req_letters_ok {z : List Nat} (h : Lts z) : d_require_letters [stD z] μ = .ok .non μ := by
  rw [u_require_letters]
  simp [p_require_letters, letters_ok h]
theorem Lts.nd {z : List Nat} (h : Lts z) : z.Nodup := h.asc.imp fun hlt e => by omega
/-- a reader, told plainly -/
structure Rdr where
  z : List Nat
  n : Nat
  hs : List Nat
  ts : List Nat
  ls : List (Nat × Nat × Nat)
structure Rdr.Ok (r : Rdr) : Prop where
  lt : Lts r.z
  n1 : 1 ≤ r.n
  n2 : r.n ≤ 60
  hsn : ∀ i ∈ r.hs, i < r.n
  hsr : r.hs.Pairwise (· < ·)
  tsn : ∀ i ∈ r.ts, i < r.n
  tsr : r.ts.Pairwise (· < ·)
  lsn : ∀ l ∈ r.ls, l.1 < r.n ∧ l.2.1 ∈ r.z ∧ l.2.2 < r.n
  lsr : r.ls.Pairwise fun a b => arLt a b = true
  lsl : r.ls.length ≤ 1000
abbrev nsT (ns : List Nat) : D := .tup (ns.map nD)
abbrev lsT (ls : List (Nat × Nat × Nat)) : D := .tup (ls.map arD)
def Rdr.o (r : Rdr) : D := .obj "Reader" [("own_letters", stD r.z), ("own_size", nD r.n), ("own_states", .lst ((List.range r.n).map nD)), ("own_firsts", nsT r.hs), ("own_lasts", nsT r.ts), ("own_arrows", lsT r.ls), ("own_moves", .dic (mvs r.n r.z r.ls))]
theorem asc_from {n : Nat} : ∀ {ns : List Nat} {m : Nat}, ns.Pairwise (· < ·) → (∀ i ∈ ns, m ≤ i ∧ i < n) → ns.length ≤ n - m
  | [], m, _, _ => Nat.zero_le _
  | a :: r, m, h1, h2 => by
    obtain ⟨p1, p2⟩ := List.pairwise_cons.mp h1
    have ih := asc_from (n := n) (ns := r) (m := a + 1) p2 fun i hi => ⟨p1 i hi, (h2 i (List.mem_cons_of_mem _ hi)).2⟩
    have := h2 a List.mem_cons_self
    rw [List.length_cons]
    omega
theorem asc_len {n : Nat} {ns : List Nat} (h1 : ns.Pairwise (· < ·)) (h2 : ∀ i ∈ ns, i < n) : ns.length ≤ n := asc_from (m := 0) h1 fun i hi => ⟨Nat.zero_le _, h2 i hi⟩
theorem init_ok {r : Rdr} (h : r.Ok) : ∃ l fs, .obj "Reader" fs = r.o ∧ d_Reader___init__ [.cell μ.length, stD r.z, nD r.n, nsT r.hs, nsT r.ts, lsT r.ls] (μ ++ [.obj "Reader" []]) = .ok .non (μ ++ .obj "Reader" fs :: l) := by
  have hn2 := h.n2
  have hn1 := h.n1
  obtain ⟨l, hm⟩ := moves_ok (μ := μ ++ [.obj "Reader" [("own_letters", stD r.z), ("own_size", nD r.n), ("own_states", .lst ((List.range r.n).map nD)), ("own_firsts", nsT r.hs), ("own_lasts", nsT r.ts), ("own_arrows", lsT r.ls)]]) h.n2 h.lt.nd (by have := h.lt.len; omega) h.lsl fun l hl => ⟨(h.lsn l hl).1, (h.lsn l hl).2.1⟩
  refine ⟨l, _, rfl, ?_⟩
  have f0 : ∀ l, fldD g_Reader___init__ "own_letters" (.cell μ.length) (stD r.z) (μ ++ .obj "Reader" [] :: l) = .ok () (μ ++ .obj "Reader" [("own_letters", stD r.z)] :: l) := fun l => (fld_at (C := "Reader") rfl (by simp)).trans rfl
  have f1 : ∀ l, fldD g_Reader___init__ "own_size" (.cell μ.length) (nD r.n) (μ ++ .obj "Reader" [("own_letters", stD r.z)] :: l) = .ok () (μ ++ .obj "Reader" [("own_letters", stD r.z), ("own_size", nD r.n)] :: l) := fun l => (fld_at (C := "Reader") rfl (by simp)).trans rfl
  have f2 : ∀ l, fldD g_Reader___init__ "own_states" (.cell μ.length) (.lst ((List.range r.n).map nD)) (μ ++ .obj "Reader" [("own_letters", stD r.z), ("own_size", nD r.n)] :: l) = .ok () (μ ++ .obj "Reader" [("own_letters", stD r.z), ("own_size", nD r.n), ("own_states", .lst ((List.range r.n).map nD))] :: l) := fun l => (fld_at (C := "Reader") rfl (by simp)).trans rfl
  have f3 : ∀ l, fldD g_Reader___init__ "own_firsts" (.cell μ.length) (nsT r.hs) (μ ++ .obj "Reader" [("own_letters", stD r.z), ("own_size", nD r.n), ("own_states", .lst ((List.range r.n).map nD))] :: l) = .ok () (μ ++ .obj "Reader" [("own_letters", stD r.z), ("own_size", nD r.n), ("own_states", .lst ((List.range r.n).map nD)), ("own_firsts", nsT r.hs)] :: l) := fun l => (fld_at (C := "Reader") rfl (by simp)).trans rfl
  have f4 : ∀ l, fldD g_Reader___init__ "own_lasts" (.cell μ.length) (nsT r.ts) (μ ++ .obj "Reader" [("own_letters", stD r.z), ("own_size", nD r.n), ("own_states", .lst ((List.range r.n).map nD)), ("own_firsts", nsT r.hs)] :: l) = .ok () (μ ++ .obj "Reader" [("own_letters", stD r.z), ("own_size", nD r.n), ("own_states", .lst ((List.range r.n).map nD)), ("own_firsts", nsT r.hs), ("own_lasts", nsT r.ts)] :: l) := fun l => (fld_at (C := "Reader") rfl (by simp)).trans rfl
  have f5 : ∀ l, fldD g_Reader___init__ "own_arrows" (.cell μ.length) (lsT r.ls) (μ ++ .obj "Reader" [("own_letters", stD r.z), ("own_size", nD r.n), ("own_states", .lst ((List.range r.n).map nD)), ("own_firsts", nsT r.hs), ("own_lasts", nsT r.ts)] :: l) = .ok () (μ ++ .obj "Reader" [("own_letters", stD r.z), ("own_size", nD r.n), ("own_states", .lst ((List.range r.n).map nD)), ("own_firsts", nsT r.hs), ("own_lasts", nsT r.ts), ("own_arrows", lsT r.ls)] :: l) := fun l => (fld_at (C := "Reader") rfl (by simp)).trans rfl
  have f6 : ∀ l, fldD g_Reader___init__ "own_moves" (.cell μ.length) (.dic (mvs r.n r.z r.ls)) (μ ++ .obj "Reader" [("own_letters", stD r.z), ("own_size", nD r.n), ("own_states", .lst ((List.range r.n).map nD)), ("own_firsts", nsT r.hs), ("own_lasts", nsT r.ts), ("own_arrows", lsT r.ls)] :: l) = .ok () (μ ++ .obj "Reader" [("own_letters", stD r.z), ("own_size", nD r.n), ("own_states", .lst ((List.range r.n).map nD)), ("own_firsts", nsT r.hs), ("own_lasts", nsT r.ts), ("own_arrows", lsT r.ls), ("own_moves", .dic (mvs r.n r.z r.ls))] :: l) := fun l => (fld_at (C := "Reader") rfl (by simp)).trans rfl
  have b1 : (1 : Int) ≤ (r.n : Int) := by omega
  have b2 : (r.n : Int) ≤ 60 := by omega
  rw [u_Reader___init__]
  have ns1 := number_set_ok (ns := r.hs) (n := r.n) (μ := μ ++ [.obj "Reader" []]) (by have := asc_len h.hsr h.hsn; omega) h.hsn (by omega)
  have ns2 := number_set_ok (ns := r.ts) (n := r.n) (μ := μ ++ [.obj "Reader" []]) (by have := asc_len h.tsr h.tsn; omega) h.tsn (by omega)
  have ar := are_arrows_ok (z := stS r.z) (n := r.n) (ls := r.ls) (μ := μ ++ [.obj "Reader" []]) h.lsl (by simpa using h.lsn) (by omega)
  rw [show ris r.hs = true from asc_nat.mpr h.hsr] at ns1
  rw [show ris r.ts = true from asc_nat.mpr h.tsr] at ns2
  rw [asc_arr.mpr h.lsr] at ar
  simp [p_Reader___init__, req_letters_ok h.lt, within_ok (show 0 ≤ (r.n : Int) by omega) (show (r.n : Int) < 1000 by omega), b1, b2, ns1, ns2, ar, rgD_nat (show r.n ≤ 1000 by omega), f0, f1, f2, f3, f4, f5]
  simp at hm
  simp [hm, f6]
/-- the law's dict of a reader -/
def Rdr.d (r : Rdr) : D := .dic [(.inr "signs", stD r.z), (.inr "size", nD r.n), (.inr "heads", nsT r.hs), (.inr "tails", nsT r.ts), (.inr "links", lsT r.ls)]
theorem ix_signs {r : Rdr} : ixD r.d (.str "signs") μ = .ok (stD r.z) μ := ix_dic rfl rfl
theorem ix_size {r : Rdr} : ixD r.d (.str "size") μ = .ok (nD r.n) μ := ix_dic rfl rfl
theorem ix_heads {r : Rdr} : ixD r.d (.str "heads") μ = .ok (nsT r.hs) μ := ix_dic rfl rfl
theorem ix_tails {r : Rdr} : ixD r.d (.str "tails") μ = .ok (nsT r.ts) μ := ix_dic rfl rfl
theorem ix_links {r : Rdr} : ixD r.d (.str "links") μ = .ok (lsT r.ls) μ := ix_dic rfl rfl
theorem made_ok {r : Rdr} (h : r.Ok) : ∃ l, d__law_made_reader [r.d] μ = .ok r.o (μ ++ l) := by
  obtain ⟨l, fs, e, hi⟩ := init_ok (μ := μ) h
  refine ⟨.dead :: l, ?_⟩
  rw [u__law_made_reader, ← e]
  have m := mk_ok (n := 5) (by rfl) hi
  simp [p__law_made_reader, ix_signs, ix_size, ix_heads, ix_tails, ix_links, m]
end
end K12

set_option Elab.async false
set_option linter.all false
set_option maxRecDepth 100000
/-! Pu46: plain lemmas: sorted lists, sets of numbers, dicts of numbers. -/
namespace Pu
open PySem L2
section
variable {α β γ σ : Type} {μ : Sto} {ρ : Sl} {G : Ctx}
/-- rising lists with the same members are the same -/
theorem ris_uniq {lt : α → α → Prop} (ir : ∀ a, ¬ lt a a) (as : ∀ a b, lt a b → ¬ lt b a) : ∀ {l m : List α}, l.Pairwise lt → m.Pairwise lt → (∀ k, k ∈ l ↔ k ∈ m) → l = m
  | [], [], _, _, _ => rfl
  | [], b :: m, _, _, h => absurd ((h b).mpr List.mem_cons_self) (by simp)
  | a :: l, [], _, _, h => absurd ((h a).mp List.mem_cons_self) (by simp)
  | a :: l, b :: m, h1, h2, h => by
    obtain ⟨p1, p2⟩ := List.pairwise_cons.mp h1
    obtain ⟨q1, q2⟩ := List.pairwise_cons.mp h2
    have e : a = b := by
      rcases List.mem_cons.mp ((h a).mp List.mem_cons_self) with e | e
      · exact e
      · rcases List.mem_cons.mp ((h b).mpr List.mem_cons_self) with e' | e'
        · exact e'.symm
        · exact absurd (q1 a e) (as _ _ (p1 b e'))
    subst e
    refine congrArg _ (ris_uniq ir as p2 q2 fun k => ⟨fun hk => ?_, fun hk => ?_⟩)
    · rcases List.mem_cons.mp ((h k).mp (List.mem_cons_of_mem _ hk)) with e | e
      · subst e; exact absurd (p1 k hk) (ir k)
      · exact e
    · rcases List.mem_cons.mp ((h k).mpr (List.mem_cons_of_mem _ hk)) with e | e
      · subst e; exact absurd (q1 k hk) (ir k)
      · exact e
theorem ris_nat {l m : List Nat} (h1 : l.Pairwise (· < ·)) (h2 : m.Pairwise (· < ·)) (h : ∀ k, k ∈ l ↔ k ∈ m) : l = m := ris_uniq (by omega) (by omega) h1 h2 h
/-- the numbers below n with p -/
def below (n : Nat) (p : Nat → Bool) : List Nat := (List.range n).filter p
theorem below_ris {n : Nat} {p : Nat → Bool} : (below n p).Pairwise (· < ·) := List.Pairwise.filter p List.pairwise_lt_range
theorem below_mem {n k : Nat} {p : Nat → Bool} : k ∈ below n p ↔ k < n ∧ p k = true := by unfold below; simp
theorem ris_below {n : Nat} {p : Nat → Bool} {l : List Nat} (h1 : l.Pairwise (· < ·)) (h : ∀ k, k ∈ l ↔ k < n ∧ p k = true) : l = below n p := ris_nat h1 below_ris fun k => by rw [h, below_mem]
/-- sorted(xs) of unlike things -/
theorem srt_ris {lt : α → α → Bool} (O : SrtO.Swo lt) (tot : ∀ a b, lt a b = false → lt b a = false → a = b) {l : List α} (nd : l.Nodup) : (srtL lt l).Pairwise (fun a b => lt a b = true) ∧ ∀ k, k ∈ srtL lt l ↔ k ∈ l := by
  have hp := (srt_stb O l).perm
  refine ⟨?_, fun k => hp.mem_iff⟩
  have nd2 : (srtL lt l).Nodup := hp.nodup_iff.mpr nd
  have h1 := srt_srt O l
  refine (h1.and nd2).imp fun {a b} h => ?_
  cases q : lt a b with
  | true => rfl
  | false => exact absurd (tot a b q h.1) h.2
theorem swo_nat : SrtO.Swo fun a b : Nat => decide (a < b) := ⟨by simp; omega, by simp; omega⟩
theorem swo_arr : SrtO.Swo arLt := ⟨fun a b => by unfold arLt; simp; omega, fun a b c => by unfold arLt; simp; omega⟩
theorem arLt_tot {a b : Nat × Nat × Nat} (h1 : arLt a b = false) (h2 : arLt b a = false) : a = b := by
  obtain ⟨a1, a2, a3⟩ := a
  obtain ⟨b1, b2, b3⟩ := b
  unfold arLt at h1 h2
  simp at h1 h2
  simp
  omega
theorem int_able {ns : List Nat} : sortable (ns.map nD) = true := by
  have : (ns.map nD).all isIntD = true := by
    rw [List.all_eq_true]
    intro d hd
    obtain ⟨n, _, rfl⟩ := List.mem_map.mp hd
    rfl
  unfold sortable
  rw [this]
  simp
theorem sorted_q {d : D} {ds : List D} (h : asS μ d = some ds) (hs : sortable ds = true) : sortedD [d] μ = .ok (.lst (sortL ds)) μ := by
  unfold sortedD
  simp only [h, hs, ↓reduceIte]
theorem sortL_nats {ns : List Nat} : sortL (ns.map nD) = (srtL (fun a b => decide (a < b)) ns).map nD := (srt_map (f := nD) (lt := fun a b => decide (a < b)) (lt' := ltK) fun y _ x _ => ltK_nat.symm).symm
theorem sorted_nats {d : D} {ns : List Nat} (h : asS μ d = some (ns.map nD)) (nd : ns.Nodup) : ∃ ms : List Nat, sortedD [d] μ = .ok (.lst (ms.map nD)) μ ∧ ms.Pairwise (· < ·) ∧ ∀ k, k ∈ ms ↔ k ∈ ns := by
  obtain ⟨h1, h2⟩ := srt_ris swo_nat (by simp; omega) nd
  refine ⟨_, by rw [sorted_q h int_able, sortL_nats], by simpa using h1, h2⟩
theorem shape_arr {ls : List (Nat × Nat × Nat)} (h : ls ≠ []) (i : Nat) : shapeOf (ls.map arD) i = (i == 1) := by
  unfold shapeOf
  cases ls with
  | nil => exact absurd rfl h
  | cons a r =>
    match i with
    | 0 => simp
    | 1 => simp
    | 2 => simp
    | i + 3 => simp
theorem arr_able {ls : List (Nat × Nat × Nat)} : sortable (ls.map arD) = true := by
  cases h : ls with
  | nil => rfl
  | cons a r =>
    have hs := fun i => shape_arr (ls := ls) (by rw [h]; simp) i
    have : (ls.map arD).all (tupFits (shapeOf (ls.map arD))) = true := by
      rw [List.all_eq_true]
      intro d hd
      obtain ⟨l, _, rfl⟩ := List.mem_map.mp hd
      simp [tupFits, fits, hs]
    rw [h] at this
    unfold sortable
    rw [this]
    simp
theorem sortL_arrs {ls : List (Nat × Nat × Nat)} : sortL (ls.map arD) = (srtL arLt ls).map arD := (srt_map (f := arD) (lt := arLt) (lt' := ltK) fun y _ x _ => ltK_arr.symm).symm
theorem sorted_arrs {d : D} {ls : List (Nat × Nat × Nat)} (h : asS μ d = some (ls.map arD)) (nd : ls.Nodup) : ∃ ms : List (Nat × Nat × Nat), sortedD [d] μ = .ok (.lst (ms.map arD)) μ ∧ ms.Pairwise (fun a b => arLt a b = true) ∧ ∀ k, k ∈ ms ↔ k ∈ ls := by
  obtain ⟨h1, h2⟩ := srt_ris swo_arr (fun _ _ => arLt_tot) nd
  exact ⟨_, by rw [sorted_q h arr_able, sortL_arrs], h1, h2⟩
theorem ite_M {p : Prop} [Decidable p] {x y : M α} : (if p then x else y) μ = if p then x μ else y μ := by split <;> rfl
theorem atI_last {xs : List D} {v : D} : L2.atI (xs ++ [v]) (-1) = some v := by
  unfold L2.atI ixN
  have h1 : ¬ ((0 : Int) ≤ -1) := by omega
  have h2 : -((xs ++ [v]).length : Int) ≤ -1 := by simp; omega
  rw [if_neg h1, if_pos h2]
  have e : (-1 + ((xs ++ [v]).length : Int)).toNat = xs.length := by simp; omega
  simp only [Option.bind_some, e]
  simp
theorem ix_last {c : Nat} {xs : List D} {v : D} (h : μ[c]? = some (.lst (xs ++ [v]))) : ixD (.cell c) (.int (-1)) μ = .ok v μ := by
  unfold ixD
  have e : asD μ (.cell c) = none := by simp [asD, h]
  rw [e]
  unfold ixK
  simp [asS, asQ, asL, h, atI_last]
theorem rev_cell {c : Nat} {xs : List D} (h : μ[c]? = some (.lst xs)) : revD (.cell c) μ = .ok (.lst xs.reverse) μ := by
  unfold revD
  simp [asQ, asL, h]
theorem rev_stD {z : List Nat} (h : z.length ≤ 1000) : revD (stD z) μ = .ok (stD z.reverse) μ := by
  unfold revD
  have : (stS z).length ≤ sizeLine := by rw [stS_len]; exact Nat.le_trans h (by decide)
  simp [this, revS]
/-! ### sorted(set(xs)) of numbers -/
theorem ints_nats {ns : List Nat} : intsOf (ns.map nD) = some (ns.map fun (n : Nat) => (n : Int)) := by
  have := intsOf_of (ns.map fun (n : Nat) => (n : Int))
  rwa [List.map_map] at this
theorem sortI_nats {ns : List Nat} : ∃ ms : List Nat, sortI (ns.map fun (n : Nat) => (n : Int)) = ms.map (fun (n : Nat) => (n : Int)) ∧ ms.Pairwise (· < ·) ∧ ∀ k, k ∈ ms ↔ k ∈ ns := by
  have hm := fun k => mem_sortI (k := k) (ns.map fun (n : Nat) => (n : Int))
  have hr := ris_sortI (ns.map fun (n : Nat) => (n : Int))
  generalize sortI (ns.map fun (n : Nat) => (n : Int)) = l at hm hr
  have e : l = (l.map Int.toNat).map fun (n : Nat) => (n : Int) := by
    rw [List.map_map]
    conv => lhs; rw [← List.map_id l]
    refine List.map_congr_left fun k hk => ?_
    obtain ⟨n, _, rfl⟩ := List.mem_map.mp ((hm k).mp hk)
    simp
  refine ⟨l.map Int.toNat, e, ?_, fun k => ?_⟩
  · rw [e] at hr
    have hr2 := List.pairwise_map.mp (show List.Pairwise (fun x y : Int => x < y) _ from hr)
    exact hr2.imp fun h => by omega
  · constructor
    · intro h
      obtain ⟨i, hi, rfl⟩ := List.mem_map.mp h
      obtain ⟨n, hn, rfl⟩ := List.mem_map.mp ((hm i).mp hi)
      simpa using hn
    · intro h
      exact List.mem_map.mpr ⟨(k : Int), (hm _).mpr (List.mem_map.mpr ⟨k, h, rfl⟩), by simp⟩
/-- tuple(sorted(set(xs))) of a new list of numbers -/
theorem set_nats {ea : M D} {ns : List Nat} (h : ea μ = .ok (.lst (ns.map nD)) μ) (hl : ns.length < 64) : ∃ ms : List Nat, pkS ea isIntsL (ea >>= fun d => srtID d) (ea >>= fun d => srtD d) μ = .ok (.lst (ms.map nD)) μ ∧ ms.Pairwise (· < ·) ∧ ∀ k, k ∈ ms ↔ k ∈ ns := by
  cases ns with
  | nil =>
    refine ⟨[], ?_, List.Pairwise.nil, by simp⟩
    unfold pkS
    rw [h]
    simp [isIntsL, intsOf, h, srtD, textsOf, strsOf]
    rfl
  | cons a r =>
    obtain ⟨ms, e, h1, h2⟩ := sortI_nats (ns := a :: r)
    refine ⟨ms, ?_, h1, h2⟩
    unfold pkS
    rw [h]
    have ei : isIntsL μ (.lst ((a :: r).map nD)) = true := by
      unfold isIntsL
      rw [asQ_lst, Option.bind_some, ints_nats]
      rfl
    show (if isIntsL μ (.lst ((a :: r).map nD)) = true then _ else _ : M D) μ = _
    rw [if_pos ei, bind_ap, h, rb_ok]
    unfold srtID
    rw [asQ_lst, Option.bind_some, ints_nats]
    have : ((a :: r).map fun (n : Nat) => (n : Int)).length < 64 := by simpa using hl
    simp only [this, ↓reduceIte]
    rw [e, List.map_map]
    rfl
end
end Pu

set_option Elab.async false
set_option linter.all false
set_option maxRecDepth 100000
/-! Pu47: plain lemmas: draws from a pot, numbers that are not too great. -/
namespace Pu
open PySem L2
section
variable {α β γ σ : Type} {μ : Sto} {ρ : Sl} {G : Ctx}
/-- the pot in cell c, at most n times drawn beyond its number -/
def PotAt (μ : Sto) (c : Nat) (n : Int) : Prop := ∃ a b k : Int, μ[c]? = some (.lst [.int a, .int b, .int k]) ∧ 0 ≤ k ∧ k ≤ n
theorem PotAt.le {c : Nat} {n m : Int} (h : PotAt μ c n) (hm : n ≤ m) : PotAt μ c m := let ⟨a, b, k, q1, q2, q3⟩ := h; ⟨a, b, k, q1, q2, by omega⟩
theorem PotAt.app {l : Sto} {c : Nat} {n : Int} (h : PotAt μ c n) : PotAt (μ ++ l) c n := let ⟨a, b, k, q1, q2, q3⟩ := h; ⟨a, b, k, by rw [List.getElem?_append_left (List.getElem?_eq_some_iff.mp q1).1, q1], q2, q3⟩
theorem PotAt.lt {c : Nat} {n : Int} (h : PotAt μ c n) : c < μ.length := let ⟨a, b, k, q1, q2, q3⟩ := h; (List.getElem?_eq_some_iff.mp q1).1
theorem PotAt.other {c i : Nat} {n : Int} {o : MO} (h : PotAt μ c n) (hi : i ≠ c) : PotAt (μ.set i o) c n := let ⟨a, b, k, q1, q2, q3⟩ := h; ⟨a, b, k, by rw [List.getElem?_set_ne hi, q1], q2, q3⟩
theorem at_set {c : Nat} {o o' : MO} (h : μ[c]? = some o) : (μ.set c o')[c]? = some o' := by
  have := (List.getElem?_eq_some_iff.mp h).1
  rw [List.getElem?_set_self this]
theorem log_lt {i : Int} (h1 : 0 ≤ i) (h2 : i < 2 ^ 70) : i.natAbs.log2 < 1000 := by
  by_cases e : i.natAbs = 0
  · rw [e]; decide
  · refine Nat.lt_of_lt_of_le ((Nat.log2_lt e).mpr (?_ : i.natAbs < 2 ^ 70)) (by decide)
    omega
theorem mul_ok {i j : Int} (h1 : 0 ≤ i) (h2 : i < 2 ^ 70) (h3 : 0 ≤ j) (h4 : j < 2 ^ 70) : binD .Mult (.int i) (.int j) μ = .ok (.int (i * j)) μ := by
  show (if i.natAbs.log2 + j.natAbs.log2 < 1000000 then R.ok (D.int (i * j)) μ else R.stuck) = _
  have := log_lt h1 h2
  have := log_lt h3 h4
  rw [if_pos (by omega)]
theorem mod_ok {i j : Int} (h : 0 < j) : binD .Mod (.int i) (.int j) μ = .ok (.int (i % j)) μ := by
  show (if 0 < j then R.ok (D.int (i % j)) μ else R.stuck) = _
  rw [if_pos h]
theorem div_ok {i j : Int} (h : 0 < j) (h2 : j < 2 ^ 70) : binD .FloorDiv (.int i) (.int j) μ = .ok (.int (i / j)) μ := by
  show (if 0 < j ∧ j.natAbs.log2 < 9000 then R.ok (D.int (i / j)) μ else R.stuck) = _
  have := log_lt (Int.le_of_lt h) h2
  rw [if_pos ⟨h, by omega⟩]
theorem log_big {i : Int} (h1 : -(2 ^ 400) < i) (h2 : i < 2 ^ 400) : i.natAbs.log2 < 1000 := by
  by_cases e : i.natAbs = 0
  · rw [e]; decide
  · refine Nat.lt_of_lt_of_le ((Nat.log2_lt e).mpr (?_ : i.natAbs < 2 ^ 400)) (by decide)
    omega
theorem mul_big {i j : Int} (h1 : -(2 ^ 400) < i) (h2 : i < 2 ^ 400) (h3 : -(2 ^ 400) < j) (h4 : j < 2 ^ 400) : binD .Mult (.int i) (.int j) μ = .ok (.int (i * j)) μ := by
  show (if i.natAbs.log2 + j.natAbs.log2 < 1000000 then R.ok (D.int (i * j)) μ else R.stuck) = _
  have := log_big h1 h2
  have := log_big h3 h4
  rw [if_pos (by omega)]
theorem div_big {i j : Int} (h : 0 < j) (h2 : j < 2 ^ 400) : binD .FloorDiv (.int i) (.int j) μ = .ok (.int (i / j)) μ := by
  show (if 0 < j ∧ j.natAbs.log2 < 9000 then R.ok (D.int (i / j)) μ else R.stuck) = _
  have := log_big (show -(2 ^ 400) < j by omega) h2
  rw [if_pos ⟨h, by omega⟩]
theorem ix_cell {c : Nat} {xs : List D} {i : Int} {v : D} (h : μ[c]? = some (.lst xs)) (hi : L2.atI xs i = some v) : ixD (.cell c) (.int i) μ = .ok v μ := by
  unfold ixD
  have e : asD μ (.cell c) = none := by simp [asD, h]
  rw [e]
  unfold ixK
  simp [asS, asQ, asL, h, hi]
theorem set_cell {c : Nat} {xs : List D} {j : Int} {i : Nat} {v : D} (h : μ[c]? = some (.lst xs)) (e : ixN xs.length j = some i) : setD (.cell c) (.int j) v μ = .ok () (μ.set c (.lst (xs.set i v))) := by
  unfold setD
  simp [h, setL, e]
theorem len_cell {c : Nat} {xs : List D} (h : μ[c]? = some (.lst xs)) : lenO G [.cell c] μ = .ok (.int xs.length) μ := by
  unfold lenO
  have e : asO μ (.cell c) = none := by simp [asO, h]
  simp only [e]
  unfold lenD
  simp [asS, asQ, asL, h]
theorem pow_ok {i j : Int} (h : 0 ≤ j ∧ (Builtin.Int.intBits i : Int) * j ≤ 2 ^ 27) : binD .Pow (.int i) (.int j) μ = .ok (.int (i ^ j.toNat)) μ := by
  show (if 0 ≤ j ∧ (Builtin.Int.intBits i : Int) * j ≤ 2 ^ 27 then R.ok (D.int (i ^ j.toNat)) μ else R.stuck) = _
  rw [if_pos h]
def gr : Int := ((10 : Int) ^ 61) ^ 11
theorem gr_pos : 0 < gr := by decide +kernel
def t61 : Int := (10 : Int) ^ 61
def t18 : Int := (10 : Int) ^ 18
theorem pow1 : binD .Pow (.int 10) (.int 61) μ = .ok (.int t61) μ := pow_ok (by decide +kernel)
theorem pow2 : binD .Pow (.int t61) (.int 11) μ = .ok (.int gr) μ := pow_ok (i := t61) (by decide +kernel)
theorem pow3 : binD .Pow (.int 10) (.int 18) μ = .ok (.int t18) μ := pow_ok (by decide +kernel)
theorem ix_frz {ns : List Int} {i : Nat} (h : i < ns.length) : ixD (.frz (ns.map D.int)) (nD i) μ = .ok (.int ns[i]) μ := by
  show ixK (.frz (ns.map D.int)) (nD i) μ = _
  unfold ixK
  have : L2.atI (ns.map D.int) (i : Int) = some (.int ns[i]) := at_nat (by simp [h])
  simp [this]
theorem pop_cell {c k : Nat} {xs : List D} {z : D} (h : μ[c]? = some (.lst xs)) (hk : xs[k]? = some z) (hl : xs.length ≤ 1000) : popD (.cell c) (nD k) μ = .ok z (μ.set c (.lst (xs.eraseIdx k))) := by
  have hk' : k < xs.length := (List.getElem?_eq_some_iff.mp hk).1
  have hs : seqIndex? (k : Int) xs.length = some k := by
    unfold seqIndex?
    have e1 : ¬ ((k : Int) < 0) := by omega
    have e2 : ((k : Int) < (xs.length : Int)) := by omega
    simp [e1, e2]
  have hb : -(2 ^ 63) ≤ (k : Int) ∧ (k : Int) < 2 ^ 63 := by omega
  unfold popD
  simp only [h, hb, and_self, ↓reduceIte, hs, hk]
/-- all but cell c stays as it was -/
structure Fr (c : Nat) (μ ν : Sto) : Prop where
  len : μ.length ≤ ν.length
  same : ∀ i, i ≠ c → i < μ.length → ν[i]? = μ[i]?
theorem Fr.refl {c : Nat} : Fr c μ μ := ⟨Nat.le_refl _, fun _ _ _ => rfl⟩
theorem Fr.trans {c : Nat} {ν τ : Sto} (h1 : Fr c μ ν) (h2 : Fr c ν τ) : Fr c μ τ := ⟨Nat.le_trans h1.len h2.len, fun i h hi => (h2.same i h (Nat.lt_of_lt_of_le hi h1.len)).trans (h1.same i h hi)⟩
theorem Fr.set {c : Nat} {o : MO} : Fr c μ (μ.set c o) := ⟨by simp, fun i h _ => List.getElem?_set_ne fun e => h e.symm⟩
theorem Fr.app {c : Nat} {l : Sto} : Fr c μ (μ ++ l) := ⟨by simp, fun i _ hi => List.getElem?_append_left hi⟩
theorem Fr.at {c i : Nat} {ν : Sto} {o : MO} (h : Fr c μ ν) (hi : μ[i]? = some o) (hc : i ≠ c) : ν[i]? = some o := (h.same i hc (List.getElem?_eq_some_iff.mp hi).1).trans hi
theorem perm_erase {l : List α} {j : Nat} {z : α} (h : l[j]? = some z) : (z :: l.eraseIdx j).Perm l := by
  obtain ⟨h1, h2⟩ := List.getElem?_eq_some_iff.mp h
  rw [List.eraseIdx_eq_take_drop_succ]
  have e : l = l.take j ++ z :: l.drop (j + 1) := by
    rw [← h2, List.getElem_cons_drop, List.take_append_drop]
  conv => rhs; rw [e]
  exact List.perm_middle.symm
end
end Pu

set_option Elab.async false
set_option linter.all false
set_option maxRecDepth 100000
set_option maxHeartbeats 1000000
/-! k12: draws. -/
namespace K12
open PySem L2 Pu
section
variable {μ : Sto}
theorem bit_ok {c : Nat} {n m : Int} (hp : PotAt μ c n) (hn : n ≤ 1000000) (h0 : 0 < m) (h1 : m < 2 ^ 400) : ∃ r o, d__law_bit [.cell c, .int m] μ = .ok (.int r) (μ.set c o) ∧ 0 ≤ r ∧ r < m ∧ PotAt (μ.set c o) c (n + 1) := by
  obtain ⟨a, b, k, q1, q2, q3⟩ := hp
  have r0 : ixD (.cell c) (.int 0) μ = .ok (.int a) μ := ix_cell q1 rfl
  have r2 : ixD (.cell c) (.int 2) μ = .ok (.int k) μ := ix_cell q1 rfl
  by_cases ha : 0 < a
  · have s0 := set_cell (v := .int (a / m)) (j := 0) (i := 0) q1 rfl
    refine ⟨a % m, _, ?_, Int.emod_nonneg _ (by omega), Int.emod_lt_of_pos _ h0, a / m, b, k, at_set q1, q2, by omega⟩
    rw [u__law_bit]
    simp [p__law_bit, r0, ha, mod_ok h0, div_big h0 h1, s0]
  · have s2 := set_cell (v := .int (k + 1)) (j := 2) (i := 2) q1 rfl
    have w1 : ixD (.cell c) (.int 1) (μ.set c (.lst [.int a, .int b, .int (k + 1)])) = .ok (.int b) (μ.set c (.lst [.int a, .int b, .int (k + 1)])) := ix_cell (at_set q1) rfl
    have w2 : ixD (.cell c) (.int 2) (μ.set c (.lst [.int a, .int b, .int (k + 1)])) = .ok (.int (k + 1)) (μ.set c (.lst [.int a, .int b, .int (k + 1)])) := ix_cell (at_set q1) rfl
    have f0 : 0 ≤ (b + 1000453 * (k + 1)) % 2305843009213693951 := Int.emod_nonneg _ (by decide)
    have f1 : (b + 1000453 * (k + 1)) % 2305843009213693951 < 2305843009213693951 := Int.emod_lt_of_pos _ (by decide)
    generalize hf : (b + 1000453 * (k + 1)) % 2305843009213693951 = f at f0 f1
    have g0 : 0 ≤ f * f % 2305843009213693921 := Int.emod_nonneg _ (by decide)
    have g1 : f * f % 2305843009213693921 < 2305843009213693921 := Int.emod_lt_of_pos _ (by decide)
    refine ⟨((f * f % 2305843009213693921 * f + 9103 * (k + 1)) % 2305843009213693907 / 16384) % m, .lst [.int a, .int b, .int (k + 1)], ?_, Int.emod_nonneg _ (by omega), Int.emod_lt_of_pos _ h0, a, b, k + 1, at_set q1, by omega, by omega⟩
    rw [u__law_bit]
    simp [p__law_bit, r0, r2, ha]
    rw [s2]
    simp [w1, w2, mul_ok (show (0 : Int) ≤ 1000453 by decide) (by decide) (show 0 ≤ k + 1 by omega) (by omega), mod_ok, hf, mul_ok f0 (by omega) f0 (by omega), mul_ok g0 (by omega) f0 (by omega), mul_ok (show (0 : Int) ≤ 9103 by decide) (by decide) (show 0 ≤ k + 1 by omega) (by omega), div_ok, mod_ok h0]
theorem pot_ok {ns : List Int} {i : Nat} (hi : i < 64) : ∃ a b : Int, d__law_pot [.frz (ns.map D.int), nD i] μ = .ok (.cell μ.length) (μ ++ [.lst [.int a, .int b, .int 0]]) := by
  have m0 : ∀ x : Int, 0 ≤ x % gr % 2147483249 := fun x => Int.emod_nonneg _ (by decide)
  have m1 : ∀ x : Int, x % gr % 2147483249 < 2 ^ 70 := fun x => Int.lt_trans (Int.emod_lt_of_pos _ (by decide)) (by decide)
  have k0 : ∀ x : Int, (0 : Int) ≤ (if x < 0 then 1 else 0) := fun x => by split <;> decide
  have k1 : ∀ x : Int, (if x < 0 then (1 : Int) else 0) < 2 ^ 70 := fun x => by split <;> decide
  have f1 : ∀ (x : Int) (ν : Sto), binD .Mult (.int (x % gr % 2147483249)) (.int 96293) ν = .ok (.int (x % gr % 2147483249 * 96293)) ν := fun x ν => mul_ok (m0 x) (m1 x) (by decide) (by decide)
  have f2 : ∀ ν : Sto, binD .Mult (.int 9413) (.int (i : Int)) ν = .ok (.int (9413 * i)) ν := fun ν => mul_ok (by decide) (by decide) (by omega) (by omega)
  have f3 : ∀ (x : Int) (ν : Sto), binD .Mult (.int 47) (.int (if x < 0 then 1 else 0)) ν = .ok (.int (47 * if x < 0 then 1 else 0)) ν := fun x ν => mul_ok (by decide) (by decide) (k0 x) (k1 x)
  rw [u__law_pot]
  by_cases h : i < ns.length
  · have hx := ix_frz (μ := μ) h
    simp [p__law_pot, h, hx, pow1, pow2, pow3, mod_ok gr_pos, mod_ok, f1, f2, f3]
  · have hx : binD .Mult (.int 67) (.int (i : Int)) μ = .ok (.int (67 * i)) μ := mul_ok (by decide) (by decide) (by omega) (by omega)
    simp [p__law_pot, h, hx, pow1, pow2, pow3, mod_ok gr_pos, mod_ok, f1, f2, f3]
theorem pick_ok {c : Nat} {n : Int} {s : D} {xs : List D} (hs : s = .lst xs ∨ s = .tup xs) (hp : PotAt μ c n) (hn : n ≤ 1000000) (h0 : xs ≠ []) (h1 : xs.length < 1000) : ∃ d o, d__law_pick [.cell c, s] μ = .ok d (μ.set c o) ∧ d ∈ xs ∧ PotAt (μ.set c o) c (n + 1) := by
  have hl : 0 < xs.length := List.length_pos_iff.mpr h0
  obtain ⟨r, o, e, r0, r1, hp2⟩ := bit_ok (m := (xs.length : Int)) hp hn (by omega) (by omega)
  have hr : r.toNat < xs.length := by omega
  have hv : xs[r.toNat]? = some xs[r.toNat] := List.getElem?_eq_getElem hr
  have ha : L2.atI xs r = some xs[r.toNat] := by
    have := at_nat hv
    rwa [show ((r.toNat : Nat) : Int) = r by omega] at this
  refine ⟨xs[r.toNat], o, ?_, List.getElem_mem hr, hp2⟩
  rw [u__law_pick]
  rcases hs with rfl | rfl <;> simp [p__law_pick, e, ix_lst ha, ix_tup ha]
/-- a text's sign -/
theorem pick_str {c : Nat} {n : Int} {z : List Nat} (hp : PotAt μ c n) (hn : n ≤ 1000000) (h0 : z ≠ []) (h1 : z.length < 1000) : ∃ x ∈ z, ∃ o, d__law_pick [.cell c, stD z] μ = .ok (sD' x) (μ.set c o) ∧ PotAt (μ.set c o) c (n + 1) := by
  have hl : 0 < z.length := List.length_pos_iff.mpr h0
  obtain ⟨r, o, e, r0, r1, hp2⟩ := bit_ok (m := (z.length : Int)) hp hn (by omega) (by omega)
  have hr : r.toNat < z.length := by omega
  have ha : L2.atI z r = some z[r.toNat] := by
    unfold L2.atI ixN
    rw [if_pos r0, if_pos (by omega)]
    simp [hr]
  have hi : ∀ ν, ixD (stD z) (.int r) ν = .ok (sD' z[r.toNat]) ν := fun ν => by
    show ixK (stD z) (.int r) ν = _
    unfold ixK
    have : (stS z).length ≤ sizeLine := by rw [stS_len]; exact Nat.le_trans (Nat.le_of_lt h1) (by decide)
    simp [this, ha]
  refine ⟨z[r.toNat], List.getElem_mem hr, o, ?_, hp2⟩
  rw [u__law_pick]
  simp [p__law_pick, len_stD (Nat.le_of_lt h1), e, hi]
theorem dealt_turn {c m : Nat} {n : Int} {s d : D} {rem : List D} {ν : Sto} (hm : ν[m]? = some (.lst rem)) (hp : PotAt ν c n) (hmc : m ≠ c) (hn : n ≤ 1000000) (h0 : rem ≠ []) (hl : rem.length < 1000) :
    ∃ k z ν', turnS (fun d ρ => some (ρ.set 3 (some d))) nxt e1__law_dealt [some (.cell c), some s, some (.cell m), none] d ν = .ok (some z) ν' ∧ rem[k]? = some z ∧ ν'[m]? = some (.lst (rem.eraseIdx k)) ∧ PotAt ν' c (n + 1) ∧ ν'.length = ν.length ∧ ∀ i, i ≠ c → i ≠ m → ν'[i]? = ν[i]? := by
  have hl0 : 0 < rem.length := List.length_pos_iff.mpr h0
  obtain ⟨r, o, e, r0, r1, hp2⟩ := bit_ok (m := (rem.length : Int)) hp hn (by omega) (by omega)
  have hr : r.toNat < rem.length := by omega
  have hm2 : (ν.set c o)[m]? = some (.lst rem) := by rw [List.getElem?_set_ne fun e => hmc e.symm, hm]
  have hv : rem[r.toNat]? = some rem[r.toNat] := List.getElem?_eq_getElem hr
  have pp := pop_cell (k := r.toNat) hm2 hv (by omega)
  rw [show nD r.toNat = D.int r by show D.int _ = _; rw [show ((r.toNat : Nat) : Int) = r by omega]] at pp
  refine ⟨r.toNat, rem[r.toNat], (ν.set c o).set m (.lst (rem.eraseIdx r.toNat)), ?_, hv, at_set hm2, hp2.other hmc, by simp, fun i hi hj => ?_⟩
  · simp [turnS, e1__law_dealt]
    rw [mth_cell (c := m) (by simp) hm]
    simp [chk_cell hm, len_cell hm, e, pp]
  · rw [List.getElem?_set_ne fun e => hj e.symm, List.getElem?_set_ne fun e => hi e.symm]
theorem dealt_turns {c m : Nat} {s : D} (ds : List D) (acc rem : List D) (n : Int) (ν : Sto) (hd : ds.length = rem.length) (hm : ν[m]? = some (.lst rem)) (hp : PotAt ν c n) (hmc : m ≠ c) (hn : n + ds.length ≤ 1000000) (hl : acc.length + rem.length < 1000) :
    ∃ out ν', compL (turnS (fun d ρ => some (ρ.set 3 (some d))) nxt e1__law_dealt [some (.cell c), some s, some (.cell m), none]) ds acc ν = .ok (acc ++ out) ν' ∧ out.Perm rem ∧ PotAt ν' c (n + ds.length) ∧ ν'.length = ν.length ∧ ∀ i, i ≠ c → i ≠ m → ν'[i]? = ν[i]? := by
  induction ds generalizing acc rem n ν with
  | nil =>
    have : rem = [] := by simpa using hd.symm
    subst this
    exact ⟨[], ν, by simp [compL], .refl _, by simpa using hp, rfl, fun _ _ _ => rfl⟩
  | cons d ds ih =>
    rw [List.length_cons] at hd hn
    have h0 : rem ≠ [] := fun e => by rw [e] at hd; simp at hd
    obtain ⟨k, z, ν1, e1, e2, e3, e4, e5, e6⟩ := dealt_turn (s := s) (d := d) hm hp hmc (by omega) h0 (by omega)
    have hk := (List.getElem?_eq_some_iff.mp e2).1
    have hel : (rem.eraseIdx k).length = rem.length - 1 := List.length_eraseIdx_of_lt hk
    obtain ⟨out, ν2, f1, f2, f3, f4, f5⟩ := ih (acc ++ [z]) (rem.eraseIdx k) (n + 1) ν1 (by omega) e3 e4 (by omega) (by simp; omega)
    refine ⟨z :: out, ν2, ?_, (f2.cons z).trans (perm_erase e2), by rw [List.length_cons]; exact f3.le (by omega), by omega, fun i h1 h2 => (f5 i h1 h2).trans (e6 i h1 h2)⟩
    unfold compL
    rw [bind_ap, e1, rb_ok]
    show (if acc.length < sizeLine then _ else stuck : M _) ν1 = _
    rw [if_pos (Nat.lt_of_lt_of_le (show acc.length < 1000 by omega) (by decide)), f1, List.append_assoc]
    rfl
theorem dealt_ok {c : Nat} {n : Int} {s : D} {xs : List D} (hs : s = .lst xs ∨ s = .tup xs) (hp : PotAt μ c n) (hn : n ≤ 900000) (h1 : xs.length < 1000) : ∃ L ν, d__law_dealt [.cell c, s] μ = .ok (.lst L) ν ∧ L.Perm xs ∧ PotAt ν c (n + xs.length) ∧ Fr c μ ν := by
  have hc := hp.lt
  obtain ⟨out, ν, f1, f2, f3, f4, f5⟩ := dealt_turns (c := c) (m := μ.length) (s := s) ((List.range xs.length).map nD) [] xs n (μ ++ [.lst xs]) (by simp) (by simp) hp.app (by omega) (by simp; omega) (by simp; omega)
  refine ⟨out, ν, ?_, f2, by simpa using f3, ⟨by rw [f4]; simp, fun i h1 h2 => by rw [f5 i h1 (by omega), List.getElem?_append_left h2]⟩⟩
  rw [u__law_dealt]
  have lc : listCD [s] μ = .ok (.cell μ.length) (μ ++ [.lst xs]) := by rcases hs with rfl | rfl <;> rfl
  have ln : lenO g__law_dealt [s] (μ ++ [.lst xs]) = .ok (.int xs.length) (μ ++ [.lst xs]) := by rcases hs with rfl | rfl <;> rfl
  simp [p__law_dealt, lc, ln, rg1_nat (show xs.length < 2 ^ 62 by omega), f1]
end
end K12

set_option Elab.async false
set_option linter.all false
set_option maxRecDepth 100000
set_option maxHeartbeats 1000000
/-! k12: drawn readers and texts. -/
namespace K12
open PySem L2 Pu
section
variable {μ : Sto}
def unD : D → Nat
  | .int i => i.toNat
  | _ => 0
theorem perm_nats {L : List D} {ns : List Nat} (h : L.Perm (ns.map nD)) : ∃ ms : List Nat, L = ms.map nD ∧ ms.Perm ns := by
  refine ⟨L.map unD, ?_, ?_⟩
  · rw [List.map_map]
    conv => lhs; rw [← List.map_id L]
    refine List.map_congr_left fun d hd => ?_
    obtain ⟨k, _, rfl⟩ := List.mem_map.mp (h.subset hd)
    simp [unD]
  · have := h.map unD
    rw [List.map_map] at this
    simpa [unD, Function.comp_def] using this
theorem some_of_ok {c : Nat} {n : Int} {k : Nat} {le : Int} (hle : le = 0 ∨ le = 1) (hk : 1 ≤ k) (hk2 : k ≤ 60) (hp : PotAt μ c n) (hn : n ≤ 800000) :
    ∃ (ms : List Nat) (ν : Sto), d__law_some_of [.cell c, .lst ((List.range k).map nD), .int le] μ = .ok (nsT ms) ν ∧ ms.Pairwise (· < ·) ∧ (∀ i ∈ ms, i < k) ∧ PotAt ν c (n + 61) ∧ Fr c μ ν := by
  obtain ⟨r, o, e, r0, r1, hp2⟩ := bit_ok (m := ((k : Int) - le + 1)) hp (by omega) (by omega) (by omega)
  obtain ⟨L, ν, f1, f2, f3, f4⟩ := dealt_ok (s := .lst ((List.range k).map nD)) (.inl rfl) hp2 (by omega) (by simp; omega)
  obtain ⟨ms, rfl, pm⟩ := perm_nats f2
  have nd : ms.Nodup := pm.nodup_iff.mpr List.nodup_range
  obtain ⟨q, hq⟩ : ∃ q : Nat, le + r = (q : Int) := ⟨(le + r).toNat, by omega⟩
  have cut : cutL (ms.map nD) none (some (le + r)) = (ms.take q).map nD := by rw [hq, cut_to, List.map_take]
  obtain ⟨ms2, g1, g2, g3⟩ := sorted_nats (μ := ν) (d := .lst ((ms.take q).map nD)) rfl (nd.sublist (List.take_sublist _ _))
  refine ⟨ms2, ν, ?_, g2, fun i hi => ?_, f3.le (by simp; omega), (Fr.set (o := o)).trans f4⟩
  · rw [u__law_some_of]
    rw [List.map_take] at g1 cut
    simp [p__law_some_of, e, f1, cut, g1]
  · have := pm.subset (List.mem_of_mem_take ((g3 i).mp hi))
    simpa using this
theorem signs_ok {c : Nat} {n : Int} (hp : PotAt μ c n) (hn : n ≤ 800000) : ∃ (z : List Nat) (ν : Sto), d__law_signs [.cell c] μ = .ok (stD z) ν ∧ Lts z ∧ z.length ≤ 3 ∧ PotAt ν c (n + 1) ∧ Fr c μ ν := by
  obtain ⟨d, o, e, hd, hp2⟩ := pick_ok (s := .lst [.str "ab", .str "ab", .str "ab", .str "a", .str "xy", .str "abc"]) (.inl rfl) hp (by omega) (by simp) (by simp)
  have h2 : ∃ z, d = stD z ∧ Lts z ∧ z.length ≤ 3 := by
    simp at hd
    rcases hd with rfl | rfl | rfl | rfl
    · exact ⟨[97, 98], rfl, ⟨by decide, by decide, by decide⟩, by decide⟩
    · exact ⟨[97], rfl, ⟨by decide, by decide, by decide⟩, by decide⟩
    · exact ⟨[120, 121], rfl, ⟨by decide, by decide, by decide⟩, by decide⟩
    · exact ⟨[97, 98, 99], rfl, ⟨by decide, by decide, by decide⟩, by decide⟩
  obtain ⟨z, rfl, h3, h4⟩ := h2
  refine ⟨z, _, ?_, h3, h4, hp2, Fr.set⟩
  rw [u__law_signs]
  simp [p__law_signs, e]
/-- a list of draws -/
theorem comp_draw {f : D → M (Option D)} {P : D → Prop} {c : Nat} {N : Int} (hf : ∀ d ν n, PotAt ν c n → n ≤ N → ∃ z ν', f d ν = .ok (some z) ν' ∧ P z ∧ PotAt ν' c (n + 1) ∧ Fr c ν ν') (ds acc : List D) (ν : Sto) (n : Int) (hp : PotAt ν c n) (hn : n + ds.length ≤ N) (hl : acc.length + ds.length ≤ 1000) :
    ∃ out ν', compL f ds acc ν = .ok (acc ++ out) ν' ∧ (∀ z ∈ out, P z) ∧ out.length = ds.length ∧ PotAt ν' c (n + ds.length) ∧ Fr c ν ν' := by
  induction ds generalizing acc ν n with
  | nil => exact ⟨[], ν, by simp [compL], by simp, rfl, by simpa using hp, Fr.refl⟩
  | cons d ds ih =>
    rw [List.length_cons] at hn hl
    obtain ⟨z, ν1, e1, e2, e3, e4⟩ := hf d ν n hp (by omega)
    obtain ⟨out, ν2, f1, f2, f3, f4, f5⟩ := ih (acc ++ [z]) ν1 (n + 1) e3 (by omega) (by simp; omega)
    refine ⟨z :: out, ν2, ?_, by simp [e2]; exact f2, by simp [f3], by rw [List.length_cons]; exact f4.le (by omega), e4.trans f5⟩
    unfold compL
    rw [bind_ap, e1, rb_ok]
    show (if acc.length < sizeLine then _ else stuck : M _) ν1 = _
    rw [if_pos (Nat.lt_of_lt_of_le (show acc.length < 1001 by omega) (by decide)), f1, List.append_assoc]
    rfl
theorem signs_of {out : List D} {z : List Nat} (h : ∀ d ∈ out, ∃ x ∈ z, d = sD' x) : ∃ w : List Nat, out = w.map sD' ∧ ∀ x ∈ w, x ∈ z := by
  induction out with
  | nil => exact ⟨[], rfl, by simp⟩
  | cons d r ih =>
    obtain ⟨x, hx, rfl⟩ := h d List.mem_cons_self
    obtain ⟨w, rfl, hw⟩ := ih fun d hd => h d (List.mem_cons_of_mem _ hd)
    exact ⟨x :: w, rfl, by simp [hx]; exact hw⟩
theorem strs_signs {w : List Nat} : strsOf (w.map sD') = some (w.map sgn) := by
  have := strsOf_of (w.map sgn)
  rwa [List.map_map] at this
theorem join_signs {w : List Nat} : Txt.join "" (w.map sgn) = stS w := by
  show Builtin.Str.glued (Str.ofString "") (w.map sgn) = _
  rw [StrLaws.glued_eq_join]
  have h : ∀ w : List Nat, (Str.join (Str.ofString "") (w.map sgn)).cps.toList = w := by
    intro w
    induction w with
    | nil => rfl
    | cons a r ih =>
      cases r with
      | nil => rfl
      | cons b r =>
        show (sgn a ++ Str.ofString "" ++ Str.join (Str.ofString "") ((b :: r).map sgn)).cps.toList = _
        have e1 : ∀ x y : Str, (x ++ y).cps.toList = x.cps.toList ++ y.cps.toList := fun x y => by
          show (x.cps ++ y.cps).toList = _
          simp
        rw [e1, e1, ih]
        rfl
  have := h w
  revert this
  generalize Str.join (Str.ofString "") (w.map sgn) = x
  intro hx
  obtain ⟨cps⟩ := x
  have : cps = w.toArray := by rw [← hx]
  rw [this]
end
end K12

set_option Elab.async false
set_option linter.all false
set_option maxRecDepth 100000
set_option maxHeartbeats 1000000
/-! k12: drawn readers. -/
namespace K12
open PySem L2 Pu
section
variable {μ : Sto}
theorem sorted_same {hs : List Nat} (h : hs.Pairwise (· < ·)) {d : D} (hd : asS μ d = some (hs.map nD)) : sortedD [d] μ = .ok (.lst (hs.map nD)) μ := by
  obtain ⟨ms, e1, e2, e3⟩ := sorted_nats hd (h.imp fun hlt e => by omega)
  rw [e1, ris_nat e2 h e3]
theorem told_reader_ok {z : List Nat} {n : Nat} {hs ts : List Nat} {A : List (Nat × Nat × Nat)} (h1 : hs.Pairwise (· < ·)) (h2 : ts.Pairwise (· < ·)) (nd : A.Nodup) :
    ∃ (ls : List (Nat × Nat × Nat)) (l : Sto), d__law_told_reader [stD z, nD n, nsT hs, nsT ts, .lst (A.map arD)] μ = .ok (Rdr.d ⟨z, n, hs, ts, ls⟩) (μ ++ l) ∧ ls.Pairwise (fun a b => arLt a b = true) ∧ ∀ k, k ∈ ls ↔ k ∈ A := by
  obtain ⟨ls, e1, e2, e3⟩ := sorted_arrs (μ := μ ++ [.dic [(.inr "signs", stD z), (.inr "size", nD n), (.inr "heads", nsT hs), (.inr "tails", nsT ts)]]) (d := .lst (A.map arD)) rfl nd
  refine ⟨ls, [.dead], ?_, e2, e3⟩
  have s1 : sortedD [nsT hs] μ = .ok (.lst (hs.map nD)) μ := sorted_same h1 rfl
  have s2 : sortedD [nsT ts] μ = .ok (.lst (ts.map nD)) μ := sorted_same h2 rfl
  have pk : ∀ (k : Str) (y : D) (l : List (Key × D)) (ν : Sto), pairK (.str k) y l ν = .ok ((.inr k, y) :: l) ν := fun _ _ _ _ => rfl
  have mg : mergeD [] [(.inr "signs", stD z), (.inr "size", nD n), (.inr "heads", nsT hs), (.inr "tails", nsT ts)] = [(.inr "signs", stD z), (.inr "size", nD n), (.inr "heads", nsT hs), (.inr "tails", nsT ts)] := rfl
  have st : setD (.cell μ.length) (.str "links") (lsT ls) (μ ++ [.dic [(.inr "signs", stD z), (.inr "size", nD n), (.inr "heads", nsT hs), (.inr "tails", nsT ts)]]) = .ok () (μ ++ [.dic [(.inr "signs", stD z), (.inr "size", nD n), (.inr "heads", nsT hs), (.inr "tails", nsT ts), (.inr "links", lsT ls)]]) := by
    unfold setD
    have : putD [(.inr "signs", stD z), (.inr "size", nD n), (.inr "heads", nsT hs), (.inr "tails", nsT ts)] (.inr "links") (lsT ls) = [(.inr "signs", stD z), (.inr "size", nD n), (.inr "heads", nsT hs), (.inr "tails", nsT ts), (.inr "links", lsT ls)] := rfl
    simp [setK, this]
  have fz : frzD (.cell μ.length) (μ ++ [.dic [(.inr "signs", stD z), (.inr "size", nD n), (.inr "heads", nsT hs), (.inr "tails", nsT ts), (.inr "links", lsT ls)]]) = .ok (Rdr.d ⟨z, n, hs, ts, ls⟩) (μ ++ [.dead]) := by
    simp [frzD, Rdr.d]
  rw [u__law_told_reader]
  simp [p__law_told_reader, s1, s2, pk, mg, e1, st, fz]
/-! a dict whose keys are arrows, each with True -/
def addA (ks : List (Nat × Nat × Nat)) (t : Nat × Nat × Nat) : List (Nat × Nat × Nat) := if t ∈ ks then ks else ks ++ [t]
def arK (l : Nat × Nat × Nat) : List Key := [.inl (l.1 : Int), .inr (sgn l.2.1), .inl (l.2.2 : Int)]
theorem arK_inj {l m : Nat × Nat × Nat} (h : arK l = arK m) : l = m := by
  obtain ⟨a, b, c⟩ := l
  obtain ⟨d, e, f⟩ := m
  simp [arK, sgn] at h
  simp
  omega
def kt (ks : List (Nat × Nat × Nat)) : List (List Key × D) := ks.map fun l => (arK l, D.bl true)
theorem put_kt {ks : List (Nat × Nat × Nat)} {t : Nat × Nat × Nat} : putT (kt ks) (arK t) (.bl true) = kt (addA ks t) := by
  unfold addA
  by_cases h : t ∈ ks
  · rw [if_pos h]
    unfold putT
    rw [if_pos]
    · conv => rhs; rw [← List.map_id (kt ks)]
      refine List.map_congr_left fun kv hk => ?_
      obtain ⟨k, _, rfl⟩ := List.mem_map.mp hk
      by_cases e : arK k = arK t <;> simp [e]
    · rw [List.any_eq_true]
      exact ⟨_, List.mem_map.mpr ⟨t, h, rfl⟩, by simp⟩
  · rw [if_neg h]
    unfold putT
    rw [if_neg]
    · simp [kt]
    · simp only [List.any_eq_true, decide_eq_true_eq, not_exists, not_and]
      intro kv hk e
      obtain ⟨k, hk2, rfl⟩ := List.mem_map.mp hk
      have : k = t := arK_inj e
      subst this
      exact h hk2
theorem nd_addA {ks : List (Nat × Nat × Nat)} {t : Nat × Nat × Nat} (h : ks.Nodup) : (addA ks t).Nodup := by
  unfold addA
  by_cases q : t ∈ ks
  · rw [if_pos q]; exact h
  · rw [if_neg q, List.nodup_append]
    exact ⟨h, by simp, fun a ha b hb => by simp at hb; subst hb; intro e; subst e; exact q ha⟩
theorem mem_addA {ks : List (Nat × Nat × Nat)} {t k : Nat × Nat × Nat} (h : k ∈ addA ks t) : k ∈ ks ∨ k = t := by
  unfold addA at h
  by_cases q : t ∈ ks
  · rw [if_pos q] at h; exact .inl h
  · rw [if_neg q] at h; simpa using h
theorem len_addA {ks : List (Nat × Nat × Nat)} {t : Nat × Nat × Nat} : (addA ks t).length ≤ ks.length + 1 := by unfold addA; split <;> simp
/-- the arrows drawn so far -/
structure Lk (c m : Nat) (μ : Sto) (z : List Nat) (k : Nat) (n : Int) (t : Nat) (ν : Sto) : Prop where
  pot : PotAt ν c (n + t)
  fr : Fr c μ ν
  at_ : ∃ A : List (Nat × Nat × Nat), ν[m]? = some (.dt (kt A)) ∧ A.Nodup ∧ (∀ l ∈ A, l.1 < k ∧ l.2.1 ∈ z ∧ l.2.2 < k) ∧ A.length ≤ t
theorem Lk.le {c m k : Nat} {z : List Nat} {n : Int} {t u : Nat} {ν : Sto} (h : Lk c m μ z k n t ν) (q : t ≤ u) : Lk c m μ z k n u ν :=
  ⟨h.pot.le (by omega), h.fr, let ⟨A, a, b, d, e⟩ := h.at_; ⟨A, a, b, d, by omega⟩⟩
theorem Lk.draw {c m k : Nat} {z : List Nat} {n : Int} {t : Nat} {ν : Sto} {o : MO} (h : Lk c m μ z k n t ν) (hm : m ≠ c) (hp : PotAt (ν.set c o) c (n + t + 1)) : Lk c m μ z k n (t + 1) (ν.set c o) :=
  ⟨hp.le (by omega), h.fr.trans Fr.set, let ⟨A, a, b, d, e⟩ := h.at_; ⟨A, by rw [List.getElem?_set_ne fun q => hm q.symm]; exact a, b, d, by omega⟩⟩
theorem link_turn {c m k : Nat} {z : List Nat} {n : Int} {t a s : Nat} {ν : Sto} {x1 x2 x6 x7 x9 : Option D} {d : D} {K : Sl → M D} (h : Lk c m μ z k n t ν) (hm : μ.length ≤ m) (hmc : m ≠ c) (hn : n + t ≤ 900000) (ht : t ≤ 900) (hk : 1 ≤ k ∧ k ≤ 60) (ha : a < k) (hs : s ∈ z) :
    ∃ ν', (∀ kk, lpS (fun d ρ => some (ρ.set 9 (some d))) (b3__law_any_reader K) d [some (.cell c), x1, x2, some (nD k), some (.cell m), some (nD a), x6, x7, some (sD' s), x9] kk ν = kk [some (.cell c), x1, x2, some (nD k), some (.cell m), some (nD a), x6, x7, some (sD' s), some d] ν') ∧ Lk c m μ z k n (t + 1) ν' := by
  obtain ⟨r, o, e, r0, r1, hp2⟩ := bit_ok (m := (k : Int)) h.pot (by omega) (by omega) (by omega)
  have h2 := h.draw hmc hp2
  obtain ⟨A, a0, a2, a3, a4⟩ := h.at_
  have a1 : (ν.set c o)[m]? = some (.dt (kt A)) := by rw [List.getElem?_set_ne fun q => hmc q.symm]; exact a0
  obtain ⟨q, hq⟩ : ∃ q : Nat, r = (q : Int) := ⟨r.toNat, by omega⟩
  subst hq
  have hA : (kt A).length < sizeLine := Nat.lt_of_lt_of_le (show (kt A).length < 1000 by simp [kt]; omega) (by decide)
  have st : setT (.cell m) [nD a, sD' s, nD q] (.bl true) (ν.set c o) = .ok () ((ν.set c o).set m (.dt (kt (addA A (a, s, q))))) := by
    unfold setT
    have ko : keysOf [nD a, sD' s, nD q] = some (arK (a, s, q)) := rfl
    simp [a1, ko, hA, put_kt]
  refine ⟨(ν.set c o).set m (.dt (kt (addA A (a, s, q)))), fun kk => ?_, h2.pot.other hmc, ?_, addA A (a, s, q), at_set a1, nd_addA a2, fun l hl => ?_, ?_⟩
  · simp [lpS, b3__law_any_reader, e, st]
  · refine ⟨by simpa using h2.fr.len, fun i hi hj => ?_⟩
    rw [List.getElem?_set_ne (by omega)]
    exact h2.fr.same i hi hj
  · rcases mem_addA hl with hl | rfl
    · exact a3 l hl
    · exact ⟨ha, hs, by show q < k; omega⟩
  · have := len_addA (ks := A) (t := (a, s, q))
    omega
theorem sign_turn {c m k : Nat} {z : List Nat} {n : Int} {t a s : Nat} {ν : Sto} {x1 x2 x6 x7 x8 x9 : Option D} {K : Sl → M D} (h : Lk c m μ z k n t ν) (hm : μ.length ≤ m) (hmc : m ≠ c) (hn : n + t ≤ 850000) (ht : t ≤ 800) (hk : 1 ≤ k ∧ k ≤ 60) (ha : a < k) (hs : s ∈ z) :
    ∃ x9' ν', (∀ kk, lpS (fun d ρ => some (ρ.set 8 (some d))) (b2__law_any_reader K) (sD' s) [some (.cell c), x1, x2, some (nD k), some (.cell m), some (nD a), x6, x7, x8, x9] kk ν = kk [some (.cell c), x1, x2, some (nD k), some (.cell m), some (nD a), x6, x7, some (sD' s), x9'] ν') ∧ Lk c m μ z k n (t + 3) ν' := by
  obtain ⟨d, o, e, hd, hp2⟩ := pick_ok (s := .lst [.int 0, .int 1, .int 1, .int 1, .int 2]) (.inl rfl) h.pot (by omega) (by simp) (by simp)
  obtain ⟨q, rfl, hq⟩ : ∃ q : Nat, d = nD q ∧ q ≤ 2 := by
    simp at hd
    rcases hd with rfl | rfl | rfl
    · exact ⟨0, rfl, by omega⟩
    · exact ⟨1, rfl, by omega⟩
    · exact ⟨2, rfl, by omega⟩
  have h2 := h.draw hmc hp2
  have lp : ∃ x9' ν', (∀ kk, cL (fun d ρ => some (ρ.set 9 (some d))) (b3__law_any_reader kk) kk ((List.range q).map nD) [some (.cell c), x1, x2, some (nD k), some (.cell m), some (nD a), x6, x7, some (sD' s), x9] (ν.set c o) = kk [some (.cell c), x1, x2, some (nD k), some (.cell m), some (nD a), x6, x7, some (sD' s), x9'] ν') ∧ Lk c m μ z k n (t + 1 + q) ν' := by
    have gen : ∀ (ds : List D) (u : Nat) (y : Option D) (τ : Sto), Lk c m μ z k n u τ → u + ds.length ≤ 850 → n + u + ds.length ≤ 900000 → ∃ x9' ν', (∀ kk, cL (fun d ρ => some (ρ.set 9 (some d))) (b3__law_any_reader kk) kk ds [some (.cell c), x1, x2, some (nD k), some (.cell m), some (nD a), x6, x7, some (sD' s), y] τ = kk [some (.cell c), x1, x2, some (nD k), some (.cell m), some (nD a), x6, x7, some (sD' s), x9'] ν') ∧ Lk c m μ z k n (u + ds.length) ν' := by
      intro ds
      induction ds with
      | nil => exact fun u y τ hL _ _ => ⟨y, τ, fun kk => by simp, hL⟩
      | cons d ds ih =>
        intro u y τ hL h1 h2
        rw [List.length_cons] at h1 h2
        obtain ⟨τ1, e1, e2⟩ : ∃ τ1, (∀ kk, lpS (fun d ρ => some (ρ.set 9 (some d))) (b3__law_any_reader kk) d [some (.cell c), x1, x2, some (nD k), some (.cell m), some (nD a), x6, x7, some (sD' s), y] (cL (fun d ρ => some (ρ.set 9 (some d))) (b3__law_any_reader kk) kk ds) τ = cL (fun d ρ => some (ρ.set 9 (some d))) (b3__law_any_reader kk) kk ds [some (.cell c), x1, x2, some (nD k), some (.cell m), some (nD a), x6, x7, some (sD' s), some d] τ1) ∧ Lk c m μ z k n (u + 1) τ1 := by
          obtain ⟨τ1, f1, f2⟩ := link_turn (x1 := x1) (x2 := x2) (x6 := x6) (x7 := x7) (x9 := y) (d := d) (K := fin0) hL hm hmc (by omega) (by omega) hk ha hs
          exact ⟨τ1, fun kk => f1 _, f2⟩
        obtain ⟨w, τ2, f1, f2⟩ := ih (u + 1) (some d) τ1 e2 (by omega) (by omega)
        refine ⟨w, τ2, fun kk => ?_, by rw [List.length_cons]; exact f2.le (by omega)⟩
        rw [cL_cons, e1, f1]
    obtain ⟨w, τ, f1, f2⟩ := gen ((List.range q).map nD) (t + 1) x9 (ν.set c o) h2 (by simp; omega) (by simp; omega)
    exact ⟨w, τ, f1, by simpa using f2⟩
  obtain ⟨w, τ, f1, f2⟩ := lp
  refine ⟨w, τ, fun kk => ?_, f2.le (by omega)⟩
  simp [lpS, b2__law_any_reader, e, rg1_nat (show q < 2 ^ 62 by omega), f1]
theorem spot_turn {c m k : Nat} {z : List Nat} {n : Int} {t a : Nat} {ν : Sto} {x2 x5 x6 x7 x8 x9 : Option D} {K : Sl → M D} (h : Lk c m μ z k n t ν) (hm : μ.length ≤ m) (hmc : m ≠ c) (hz : z.length ≤ 4) (hn : n + t ≤ 840000) (ht : t ≤ 780) (hk : 1 ≤ k ∧ k ≤ 60) (ha : a < k) :
    ∃ x8' x9' ν', (∀ kk, lpS (fun d ρ => some (ρ.set 5 (some d))) (b1__law_any_reader K) (nD a) [some (.cell c), some (stD z), x2, some (nD k), some (.cell m), x5, x6, x7, x8, x9] kk ν = kk [some (.cell c), some (stD z), x2, some (nD k), some (.cell m), some (nD a), x6, x7, x8', x9'] ν') ∧ Lk c m μ z k n (t + 12) ν' := by
  have gen : ∀ (ws : List Nat) (u : Nat) (y8 y9 : Option D) (τ : Sto), (∀ s ∈ ws, s ∈ z) → Lk c m μ z k n u τ → u + 3 * ws.length ≤ 800 → n + u + 3 * ws.length ≤ 850000 → ∃ x8' x9' ν', (∀ kk, cL (fun d ρ => some (ρ.set 8 (some d))) (b2__law_any_reader kk) kk (ws.map sD') [some (.cell c), some (stD z), x2, some (nD k), some (.cell m), some (nD a), x6, x7, y8, y9] τ = kk [some (.cell c), some (stD z), x2, some (nD k), some (.cell m), some (nD a), x6, x7, x8', x9'] ν') ∧ Lk c m μ z k n (u + 3 * ws.length) ν' := by
    intro ws
    induction ws with
    | nil => exact fun u y8 y9 τ _ hL _ _ => ⟨y8, y9, τ, fun kk => by simp, hL⟩
    | cons s ws ih =>
      intro u y8 y9 τ hw hL h1 h2
      rw [List.length_cons] at h1 h2
      obtain ⟨w9, τ1, e1, e2⟩ := sign_turn (x1 := some (stD z)) (x2 := x2) (x6 := x6) (x7 := x7) (x8 := y8) (x9 := y9) (K := fin0) hL hm hmc (by omega) (by omega) hk ha (hw s List.mem_cons_self)
      obtain ⟨v8, v9, τ2, f1, f2⟩ := ih (u + 3) (some (sD' s)) w9 τ1 (fun x hx => hw x (List.mem_cons_of_mem _ hx)) e2 (by omega) (by omega)
      refine ⟨v8, v9, τ2, fun kk => ?_, by rw [List.length_cons]; exact f2.le (by omega)⟩
      rw [List.map_cons, cL_cons]
      exact (e1 _).trans (f1 kk)
  obtain ⟨v8, v9, τ, f1, f2⟩ := gen z t x8 x9 ν (fun _ h => h) h (by omega) (by omega)
  refine ⟨v8, v9, τ, fun kk => ?_, f2.le (by omega)⟩
  simp [lpS, b1__law_any_reader, f1]
theorem any_reader_ok {c : Nat} {n : Int} {z : List Nat} {most : Nat} (hz : Lts z) (hp : PotAt μ c n) (hn : n ≤ 700000) (hm : 1 ≤ most ∧ most ≤ 6) :
    ∃ (r : Rdr) (ν : Sto), d__law_any_reader [.cell c, stD z, nD most] μ = .ok r.d ν ∧ r.Ok ∧ r.z = z ∧ r.n ≤ most ∧ r.ls.length ≤ 12 * r.n ∧ PotAt ν c (n + 250) ∧ Fr c μ ν := by
  have hc := hp.lt
  have hzl := hz.len
  obtain ⟨x, o, e, r0, r1, hp2⟩ := bit_ok (m := (most : Int)) hp (by omega) (by omega) (by omega)
  obtain ⟨q, hk1⟩ : ∃ q : Nat, 1 + x = (q : Int) := ⟨(1 + x).toNat, by omega⟩
  have L0 : Lk c μ.length μ z q (n + 1) 0 (μ.set c o ++ [.dt []]) := ⟨by simpa using hp2.app, Fr.set.trans Fr.app, [], by simp [kt], List.nodup_nil, by simp, Nat.le_refl _⟩
  obtain ⟨ρ', ν', ⟨x5, x8, x9, rfl, hL⟩, hr⟩ := cL_inv (u := fun d ρ => some (ρ.set 5 (some d))) (body := b1__law_any_reader (k1__law_any_reader fin0 fin1 fin1)) (K := k1__law_any_reader fin0 fin1 fin1) (e := nD)
    (fun zs ρ ν => ∃ x5 x8 x9, ρ = [some (.cell c), some (stD z), some (nD most), some (nD q), some (.cell μ.length), x5, none, none, x8, x9] ∧ Lk c μ.length μ z q (n + 1) (12 * zs.length) ν) (List.range q) [] _ _ ⟨none, none, none, rfl, L0⟩
    (fun zs a ρ ν p ⟨x5, x8, x9, e1, e2⟩ => by
      subst e1
      have ha : a ∈ List.range q := p.subset (by simp)
      have hlen : (zs ++ [a]).length ≤ (List.range q).length := by simpa using p.length_le
      simp at ha hlen
      obtain ⟨v8, v9, τ, f1, f2⟩ := spot_turn (x2 := some (nD most)) (x5 := x5) (x6 := none) (x7 := none) (x8 := x8) (x9 := x9) (K := k1__law_any_reader fin0 fin1 fin1) e2 (Nat.le_refl _) (by omega) (by omega) (by omega) (by omega) (by omega) ha
      exact ⟨_, _, f1, some (nD a), v8, v9, rfl, f2.le (by simp; omega)⟩)
  simp at hL
  obtain ⟨A, a1, a2, a3, a4⟩ := hL.at_
  -- the heads and the tails
  obtain ⟨y, o2, g1, g2, g3, g4⟩ := bit_ok (m := 9) hL.pot (by omega) (by omega) (by omega)
  obtain ⟨hs, ν2, i1, i2, i3, i4, i5⟩ := some_of_ok (le := if y < 1 then y else 1) (k := q) (by split <;> omega) (by omega) (by omega) g4 (by omega)
  obtain ⟨y2, o3, j1, j2, j3, j4⟩ := bit_ok (m := 9) i4 (by omega) (by omega) (by omega)
  obtain ⟨ts, ν3, k1, k2, k3, k4, k5⟩ := some_of_ok (le := if y2 < 1 then y2 else 1) (k := q) (by split <;> omega) (by omega) (by omega) j4 (by omega)
  have fr3 : Fr c ν' ν3 := ((Fr.set (o := o2)).trans i5).trans ((Fr.set (o := o3)).trans k5)
  have at3 : ν3[μ.length]? = some (.dt (kt A)) := fr3.at a1 (by omega)
  obtain ⟨ls, l, m1, m2, m3⟩ := told_reader_ok (μ := ν3) (z := z) (n := q) i2 k2 a2
  have lst : listD [.cell μ.length] ν3 = .ok (.lst (A.map arD)) ν3 := by
    unfold listD
    have e1 : asS ν3 (.cell μ.length) = none := by simp [asS, asQ, asL, at3]
    have e2 : asD ν3 (.cell μ.length) = none := by simp [asD, at3]
    have e3 : asT ν3 (.cell μ.length) = some (kt A) := by simp [asT, at3]
    simp only [e1, e2, e3]
    simp [keysT, kt, arK, keyAs, Function.comp_def]
  have nd : ls.Nodup := m2.imp fun {a b} h e => by subst e; rw [arLt_irr] at h; cases h
  have hpm : ls.Perm A := (List.perm_ext_iff_of_nodup nd a2).mpr m3
  have hll : ls.length ≤ 12 * q := by rw [hpm.length_eq]; exact a4
  refine ⟨⟨z, q, hs, ts, ls⟩, ν3 ++ l, ?_, ⟨hz, by show 1 ≤ q; omega, by show q ≤ 60; omega, i3, i2, k3, k2, fun l hl => a3 l ((m3 l).mp hl), m2, ?_⟩, rfl, by show q ≤ most; omega, hll, (k4.app).le ?_, (hL.fr.trans fr3).trans Fr.app⟩
  · rw [u__law_any_reader]
    simp [p__law_any_reader, e, hk1, rg1_nat (show q < 2 ^ 62 by omega)]
    refine hr.trans ?_
    simp [k1__law_any_reader, rgD_nat (show q ≤ 1000 by omega), g1, i1, j1, k1, lst, m1]
  · show ls.length ≤ 1000
    omega
  · omega
end
end K12

set_option Elab.async false
set_option linter.all false
set_option maxRecDepth 100000
/-! Pu48: plain lemmas: equal tuples and lists of numbers, comprehensions that leave cells behind. -/
namespace Pu
open PySem L2
section
variable {α β γ σ : Type} {μ : Sto} {ρ : Sl} {G : Ctx}
def pyN (ns : List Nat) : List PyData := ns.map fun (n : Nat) => .int (n : Int)
theorem toPy_nats {ns : List Nat} : toPyL (ns.map nD) = some (pyN ns) := by
  induction ns with
  | nil => rfl
  | cons a r ih =>
    show (match toPy (nD a), toPyL (r.map nD) with | some p, some ps => some (p :: ps) | _, _ => none) = _
    rw [ih]
    rfl
theorem eqv_nats {a b : List Nat} : PyData.eqvAll (pyN a) (pyN b) = decide (a = b) := by
  induction a generalizing b with
  | nil => cases b <;> simp [pyN, PyData.eqvAll]
  | cons x r ih =>
    cases b with
    | nil => simp [pyN, PyData.eqvAll]
    | cons y t =>
      have := ih (b := t)
      unfold pyN at this ⊢
      rw [List.map_cons, List.map_cons, PyData.eqvAll, this, PyData.eqv]
      rw [Bool.eq_iff_iff]
      simp
      omega
theorem lay_nats {a : List Nat} : PyData.canLayAll0 (pyN a) = true := by
  induction a with
  | nil => rfl
  | cons x r ih =>
    show (PyData.canLay0 (.int x) && PyData.canLayAll0 (pyN r)) = true
    rw [ih]
    rfl
theorem dep_nats {a : List Nat} : PyData.depthAll (pyN a) = 0 := by
  induction a with
  | nil => rfl
  | cons x r ih =>
    show max (PyData.depth (.int x)) (PyData.depthAll (pyN r)) = 0
    rw [ih]
    rfl
theorem shaped_natsT {a : List Nat} : SeqAt.shaped (.tuple (pyN a)) = true := by
  unfold SeqAt.shaped
  have e1 : PyData.canLay0 (.tuple (pyN a)) = true := lay_nats
  have e2 : PyData.depth (.tuple (pyN a)) = 1 := by show PyData.depthAll (pyN a) + 1 = 1; rw [dep_nats]
  rw [e1, e2]
  rfl
theorem shaped_natsL {a : List Nat} : SeqAt.shaped (.list (pyN a)) = true := by
  unfold SeqAt.shaped
  have e1 : PyData.canLay0 (.list (pyN a)) = true := lay_nats
  have e2 : PyData.depth (.list (pyN a)) = 1 := by show PyData.depthAll (pyN a) + 1 = 1; rw [dep_nats]
  rw [e1, e2]
  rfl
@[simp] theorem eq_natsT {n : Bool} {a b : List Nat} : eqO G n (.tup (a.map nD)) (.tup (b.map nD)) μ = .ok (.bl (if n then !decide (a = b) else decide (a = b))) μ := by
  show eqD n (.tup (a.map nD)) (.tup (b.map nD)) μ = _
  have e : eqB μ (.tup (a.map nD)) (.tup (b.map nD)) = some (decide (a = b)) := by
    show (match (toPyL (a.map nD)).map PyData.tuple, (toPyL (b.map nD)).map PyData.tuple with
      | some p, some q => if SeqAt.shaped p = true ∧ SeqAt.shaped q = true then some (PyData.eqv p q) else none
      | _, _ => none) = _
    rw [toPy_nats, toPy_nats]
    show (if SeqAt.shaped (.tuple (pyN a)) = true ∧ SeqAt.shaped (.tuple (pyN b)) = true then some (PyData.eqvAll (pyN a) (pyN b)) else none) = _
    rw [if_pos ⟨shaped_natsT, shaped_natsT⟩, eqv_nats]
  unfold eqD
  rw [e]
@[simp] theorem eq_natsL {n : Bool} {a b : List Nat} : eqO G n (.lst (a.map nD)) (.lst (b.map nD)) μ = .ok (.bl (if n then !decide (a = b) else decide (a = b))) μ := by
  show eqD n (.lst (a.map nD)) (.lst (b.map nD)) μ = _
  have e : eqB μ (.lst (a.map nD)) (.lst (b.map nD)) = some (decide (a = b)) := by
    show (match (toPyL (a.map nD)).map PyData.list, (toPyL (b.map nD)).map PyData.list with
      | some p, some q => if SeqAt.shaped p = true ∧ SeqAt.shaped q = true then some (PyData.eqv p q) else none
      | _, _ => none) = _
    rw [toPy_nats, toPy_nats]
    show (if SeqAt.shaped (.list (pyN a)) = true ∧ SeqAt.shaped (.list (pyN b)) = true then some (PyData.eqvAll (pyN a) (pyN b)) else none) = _
    rw [if_pos ⟨shaped_natsL, shaped_natsL⟩, eqv_nats]
  unfold eqD
  rw [e]
theorem eq_natsL0 {n : Bool} {a : List Nat} : eqO G n (.lst (a.map nD)) (.lst []) μ = .ok (.bl (if n then !decide (a = []) else decide (a = []))) μ := eq_natsL (b := [])
theorem eq_bls3 {n a b c x y z : Bool} : eqO G n (.lst [.bl a, .bl b, .bl c]) (.lst [.bl x, .bl y, .bl z]) μ = .ok (.bl (if n then !(a == x && (b == y && c == z)) else (a == x && (b == y && c == z)))) μ := by
  show eqD n (.lst [.bl a, .bl b, .bl c]) (.lst [.bl x, .bl y, .bl z]) μ = _
  have e : eqB μ (.lst [.bl a, .bl b, .bl c]) (.lst [.bl x, .bl y, .bl z]) = some (a == x && (b == y && c == z)) := by
    cases a <;> cases b <;> cases c <;> cases x <;> cases y <;> cases z <;> rfl
  unfold eqD
  rw [e]
/-- a comprehension whose turns leave cells behind -/
theorem comp_gar {f : D → M (Option D)} {e : α → D} {g : α → Option D} (xs : List α) (h : ∀ x ∈ xs, ∀ μ, ∃ l, f (e x) μ = .ok (g x) (μ ++ l)) (acc : List D) (μ : Sto) (hl : acc.length + xs.length ≤ 1000000) : ∃ l, compL f (xs.map e) acc μ = .ok (acc ++ xs.filterMap g) (μ ++ l) := by
  induction xs generalizing acc μ with
  | nil => exact ⟨[], by simp [compL]⟩
  | cons x xs ih =>
    rw [List.length_cons] at hl
    obtain ⟨l1, e1⟩ := h x List.mem_cons_self μ
    rw [List.map_cons]
    unfold compL
    rw [bind_ap, e1, rb_ok]
    cases q : g x with
    | none =>
      obtain ⟨l2, e2⟩ := ih (fun y hy => h y (List.mem_cons_of_mem _ hy)) acc (μ ++ l1) (by omega)
      refine ⟨l1 ++ l2, ?_⟩
      rw [List.filterMap_cons_none q, ← List.append_assoc]
      exact e2
    | some z =>
      obtain ⟨l2, e2⟩ := ih (fun y hy => h y (List.mem_cons_of_mem _ hy)) (acc ++ [z]) (μ ++ l1) (by simp; omega)
      refine ⟨l1 ++ l2, ?_⟩
      show (if acc.length < sizeLine then _ else stuck : M _) (μ ++ l1) = _
      rw [if_pos (Nat.lt_of_lt_of_le (show acc.length < 1000001 by omega) (by decide)), e2, List.filterMap_cons_some q]
      simp
end
end Pu

set_option Elab.async false
set_option linter.all false
set_option maxRecDepth 100000
set_option maxHeartbeats 1000000
/-! k12: the law's own sets and lines. -/
namespace K12
open PySem L2 Pu
section
variable {μ : Sto}
theorem mem_tg {ls : List (Nat × Nat × Nat)} {a c b : Nat} : b ∈ tg ls a c ↔ (a, c, b) ∈ ls := by
  unfold tg
  rw [List.mem_map]
  constructor
  · rintro ⟨⟨x, y, z⟩, h, rfl⟩
    rw [List.mem_filter] at h
    simp at h
    obtain ⟨h1, rfl, rfl⟩ := h
    exact h1
  · intro h
    exact ⟨(a, c, b), by simp [h], rfl⟩
abbrev inL (L : List Int) : D := .lst (L.map D.int)
abbrev inT (L : List Int) : D := .tup (L.map D.int)
/-- a line: a list or a tuple -/
def Ln (x : D) (L : List Int) : Prop := x = inL L ∨ x = inT L
def Rdr.hl (r : Rdr) : List Int := (List.range r.n).map fun i => if i ∈ r.hs then 1 else 0
theorem head_line_ok {r : Rdr} (h : r.Ok) : d__law_head_line [r.d] μ = .ok (inL r.hl) μ := by
  have hn := h.n2
  have hs : (64 : Nat) ≤ sizeLine := by decide
  rw [u__law_head_line]
  simp [p__law_head_line, ix_size, rg1_nat (show r.n < 2 ^ 62 by omega)]
  rw [cmp_map (g := fun i => D.int (if i ∈ r.hs then 1 else 0)) (fun i hi => by simp [turnS, e1__law_head_line, ix_heads]) (by simp; omega)]
  simp [Rdr.hl]
theorem sum_ints {L : List Int} : sumD [inL L] μ = .ok (.int L.sum) μ := by
  unfold sumD
  simp [intsOf_of]
def putS (c : Nat) (L f : List Int) (l : Nat × Nat × Nat) : List Int := if l.2.1 = c then f.set l.2.2 (f.getD l.2.2 0 + L.getD l.1 0) else f
def Rdr.put (r : Rdr) (c : Nat) (L : List Int) : List Int := r.ls.foldl (putS c L) (List.replicate r.n 0)
theorem putS_len {c : Nat} {L : List Int} : ∀ {ls : List (Nat × Nat × Nat)} {f : List Int}, (ls.foldl (putS c L) f).length = f.length := by
  intro ls
  induction ls with
  | nil => exact rfl
  | cons l ls ih =>
    intro f
    rw [List.foldl_cons, ih]
    unfold putS
    split <;> simp
theorem at_end1 {a b : MO} : (μ ++ [a, b])[μ.length + 1]? = some b := by simp
theorem set_end1 {a b v : MO} : (μ ++ [a, b]).set (μ.length + 1) v = μ ++ [a, v] := by
  rw [List.set_append_right _ _ (by omega)]
  simp
theorem at_ints {L : List Int} {i : Nat} (h : i < L.length) : L2.atI (L.map D.int) (i : Int) = some (.int (L.getD i 0)) := at_nat (by simp [h])
theorem ixN_nat {n i : Nat} (h : i < n) : ixN n (i : Int) = some i := by
  unfold ixN
  rw [if_pos (by omega), if_pos (by omega)]
  simp
theorem ix_ln {x : D} {L : List Int} {i : Nat} (h : Ln x L) (hi : i < L.length) : ixD x (nD i) μ = .ok (.int (L.getD i 0)) μ := by
  rcases h with rfl | rfl
  · exact ix_lst (at_ints hi)
  · exact ix_tup (at_ints hi)
theorem put_ok {r : Rdr} (h : r.Ok) {c : Nat} {x : D} {L : List Int} (hx : Ln x L) (hL : L.length = r.n) : ∃ l, d__law_put [r.d, x, sD' c] μ = .ok (inL (r.put c L)) (μ ++ l) := by
  have hn := h.n2
  obtain ⟨ρ', ν', ⟨x4, x5, x6, rfl, rfl⟩, hr⟩ := cL_inv (u := uT (some [4, 5, 6])) (body := b1__law_put (k1__law_put fin0 fin1 fin1)) (K := k1__law_put fin0 fin1 fin1) (e := arD)
    (fun zs ρ ν => ∃ x4 x5 x6, ρ = [some r.d, some x, some (sD' c), some (.cell (μ.length + 1)), x4, x5, x6] ∧ ν = μ ++ [.lst [.int 0], .lst ((zs.foldl (putS c L) (List.replicate r.n 0)).map D.int)]) r.ls [] _ _ ⟨none, none, none, rfl, rfl⟩
    (fun zs l ρ ν p ⟨x4, x5, x6, e1, e2⟩ => by
      subst e1 e2
      have hl : l ∈ r.ls := p.subset (by simp)
      obtain ⟨b1, b2, b3⟩ := h.lsn l hl
      refine ⟨[some r.d, some x, some (sD' c), some (.cell (μ.length + 1)), some (nD l.1), some (sD' l.2.1), some (nD l.2.2)], μ ++ [.lst [.int 0], .lst (((zs ++ [l]).foldl (putS c L) (List.replicate r.n 0)).map D.int)], fun k => ?_, some (nD l.1), some (sD' l.2.1), some (nD l.2.2), rfl, rfl⟩
      have len : (zs.foldl (putS c L) (List.replicate r.n 0)).length = r.n := by rw [putS_len]; simp
      rw [List.foldl_append]
      generalize zs.foldl (putS c L) (List.replicate r.n 0) = f at len
      by_cases hc : l.2.1 = c
      · have i1 : ixD (.cell (μ.length + 1)) (nD l.2.2) (μ ++ [.lst [.int 0], .lst (f.map D.int)]) = .ok (.int (f.getD l.2.2 0)) (μ ++ [.lst [.int 0], .lst (f.map D.int)]) := ix_cell at_end1 (at_ints (by omega))
        have i2 : ixD x (nD l.1) (μ ++ [.lst [.int 0], .lst (f.map D.int)]) = .ok (.int (L.getD l.1 0)) (μ ++ [.lst [.int 0], .lst (f.map D.int)]) := ix_ln hx (by omega)
        have st := set_cell (v := .int (f.getD l.2.2 0 + L.getD l.1 0)) (j := (l.2.2 : Int)) (i := l.2.2) (at_end1 (μ := μ) (a := .lst [.int 0]) (b := .lst (f.map D.int))) (ixN_nat (by simp; omega))
        rw [set_end1] at st
        rw [List.foldl_cons, List.foldl_nil]
        unfold putS
        rw [if_pos hc, List.map_set]
        simp only [List.getD_eq_getElem?_getD] at i1 i2 st ⊢
        simp [lpS, b1__law_put, hc, i1, i2, st]
      · rw [List.foldl_cons, List.foldl_nil]
        unfold putS
        rw [if_neg hc]
        simp [lpS, b1__law_put, hc])
  refine ⟨[.lst [.int 0], .dead], ?_⟩
  have mc : mulC (.cell μ.length) (nD r.n) (μ ++ [.lst [.int 0]]) = .ok (.cell (μ.length + 1)) (μ ++ [.lst [.int 0], .lst ((List.replicate r.n (0 : Int)).map D.int)]) := by
    unfold mulC
    have e : asL (μ ++ [.lst [.int 0]]) (.cell μ.length) = some [.int 0] := by simp [asL]
    have c1 : ((r.n : Int) < 2 ^ 63 ∧ -(2 ^ 63) ≤ (r.n : Int) ∧ [D.int 0].length * (r.n : Int).toNat ≤ sizeLine) := ⟨by omega, by omega, Nat.le_trans (show [D.int 0].length * (r.n : Int).toNat ≤ 1000 by simp; omega) (by decide)⟩
    simp only [e, c1, and_self, ↓reduceIte]
    simp
  rw [u__law_put]
  simp [p__law_put, ix_size, ix_links, mc]
  simp at hr
  refine hr.trans ?_
  have fz : frzD (.cell (μ.length + 1)) (μ ++ [.lst [.int 0], .lst ((r.put c L).map D.int)]) = .ok (inL (r.put c L)) (μ ++ [.lst [.int 0], .dead]) := by
    unfold frzD
    simp only [at_end1, set_end1]
  simp [k1__law_put]
  exact fz
def stpS (L f : List Int) (l : Nat × Nat × Nat) : List Int := f.set l.2.2 (f.getD l.2.2 0 + L.getD l.1 0)
def Rdr.stp (r : Rdr) (L : List Int) : List Int := r.ls.foldl (stpS L) (List.replicate r.n 0)
theorem stpS_len {L : List Int} : ∀ {ls : List (Nat × Nat × Nat)} {f : List Int}, (ls.foldl (stpS L) f).length = f.length := by
  intro ls
  induction ls with
  | nil => exact rfl
  | cons l ls ih =>
    intro f
    rw [List.foldl_cons, ih]
    unfold stpS
    simp
theorem step_line_ok {r : Rdr} (h : r.Ok) {x : D} {L : List Int} (hx : Ln x L) (hL : L.length = r.n) : ∃ l, d__law_step_line [r.d, x] μ = .ok (inL (r.stp L)) (μ ++ l) := by
  have hn := h.n2
  obtain ⟨ρ', ν', ⟨x4, x5, x6, rfl, rfl⟩, hr⟩ := cL_inv (u := uT (some [3, 4, 5])) (body := b1__law_step_line (k1__law_step_line fin0 fin1 fin1)) (K := k1__law_step_line fin0 fin1 fin1) (e := arD)
    (fun zs ρ ν => ∃ x4 x5 x6, ρ = [some r.d, some x, some (.cell (μ.length + 1)), x4, x5, x6] ∧ ν = μ ++ [.lst [.int 0], .lst ((zs.foldl (stpS L) (List.replicate r.n 0)).map D.int)]) r.ls [] _ _ ⟨none, none, none, rfl, rfl⟩
    (fun zs l ρ ν p ⟨x4, x5, x6, e1, e2⟩ => by
      subst e1 e2
      have hl : l ∈ r.ls := p.subset (by simp)
      obtain ⟨b1, b2, b3⟩ := h.lsn l hl
      refine ⟨[some r.d, some x, some (.cell (μ.length + 1)), some (nD l.1), some (sD' l.2.1), some (nD l.2.2)], μ ++ [.lst [.int 0], .lst (((zs ++ [l]).foldl (stpS L) (List.replicate r.n 0)).map D.int)], fun k => ?_, some (nD l.1), some (sD' l.2.1), some (nD l.2.2), rfl, rfl⟩
      have len : (zs.foldl (stpS L) (List.replicate r.n 0)).length = r.n := by rw [stpS_len]; simp
      rw [List.foldl_append]
      generalize zs.foldl (stpS L) (List.replicate r.n 0) = f at len
      have i1 : ixD (.cell (μ.length + 1)) (nD l.2.2) (μ ++ [.lst [.int 0], .lst (f.map D.int)]) = .ok (.int (f.getD l.2.2 0)) (μ ++ [.lst [.int 0], .lst (f.map D.int)]) := ix_cell at_end1 (at_ints (by omega))
      have i2 : ixD x (nD l.1) (μ ++ [.lst [.int 0], .lst (f.map D.int)]) = .ok (.int (L.getD l.1 0)) (μ ++ [.lst [.int 0], .lst (f.map D.int)]) := ix_ln hx (by omega)
      have st := set_cell (v := .int (f.getD l.2.2 0 + L.getD l.1 0)) (j := (l.2.2 : Int)) (i := l.2.2) (at_end1 (μ := μ) (a := .lst [.int 0]) (b := .lst (f.map D.int))) (ixN_nat (by simp; omega))
      rw [set_end1] at st
      rw [List.foldl_cons, List.foldl_nil]
      unfold stpS
      rw [List.map_set]
      simp only [List.getD_eq_getElem?_getD] at i1 i2 st ⊢
      simp [lpS, b1__law_step_line, i1, i2, st])
  refine ⟨[.lst [.int 0], .dead], ?_⟩
  have mc : mulC (.cell μ.length) (nD r.n) (μ ++ [.lst [.int 0]]) = .ok (.cell (μ.length + 1)) (μ ++ [.lst [.int 0], .lst ((List.replicate r.n (0 : Int)).map D.int)]) := by
    unfold mulC
    have e : asL (μ ++ [.lst [.int 0]]) (.cell μ.length) = some [.int 0] := by simp [asL]
    have c1 : ((r.n : Int) < 2 ^ 63 ∧ -(2 ^ 63) ≤ (r.n : Int) ∧ [D.int 0].length * (r.n : Int).toNat ≤ sizeLine) := ⟨by omega, by omega, Nat.le_trans (show [D.int 0].length * (r.n : Int).toNat ≤ 1000 by simp; omega) (by decide)⟩
    simp only [e, c1, and_self, ↓reduceIte]
    simp
  rw [u__law_step_line]
  simp [p__law_step_line, ix_size, ix_links, mc]
  simp at hr
  refine hr.trans ?_
  have fz : frzD (.cell (μ.length + 1)) (μ ++ [.lst [.int 0], .lst ((r.stp L).map D.int)]) = .ok (inL (r.stp L)) (μ ++ [.lst [.int 0], .dead]) := by
    unfold frzD
    simp only [at_end1, set_end1]
  simp [k1__law_step_line]
  exact fz
theorem tail_sum_ok {r : Rdr} (h : r.Ok) {x : D} {L : List Int} (hx : Ln x L) (hL : L.length = r.n) : d__law_tail_sum [r.d, x] μ = .ok (.int (r.ts.map fun t => L.getD t 0).sum) μ := by
  have hn := h.n2
  have ht := asc_len h.tsr h.tsn
  have hs : (64 : Nat) ≤ sizeLine := by decide
  rw [u__law_tail_sum]
  simp [p__law_tail_sum, ix_tails]
  rw [cmp_map (g := fun t => D.int (L.getD t 0)) (fun t hT => by
    have i2 : ixD x (nD t) μ = .ok (.int (L.getD t 0)) μ := ix_ln hx (by have := h.tsn t hT; omega)
    simp only [List.getD_eq_getElem?_getD] at i2 ⊢
    simp [turnS, e1__law_tail_sum, i2]) (by omega)]
  have e : r.ts.map (fun t => D.int (L.getD t 0)) = (r.ts.map fun t => L.getD t 0).map D.int := by rw [List.map_map]; rfl
  rw [e]
  simp only [nxR_ok, rb_ok, fixL_0, yes_ap]
  exact sum_ints
def Rdr.line (r : Rdr) (w : List Nat) : List Int := w.foldl (fun L c => r.put c L) r.hl
def Rdr.ways (r : Rdr) (w : List Nat) : Int := (r.ts.map fun t => (r.line w).getD t 0).sum
theorem put_len {r : Rdr} {c : Nat} {L : List Int} : (r.put c L).length = r.n := by
  unfold Rdr.put
  rw [putS_len]
  simp
theorem hl_len {r : Rdr} : r.hl.length = r.n := by simp [Rdr.hl]
theorem fold_len {r : Rdr} : ∀ {w : List Nat} {L : List Int}, L.length = r.n → (w.foldl (fun L c => r.put c L) L).length = r.n := by
  intro w
  induction w with
  | nil => exact fun h => h
  | cons c w ih => exact fun h => ih put_len
theorem ways_ok {r : Rdr} (h : r.Ok) {w : List Nat} : ∃ l, d__law_ways_of [r.d, stD w] μ = .ok (.int (r.ways w)) (μ ++ l) := by
  obtain ⟨ρ', ν', ⟨x3, l, rfl, rfl⟩, hr⟩ := cL_inv (u := fun d ρ => some (ρ.set 3 (some d))) (body := b1__law_ways_of (k1__law_ways_of fin0 fin1 fin1)) (K := k1__law_ways_of fin0 fin1 fin1) (e := sD')
    (fun zs ρ ν => ∃ x3 l, ρ = [some r.d, some (stD w), some (inL (zs.foldl (fun L c => r.put c L) r.hl)), x3] ∧ ν = μ ++ l) w [] _ _ ⟨none, [], rfl, (List.append_nil μ).symm⟩
    (fun zs c ρ ν p ⟨x3, l, e1, e2⟩ => by
      subst e1 e2
      obtain ⟨l2, e⟩ := put_ok (μ := μ ++ l) h (c := c) (.inl rfl) (L := zs.foldl (fun L c => r.put c L) r.hl) (fold_len hl_len)
      refine ⟨[some r.d, some (stD w), some (inL ((zs ++ [c]).foldl (fun L c => r.put c L) r.hl)), some (sD' c)], μ ++ l ++ l2, fun k => ?_, some (sD' c), l ++ l2, rfl, by rw [List.append_assoc]⟩
      simp [lpS, b1__law_ways_of, e])
  refine ⟨l, ?_⟩
  rw [u__law_ways_of]
  simp [p__law_ways_of, head_line_ok h]
  refine hr.trans ?_
  have t := tail_sum_ok (μ := μ ++ l) h (.inl rfl) (L := r.line w) (fold_len hl_len)
  simp [k1__law_ways_of]
  exact t
end
end K12

set_option Elab.async false
set_option linter.all false
set_option maxRecDepth 100000
set_option maxHeartbeats 1000000
/-! k12: the program's states behind and ahead of texts. -/
namespace K12
open PySem L2 Pu
section
variable {μ : Sto}
theorem nd_len {n : Nat} {ns : List Nat} (nd : ns.Nodup) (h : ∀ i ∈ ns, i < n) : ns.length ≤ n := by
  obtain ⟨h1, h2⟩ := srt_ris swo_nat (by simp; omega) nd
  have hp := (srt_stb swo_nat ns).perm
  rw [← hp.length_eq]
  exact asc_len (by simpa using h1) fun i hi => h i ((h2 i).mp hi)
theorem ix_mv {r : Rdr} {c : Nat} (h : c ∈ r.z) : ixD (.dic (mvs r.n r.z r.ls)) (sD' c) μ = .ok (.tup ((List.range r.n).map fun a => nsT (tg r.ls a c))) μ := ix_dic rfl (valD_map h)
theorem ix_row {r : Rdr} {c a : Nat} (h : a < r.n) : ixD (.tup ((List.range r.n).map fun a => nsT (tg r.ls a c))) (nD a) μ = .ok (nsT (tg r.ls a c)) μ := ix_tup_nat (by simp [h])
theorem tg_lt {r : Rdr} (h : r.Ok) {a c b : Nat} (hb : b ∈ tg r.ls a c) : b < r.n := by
  unfold tg at hb
  obtain ⟨l, hl, rfl⟩ := List.mem_map.mp hb
  exact (h.lsn l (List.mem_filter.mp hl).1).2.2
/-! a dict whose keys are numbers, each with True -/
def addN (ks : List Nat) (t : Nat) : List Nat := if t ∈ ks then ks else ks ++ [t]
def kd (ks : List Nat) : List (Key × D) := ks.map fun (k : Nat) => ((Sum.inl (k : Int) : Key), D.bl true)
theorem put_kd {ks : List Nat} {t : Nat} : putD (kd ks) (.inl (t : Int)) (.bl true) = kd (addN ks t) := by
  unfold addN
  by_cases h : t ∈ ks
  · rw [if_pos h]
    unfold putD
    rw [if_pos]
    · conv => rhs; rw [← List.map_id (kd ks)]
      refine List.map_congr_left fun kv hk => ?_
      obtain ⟨k, _, rfl⟩ := List.mem_map.mp hk
      by_cases e : (Sum.inl (k : Int) : Key) = Sum.inl (t : Int) <;> simp [e]
    · rw [List.any_eq_true]
      exact ⟨_, List.mem_map.mpr ⟨t, h, rfl⟩, by simp⟩
  · rw [if_neg h, putD_new]
    · simp [kd]
    · intro kv hk e
      obtain ⟨k, hk2, rfl⟩ := List.mem_map.mp hk
      have : (k : Int) = t := by simpa using e
      have : k = t := by omega
      subst this
      exact h hk2
theorem mem_addN {ks : List Nat} {t k : Nat} : k ∈ addN ks t ↔ k ∈ ks ∨ k = t := by
  unfold addN
  by_cases h : t ∈ ks
  · rw [if_pos h]
    constructor
    · exact .inl
    · rintro (q | rfl)
      · exact q
      · exact h
  · rw [if_neg h]; simp
theorem nd_addN {ks : List Nat} {t : Nat} (h : ks.Nodup) : (addN ks t).Nodup := by
  unfold addN
  by_cases q : t ∈ ks
  · rw [if_pos q]; exact h
  · rw [if_neg q, List.nodup_append]
    exact ⟨h, by simp, fun a ha b hb => by simp at hb; subst hb; intro e; subst e; exact q ha⟩
theorem mem_adds {ts ks : List Nat} {k : Nat} : k ∈ ts.foldl addN ks ↔ k ∈ ks ∨ k ∈ ts := by
  induction ts generalizing ks with
  | nil => simp
  | cons t r ih => rw [List.foldl_cons, ih, mem_addN, List.mem_cons, or_assoc]
theorem nd_adds {ts ks : List Nat} (h : ks.Nodup) : (ts.foldl addN ks).Nodup := by
  induction ts generalizing ks with
  | nil => exact h
  | cons t r ih => rw [List.foldl_cons]; exact ih (nd_addN h)
theorem set_kd {l : Sto} {ks : List Nat} {t : Nat} (h : ks.length < 1000) : setD (.cell μ.length) (nD t) (.bl true) (μ ++ .dic (kd ks) :: l) = .ok () (μ ++ .dic (kd (addN ks t)) :: l) := by
  have hs : (1000 : Nat) ≤ sizeLine := by decide
  have h2 : (kd ks).length < sizeLine := by simp [kd]; omega
  unfold setD
  simp [setK, h2, put_kd]
theorem list_kd {l : Sto} {ks : List Nat} : listD [.cell μ.length] (μ ++ .dic (kd ks) :: l) = .ok (.lst (ks.map nD)) (μ ++ .dic (kd ks) :: l) := by
  unfold listD
  simp [asS, asQ, asL, asD, keysD, kd, keyAs, Function.comp_def]
/-- the states to which a letter leads from some states -/
def Rdr.nx (r : Rdr) (c : Nat) (S : List Nat) : List Nat := below r.n fun b => S.any fun a => decide (b ∈ tg r.ls a c)
/-- the states from which a letter leads to some states -/
def Rdr.bk (r : Rdr) (c : Nat) (S : List Nat) : List Nat := below r.n fun a => (tg r.ls a c).any fun b => decide (b ∈ S)
theorem at_moves {r : Rdr} {G : Pu.Ctx} (h1 : G.prop "Reader" "own_moves" = none) (h2 : G.fld "Reader" "own_moves" = true) : attrD G "own_moves" r.o μ = .ok (.dic (mvs r.n r.z r.ls)) μ := attr_obj h1 h2 rfl
theorem at_firsts {r : Rdr} {G : Pu.Ctx} (h1 : G.prop "Reader" "own_firsts" = none) (h2 : G.fld "Reader" "own_firsts" = true) : attrD G "own_firsts" r.o μ = .ok (nsT r.hs) μ := attr_obj h1 h2 rfl
theorem at_lasts {r : Rdr} {G : Pu.Ctx} (h1 : G.prop "Reader" "own_lasts" = none) (h2 : G.fld "Reader" "own_lasts" = true) : attrD G "own_lasts" r.o μ = .ok (nsT r.ts) μ := attr_obj h1 h2 rfl
theorem at_letters {r : Rdr} {G : Pu.Ctx} (h1 : G.prop "Reader" "own_letters" = none) (h2 : G.fld "Reader" "own_letters" = true) : attrD G "own_letters" r.o μ = .ok (stD r.z) μ := attr_obj h1 h2 rfl
theorem at_size {r : Rdr} {G : Pu.Ctx} (h1 : G.prop "Reader" "own_size" = none) (h2 : G.fld "Reader" "own_size" = true) : attrD G "own_size" r.o μ = .ok (nD r.n) μ := attr_obj h1 h2 rfl
theorem merge_nil : mergeD [] [] = [] := rfl
theorem req_reader_ok {r : Rdr} : d_require_reader [r.o] μ = .ok .non μ := by
  rw [u_require_reader]
  have e : isiO g_require_reader [r.o, .adr "Reader"] μ = .ok (.bl true) μ := rfl
  simp [p_require_reader, e]
theorem at_arrows {r : Rdr} {G : Pu.Ctx} (h1 : G.prop "Reader" "own_arrows" = none) (h2 : G.fld "Reader" "own_arrows" = true) : attrD G "own_arrows" r.o μ = .ok (lsT r.ls) μ := attr_obj h1 h2 rfl
end
end K12

set_option Elab.async false
set_option linter.all false
set_option maxRecDepth 100000
set_option maxHeartbeats 1000000
/-! k12: the rows. -/
namespace K12
open PySem L2 Pu
section
variable {μ : Sto}
theorem get_cell {c i : Nat} {f : List Int} (h : μ[c]? = some (.lst (f.map D.int))) (hb : i < 2 ^ 62) (hi : i < f.length) : getC (.cell c) (nD i) μ = .ok (.int (f.getD i 0)) μ := by
  unfold getC
  have b : (0 : Int) ≤ (i : Int) ∧ (i : Int) < 2 ^ 62 := ⟨by omega, by omega⟩
  simp [h, hi]
  omega
@[simp] theorem add_ints {a b : Int} : addI (.int a) (.int b) μ = .ok (.int (a + b)) μ := (rfl)
theorem stepped_ok {r : Rdr} (h : r.Ok) {x : D} {L : List Int} (hx : Ln x L) (hL : L.length = r.n) : ∃ l, d_stepped [r.o, x] μ = .ok (inT (r.stp L)) (μ ++ l) := by
  have hn := h.n2
  obtain ⟨ρ', ν', ⟨x4, x5, x6, rfl, rfl⟩, hr⟩ := cL_inv (u := uT (some [3, 4, 5])) (body := b1_stepped (k1_stepped fin0 fin1 fin1)) (K := k1_stepped fin0 fin1 fin1) (e := arD)
    (fun zs ρ ν => ∃ x4 x5 x6, ρ = [some r.o, some x, some (.cell (μ.length + 1)), x4, x5, x6] ∧ ν = μ ++ [.lst [.int 0], .lst ((zs.foldl (stpS L) (List.replicate r.n 0)).map D.int)]) r.ls [] _ _ ⟨none, none, none, rfl, rfl⟩
    (fun zs l ρ ν p ⟨x4, x5, x6, e1, e2⟩ => by
      subst e1 e2
      have hl : l ∈ r.ls := p.subset (by simp)
      obtain ⟨b1, b2, b3⟩ := h.lsn l hl
      refine ⟨[some r.o, some x, some (.cell (μ.length + 1)), some (nD l.1), some (sD' l.2.1), some (nD l.2.2)], μ ++ [.lst [.int 0], .lst (((zs ++ [l]).foldl (stpS L) (List.replicate r.n 0)).map D.int)], fun k => ?_, some (nD l.1), some (sD' l.2.1), some (nD l.2.2), rfl, rfl⟩
      have len : (zs.foldl (stpS L) (List.replicate r.n 0)).length = r.n := by rw [stpS_len]; simp
      rw [List.foldl_append]
      generalize zs.foldl (stpS L) (List.replicate r.n 0) = f at len
      have i1 : getC (.cell (μ.length + 1)) (nD l.2.2) (μ ++ [.lst [.int 0], .lst (f.map D.int)]) = .ok (.int (f.getD l.2.2 0)) (μ ++ [.lst [.int 0], .lst (f.map D.int)]) := get_cell at_end1 (by omega) (by rw [len]; omega)
      have i2 : ixD x (nD l.1) (μ ++ [.lst [.int 0], .lst (f.map D.int)]) = .ok (.int (L.getD l.1 0)) (μ ++ [.lst [.int 0], .lst (f.map D.int)]) := ix_ln hx (by omega)
      have st := set_cell (v := .int (f.getD l.2.2 0 + L.getD l.1 0)) (j := (l.2.2 : Int)) (i := l.2.2) (at_end1 (μ := μ) (a := .lst [.int 0]) (b := .lst (f.map D.int))) (ixN_nat (by simp; omega))
      rw [set_end1] at st
      rw [List.foldl_cons, List.foldl_nil]
      unfold stpS
      rw [List.map_set]
      simp only [List.getD_eq_getElem?_getD] at i1 i2 st ⊢
      simp [lpS, b1_stepped, i1, i2, st])
  refine ⟨[.lst [.int 0], .lst ((r.stp L).map D.int)], ?_⟩
  have mc : mulC (.cell μ.length) (nD r.n) (μ ++ [.lst [.int 0]]) = .ok (.cell (μ.length + 1)) (μ ++ [.lst [.int 0], .lst ((List.replicate r.n (0 : Int)).map D.int)]) := by
    unfold mulC
    have e : asL (μ ++ [.lst [.int 0]]) (.cell μ.length) = some [.int 0] := by simp [asL]
    have c1 : ((r.n : Int) < 2 ^ 63 ∧ -(2 ^ 63) ≤ (r.n : Int) ∧ [D.int 0].length * (r.n : Int).toNat ≤ sizeLine) := ⟨by omega, by omega, Nat.le_trans (show [D.int 0].length * (r.n : Int).toNat ≤ 1000 by simp; omega) (by decide)⟩
    simp only [e, c1, and_self, ↓reduceIte]
    simp
  rw [u_stepped]
  simp [p_stepped, at_size (G := g_stepped) rfl rfl, at_arrows (G := g_stepped) rfl rfl, mc]
  simp at hr
  refine hr.trans ?_
  simp [k1_stepped]
  exact tuple_cell at_end1
theorem end_of_ok {r : Rdr} (h : r.Ok) {x : D} {L : List Int} (hx : Ln x L) (hL : L.length = r.n) : d_end_of [r.o, x] μ = .ok (.int (r.ts.map fun t => L.getD t 0).sum) μ := by
  have hn := h.n2
  have ht := asc_len h.tsr h.tsn
  have hs : (64 : Nat) ≤ sizeLine := by decide
  rw [u_end_of]
  simp [p_end_of, at_lasts (G := g_end_of) rfl rfl]
  rw [cmp_map (g := fun t => D.int (L.getD t 0)) (fun t hT => by
    have i2 : ixD x (nD t) μ = .ok (.int (L.getD t 0)) μ := ix_ln hx (by have := h.tsn t hT; omega)
    simp only [List.getD_eq_getElem?_getD] at i2 ⊢
    simp [turnS, e1_end_of, i2]) (by omega)]
  have e : r.ts.map (fun t => D.int (L.getD t 0)) = (r.ts.map fun t => L.getD t 0).map D.int := by rw [List.map_map]; rfl
  rw [e]
  simp only [nxR_ok, rb_ok, fixL_0, yes_ap]
  exact sum_ints
theorem first_row_of_ok {r : Rdr} (h : r.Ok) : d_first_row_of [r.o] μ = .ok (inT r.hl) μ := by
  have hn := h.n2
  have hs : (64 : Nat) ≤ sizeLine := by decide
  rw [u_first_row_of]
  simp [p_first_row_of, at_size (G := g_first_row_of) rfl rfl, rg1_nat (show r.n < 2 ^ 62 by omega)]
  rw [cmp_map (g := fun i => D.int (if i ∈ r.hs then 1 else 0)) (fun i hi => by simp [turnS, e1_first_row_of, at_firsts (G := g_first_row_of) rfl rfl]) (by simp; omega)]
  simp [Rdr.hl]
/-- numbers that the program takes -/
def Sm (L : List Int) : Prop := ∀ i ∈ L, -(10 ^ 100) ≤ i ∧ i ≤ 10 ^ 100
theorem is_int_ok {i : Int} (h : -(10 ^ 100) ≤ i ∧ i ≤ 10 ^ 100) : d_is_integer [.int i] μ = .ok (.bl true) μ := by
  rw [u_is_integer]
  simp [p_is_integer, isiO, isiD, tyD, isiB, knownC]
  omega
end
end K12

set_option Elab.async false
set_option linter.all false
set_option maxRecDepth 100000
set_option maxHeartbeats 1000000
/-! k12: a row behind a letter. -/
namespace K12
open PySem L2 Pu
section
variable {μ : Sto}
def addAt (f : List Int) (t : Nat) (v : Int) : List Int := f.set t (f.getD t 0 + v)
def mvS (r : Rdr) (c : Nat) (L f : List Int) (a : Nat) : List Int := (tg r.ls a c).foldl (fun f t => addAt f t (L.getD a 0)) f
def Rdr.mov (r : Rdr) (c : Nat) (L : List Int) : List Int := (List.range r.n).foldl (mvS r c L) (List.replicate r.n 0)
theorem add_len {f : List Int} {t : Nat} {v : Int} : (addAt f t v).length = f.length := by simp [addAt]
theorem adds_len {v : Int} : ∀ {ts : List Nat} {f : List Int}, (ts.foldl (fun f t => addAt f t v) f).length = f.length := by
  intro ts
  induction ts with
  | nil => exact rfl
  | cons t ts ih => intro f; rw [List.foldl_cons, ih, add_len]
theorem mvs_len {r : Rdr} {c : Nat} {L : List Int} : ∀ {as : List Nat} {f : List Int}, (as.foldl (mvS r c L) f).length = f.length := by
  intro as
  induction as with
  | nil => exact rfl
  | cons a as ih => intro f; rw [List.foldl_cons, ih]; exact adds_len
theorem mov_len {r : Rdr} {c : Nat} {L : List Int} : (r.mov c L).length = r.n := by
  unfold Rdr.mov
  rw [mvs_len]
  simp
theorem zip_row {g : Nat → D} {n : Nat} {L : List Int} (h : L.length = n) : List.zipWith (fun p q => D.tup [p, q]) (L.map D.int) ((List.range n).map g) = (List.range n).map fun a => .tup [.int (L.getD a 0), g a] := by
  apply List.ext_getElem
  · simp [h]
  · intro i h1 h2
    simp at h1 h2
    have : i < L.length := by omega
    simp [this]
end
end K12

set_option Elab.async false
set_option linter.all false
set_option maxRecDepth 100000
set_option maxHeartbeats 1000000
/-! k12: a row behind a text. -/
namespace K12
open PySem L2 Pu
section
variable {μ : Sto}
def Rdr.row (r : Rdr) (w : List Nat) : List Int := w.foldl (fun L c => r.mov c L) r.hl
theorem movs_len {r : Rdr} : ∀ {w : List Nat} {L : List Int}, L.length = r.n → (w.foldl (fun L c => r.mov c L) L).length = r.n := by
  intro w
  induction w with
  | nil => exact fun h => h
  | cons c w ih => exact fun h => ih mov_len
end
end K12

set_option Elab.async false
set_option linter.all false
set_option maxRecDepth 100000
set_option maxHeartbeats 1000000
/-! k12: dicts of counts. -/
namespace K12
open PySem L2 Pu
section
variable {μ : Sto}
def cd (am : List (Nat × Int)) : List (Key × D) := am.map fun p => ((Sum.inl (p.1 : Int) : Key), D.int p.2)
def ksA (am : List (Nat × Int)) : List Nat := am.map (·.1)
def setA (am : List (Nat × Int)) (t : Nat) (v : Int) : List (Nat × Int) := if t ∈ ksA am then am.map (fun p => if p.1 = t then (p.1, v) else p) else am ++ [(t, v)]
def vA (am : List (Nat × Int)) (t : Nat) : Int := match am with
  | [] => 0
  | p :: r => if p.1 = t then p.2 else vA r t
theorem val_cd {am : List (Nat × Int)} {t : Nat} : (valD (cd am) (.inl (t : Int))).getD (.int 0) = .int (vA am t) := by
  induction am with
  | nil => rfl
  | cons p r ih =>
    unfold vA
    unfold valD cd at ih ⊢
    rw [List.map_cons, List.find?_cons]
    by_cases e : p.1 = t
    · simp [e]
    · have e2 : ¬ ((p.1 : Int) = (t : Int)) := by omega
      simp only [Sum.inl.injEq, e2, decide_false, e, ↓reduceIte]
      exact ih
theorem put_cd {am : List (Nat × Int)} {t : Nat} {v : Int} : putD (cd am) (.inl (t : Int)) (.int v) = cd (setA am t v) := by
  unfold setA
  by_cases h : t ∈ ksA am
  · rw [if_pos h]
    unfold putD
    rw [if_pos]
    · unfold cd
      rw [List.map_map, List.map_map]
      refine List.map_congr_left fun p hp => ?_
      by_cases e : p.1 = t
      · simp [e]
      · have e2 : ¬ ((p.1 : Int) = (t : Int)) := by omega
        simp [e, e2]
    · rw [List.any_eq_true]
      obtain ⟨p, hp, rfl⟩ := List.mem_map.mp h
      exact ⟨_, List.mem_map.mpr ⟨p, hp, rfl⟩, by simp⟩
  · rw [if_neg h, putD_new]
    · simp [cd]
    · intro kv hk e
      obtain ⟨p, hp, rfl⟩ := List.mem_map.mp hk
      have e' : (p.1 : Int) = t := by simpa using e
      have e3 : p.1 = t := by omega
      exact h (List.mem_map.mpr ⟨p, hp, e3⟩)
theorem ks_set {am : List (Nat × Int)} {t : Nat} {v : Int} : ksA (setA am t v) = addN (ksA am) t := by
  unfold setA addN
  by_cases h : t ∈ ksA am
  · rw [if_pos h, if_pos h]
    unfold ksA
    rw [List.map_map]
    refine List.map_congr_left fun p hp => ?_
    by_cases e : p.1 = t <;> simp [e]
  · rw [if_neg h, if_neg h]
    simp [ksA]
theorem vA_map {am : List (Nat × Int)} {t k : Nat} {v : Int} (h : t ∈ ksA am) : vA (am.map fun p => if p.1 = t then (p.1, v) else p) k = if k = t then v else vA am k := by
  induction am with
  | nil => cases h
  | cons p r ih =>
    have ih' : ∀ k, k ≠ t → vA (r.map fun p => if p.1 = t then (p.1, v) else p) k = vA r k := by
      intro k hk
      clear ih h
      induction r with
      | nil => rfl
      | cons q s ih =>
        rw [List.map_cons]
        unfold vA
        rw [ih]
        by_cases e : q.1 = t
        · simp [e, Ne.symm hk]
        · simp [e]
    rw [List.map_cons]
    unfold vA
    by_cases e : p.1 = t
    · subst e
      by_cases ek : k = p.1
      · simp [ek]
      · simp [ek, Ne.symm ek, ih' k ek]
    · rw [if_neg e]
      have h2 : t ∈ ksA r := by
        rcases List.mem_cons.mp h with q | q
        · exact absurd q.symm e
        · exact q
      rw [ih h2]
      by_cases ek : k = t
      · subst ek
        simp [e]
      · simp [ek]
theorem vA_app {am : List (Nat × Int)} {t k : Nat} {v : Int} (h : t ∉ ksA am) : vA (am ++ [(t, v)]) k = if k = t then v else vA am k := by
  induction am with
  | nil => simp [vA, eq_comm]
  | cons p r ih =>
    simp [ksA] at h
    rw [List.cons_append]
    unfold vA
    rw [ih (by simp [ksA]; exact h.2)]
    by_cases e : p.1 = k
    · subst e
      have : ¬ p.1 = t := fun q => h.1 q.symm
      simp [this]
    · simp [e]
theorem vA_set {am : List (Nat × Int)} {t k : Nat} {v : Int} : vA (setA am t v) k = if k = t then v else vA am k := by
  unfold setA
  by_cases h : t ∈ ksA am
  · rw [if_pos h]; exact vA_map h
  · rw [if_neg h]; exact vA_app h
theorem getK_cd {l : Sto} {am : List (Nat × Int)} {t : Nat} : getK (.cell μ.length) (nD t) (.int 0) (μ ++ .dic (cd am) :: l) = .ok (.int (vA am t)) (μ ++ .dic (cd am) :: l) := by
  unfold getK
  simp [asD, Pu.keyOf, val_cd]
theorem isDic_cd {l : Sto} {am : List (Nat × Int)} : isDic (.cell μ.length) (μ ++ .dic (cd am) :: l) = .ok () (μ ++ .dic (cd am) :: l) := by
  unfold isDic
  simp [asD]
theorem set_cd {l : Sto} {am : List (Nat × Int)} {t : Nat} {v : Int} (h : am.length < 1000) : setD (.cell μ.length) (nD t) (.int v) (μ ++ .dic (cd am) :: l) = .ok () (μ ++ .dic (cd (setA am t v)) :: l) := by
  have hs : (1000 : Nat) ≤ sizeLine := by decide
  have h2 : (cd am).length < sizeLine := by simp [cd]; omega
  unfold setD
  simp [setK, h2, put_cd]
end
end K12

set_option Elab.async false
set_option linter.all false
set_option maxRecDepth 100000
set_option maxHeartbeats 1000000
/-! k12: the count of ways. -/
namespace K12
open PySem L2 Pu
section
variable {μ : Sto}
def putsA (am : List (Nat × Int)) (v : Int) (ts : List Nat) : List (Nat × Int) := ts.foldl (fun am t => setA am t (vA am t + v)) am
def inA (r : Rdr) (c : Nat) (am : List (Nat × Int)) (p : Nat × Int) : List (Nat × Int) := putsA am p.2 (tg r.ls p.1 c)
def Rdr.nxA (r : Rdr) (c : Nat) (am : List (Nat × Int)) : List (Nat × Int) := am.foldl (inA r c) []
def Rdr.cnt (r : Rdr) (w : List Nat) : List (Nat × Int) := w.foldl (fun am c => r.nxA c am) (r.hs.map fun a => (a, 1))
def OkA (n : Nat) (am : List (Nat × Int)) : Prop := (ksA am).Nodup ∧ ∀ k ∈ ksA am, k < n
theorem OkA.len {n : Nat} {am : List (Nat × Int)} (h : OkA n am) (hn : n ≤ 60) : am.length < 1000 := by
  have := nd_len h.1 h.2
  simp [ksA] at this
  omega
theorem OkA.set {n t : Nat} {v : Int} {am : List (Nat × Int)} (h : OkA n am) (ht : t < n) : OkA n (setA am t v) := by
  unfold OkA
  rw [ks_set]
  exact ⟨nd_addN h.1, fun k q => (mem_addN.mp q).elim (h.2 k) fun q => by rw [q]; exact ht⟩
theorem OkA.puts {n : Nat} {v : Int} : ∀ {ts : List Nat} {am : List (Nat × Int)}, OkA n am → (∀ t ∈ ts, t < n) → OkA n (putsA am v ts) := by
  intro ts
  induction ts with
  | nil => exact fun h _ => h
  | cons t ts ih => exact fun h ht => ih (h.set (ht t (by simp))) fun t q => ht t (by simp [q])
theorem OkA.ins {r : Rdr} (h : r.Ok) {c : Nat} : ∀ {ps am : List (Nat × Int)}, OkA r.n am → OkA r.n (ps.foldl (inA r c) am) := by
  intro ps
  induction ps with
  | nil => exact fun q => q
  | cons p ps ih => exact fun q => ih (q.puts fun t ht => tg_lt h ht)
theorem okA_nil {n : Nat} : OkA n [] := ⟨List.nodup_nil, by simp [ksA]⟩
theorem pairs_cd {am : List (Nat × Int)} : pairsOf (cd am) = am.map fun p => .tup [nD p.1, .int p.2] := by
  unfold pairsOf cd
  rw [List.map_map]
  exact List.map_congr_left fun p hp => rfl
abbrev mvT (r : Rdr) (c : Nat) : D := .tup ((List.range r.n).map fun a => nsT (tg r.ls a c))
def y8f (r : Rdr) (c : Nat) (am : List (Nat × Int)) (p : Nat × Int) (x8 : Option D) : Option D := ((tg r.ls p.1 c).foldl (fun (s : List (Nat × Int) × Option D) t => (setA s.1 t (vA s.1 t + p.2), some (nD t))) (am, x8)).2
end
end K12

set_option Elab.async false
set_option linter.all false
set_option maxRecDepth 100000
set_option maxHeartbeats 1000000
/-! k12: count_of. -/
namespace K12
open PySem L2 Pu
section
variable {μ : Sto}
def Rdr.cs (r : Rdr) (w : List Nat) : Int := (((r.cnt w).filter fun p => decide (p.1 ∈ r.ts)).map (·.2)).sum
theorem start_okA {r : Rdr} (h : r.Ok) : OkA r.n (r.hs.map fun a => (a, 1)) := by
  unfold OkA ksA
  rw [List.map_map]
  have e : r.hs.map ((fun p : Nat × Int => p.1) ∘ fun a => (a, 1)) = r.hs := (List.map_congr_left fun a ha => rfl).trans (List.map_id _)
  rw [e]
  exact ⟨h.hsr.imp fun hlt e => by omega, h.hsn⟩
theorem cnt_okA {r : Rdr} (h : r.Ok) : ∀ {w : List Nat} {am : List (Nat × Int)}, OkA r.n am → OkA r.n (w.foldl (fun am c => r.nxA c am) am) := by
  intro w
  induction w with
  | nil => exact fun q => q
  | cons c w ih => exact fun q => ih (OkA.ins h okA_nil)
end
end K12

set_option Elab.async false
set_option linter.all false
set_option maxRecDepth 100000
set_option maxHeartbeats 1000000
/-! k12: plain maths of increments. -/
namespace K12
open PySem L2 Pu
/-- increments one by one -/
def incs (ps : List (Nat × Int)) (f : List Int) : List Int := ps.foldl (fun f p => addAt f p.1 p.2) f
/-- all that is added at a place -/
def tot (ps : List (Nat × Int)) (t : Nat) : Int := ((ps.filter fun p => decide (p.1 = t)).map (·.2)).sum
theorem add_get {f : List Int} {t k : Nat} {v : Int} (ht : t < f.length) : (addAt f t v).getD k 0 = f.getD k 0 + if t = k then v else 0 := by
  unfold addAt
  simp only [List.getD_eq_getElem?_getD, List.getElem?_set]
  by_cases e : t = k
  · subst e; simp [ht]
  · simp [e]
theorem incs_len {ps : List (Nat × Int)} : ∀ {f : List Int}, (incs ps f).length = f.length := by
  induction ps with
  | nil => exact rfl
  | cons p ps ih => intro f; unfold incs; rw [List.foldl_cons]; exact (ih (f := addAt f p.1 p.2)).trans add_len
theorem incs_get {ps : List (Nat × Int)} {k : Nat} : ∀ {f : List Int}, (∀ p ∈ ps, p.1 < f.length) → (incs ps f).getD k 0 = f.getD k 0 + tot ps k := by
  induction ps with
  | nil => intro f h; simp [incs, tot]
  | cons p ps ih =>
    intro f h
    have := ih (f := addAt f p.1 p.2) (fun q hq => by rw [add_len]; exact h q (by simp [hq]))
    unfold incs at this ⊢
    rw [List.foldl_cons, this, add_get (h p (by simp))]
    unfold tot
    by_cases e : p.1 = k
    · simp [e]; omega
    · simp [e]
theorem tot_app {ps qs : List (Nat × Int)} {k : Nat} : tot (ps ++ qs) k = tot ps k + tot qs k := by simp [tot]
theorem incs_app {ps qs : List (Nat × Int)} {f : List Int} : incs (ps ++ qs) f = incs qs (incs ps f) := by simp [incs]
theorem ext_get {n : Nat} {f g : List Int} (h1 : f.length = n) (h2 : g.length = n) (h : ∀ k, k < n → f.getD k 0 = g.getD k 0) : f = g := by
  apply List.ext_getElem (by omega)
  intro i a b
  have := h i (by omega)
  simpa [a, b] using this
end K12

set_option Elab.async false
set_option linter.all false
set_option maxRecDepth 100000
set_option maxHeartbeats 1000000
/-! k12: a letter's row, by arrows and by moves. -/
namespace K12
open PySem L2 Pu
def putP (ls : List (Nat × Nat × Nat)) (c : Nat) (L : List Int) : List (Nat × Int) := (ls.filter fun l => decide (l.2.1 = c)).map fun l => (l.2.2, L.getD l.1 0)
def movP (ls : List (Nat × Nat × Nat)) (c : Nat) (L : List Int) (a : Nat) : List (Nat × Int) := (tg ls a c).map fun t => (t, L.getD a 0)
theorem put_incs {c : Nat} {L : List Int} : ∀ {ls : List (Nat × Nat × Nat)} {f : List Int}, ls.foldl (putS c L) f = incs (putP ls c L) f := by
  intro ls
  induction ls with
  | nil => intro f; rfl
  | cons l ls ih =>
    intro f
    rw [List.foldl_cons, ih]
    unfold putS putP
    by_cases e : l.2.1 = c
    · simp [e, incs, addAt]
    · simp [e]
theorem mvS_incs {r : Rdr} {c : Nat} {L f : List Int} {a : Nat} : mvS r c L f a = incs (movP r.ls c L a) f := by
  unfold mvS incs movP
  rw [List.foldl_map]
theorem mov_incs {r : Rdr} {c : Nat} {L : List Int} : ∀ {as : List Nat} {f : List Int}, as.foldl (mvS r c L) f = incs (as.flatMap (movP r.ls c L)) f := by
  intro as
  induction as with
  | nil => intro f; rfl
  | cons a as ih =>
    intro f
    rw [List.foldl_cons, ih, List.flatMap_cons, incs_app, mvS_incs]
theorem tot_flat {g : Nat → List (Nat × Int)} {k : Nat} : ∀ {as : List Nat}, tot (as.flatMap g) k = (as.map fun a => tot (g a) k).sum := by
  intro as
  induction as with
  | nil => rfl
  | cons a as ih => rw [List.flatMap_cons, tot_app, ih]; simp
theorem sum_add {f g : Nat → Int} : ∀ {as : List Nat}, (as.map fun a => f a + g a).sum = (as.map f).sum + (as.map g).sum := by
  intro as
  induction as with
  | nil => rfl
  | cons a as ih => simp [ih]; omega
theorem sum_zero {f : Nat → Int} : ∀ {as : List Nat}, (∀ a ∈ as, f a = 0) → (as.map f).sum = 0 := by
  intro as
  induction as with
  | nil => exact fun _ => rfl
  | cons a as ih => intro h; simp [h a (by simp), ih fun b hb => h b (by simp [hb])]
theorem sum_one {v : Int} {x : Nat} : ∀ {as : List Nat}, as.Nodup → x ∈ as → (as.map fun a => if x = a then v else 0).sum = v := by
  intro as
  induction as with
  | nil => intro _ h; cases h
  | cons a as ih =>
    intro nd h
    obtain ⟨n1, n2⟩ := List.nodup_cons.mp nd
    rw [List.map_cons, List.sum_cons]
    by_cases e : x = a
    · subst e
      rw [sum_zero fun b hb => if_neg fun q => n1 (by rw [q]; exact hb)]
      simp
    · have : x ∈ as := by
        rcases List.mem_cons.mp h with q | q
        · exact absurd q e
        · exact q
      rw [ih n2 this]
      simp [e]
theorem tot_mov {c k : Nat} {L : List Int} {as : List Nat} (nd : as.Nodup) : ∀ {ls : List (Nat × Nat × Nat)}, (∀ l ∈ ls, l.1 ∈ as) → (as.map fun a => tot (movP ls c L a) k).sum = tot (putP ls c L) k := by
  intro ls
  induction ls with
  | nil => intro _; exact sum_zero fun a ha => rfl
  | cons l ls ih =>
    intro h
    have e1 : ∀ a, tot (movP (l :: ls) c L a) k = (if l.1 = a then (if l.2.1 = c ∧ l.2.2 = k then L.getD l.1 0 else 0) else 0) + tot (movP ls c L a) k := by
      intro a
      unfold movP tg tot
      by_cases x1 : l.1 = a
      · by_cases x2 : l.2.1 = c
        · by_cases x3 : l.2.2 = k
          · subst x1; simp [x2, x3]
          · simp [x1, x2, x3]
        · simp [x1, x2]
      · simp [x1]
    have e2 : tot (putP (l :: ls) c L) k = (if l.2.1 = c ∧ l.2.2 = k then L.getD l.1 0 else 0) + tot (putP ls c L) k := by
      unfold putP tot
      by_cases x2 : l.2.1 = c
      · by_cases x3 : l.2.2 = k <;> simp [x2, x3]
      · simp [x2]
    rw [List.map_congr_left (fun a _ => e1 a), sum_add, ih fun m hm => h m (by simp [hm]), e2, sum_one nd (h l (by simp))]
theorem mov_put {r : Rdr} (h : r.Ok) {c : Nat} {L : List Int} : r.mov c L = r.put c L := by
  have e1 : r.mov c L = incs ((List.range r.n).flatMap (movP r.ls c L)) (List.replicate r.n 0) := mov_incs
  have e2 : r.put c L = incs (putP r.ls c L) (List.replicate r.n 0) := put_incs
  refine ext_get mov_len put_len fun k hk => ?_
  rw [e1, e2, incs_get, incs_get, tot_flat, tot_mov List.nodup_range fun l hl => List.mem_range.mpr (h.lsn l hl).1]
  · intro p hp
    unfold putP at hp
    obtain ⟨l, hl, rfl⟩ := List.mem_map.mp hp
    simp
    exact (h.lsn l (List.mem_filter.mp hl).1).2.2
  · intro p hp
    obtain ⟨a, _, ha⟩ := List.mem_flatMap.mp hp
    unfold movP at ha
    obtain ⟨t, ht, rfl⟩ := List.mem_map.mp ha
    simp
    exact tg_lt h ht
end K12

set_option Elab.async false
set_option linter.all false
set_option maxRecDepth 100000
set_option maxHeartbeats 1000000
/-! k12: the count of ways is the end of the row. -/
namespace K12
open PySem L2 Pu
theorem vA_puts {v : Int} {k : Nat} : ∀ {ts : List Nat} {am : List (Nat × Int)}, vA (putsA am v ts) k = vA am k + tot (ts.map fun t => (t, v)) k := by
  intro ts
  induction ts with
  | nil => intro am; simp [putsA, tot]
  | cons t ts ih =>
    intro am
    have e := ih (am := setA am t (vA am t + v))
    unfold putsA at e ⊢
    rw [List.foldl_cons, e, vA_set]
    unfold tot
    by_cases q : k = t
    · subst q; simp; omega
    · have q2 : ¬ t = k := fun z => q z.symm
      simp [q, q2]
theorem vA_ins {r : Rdr} {c k : Nat} : ∀ {ps am : List (Nat × Int)}, vA (ps.foldl (inA r c) am) k = vA am k + (ps.map fun p => tot ((tg r.ls p.1 c).map fun t => (t, p.2)) k).sum := by
  intro ps
  induction ps with
  | nil => intro am; simp
  | cons p ps ih =>
    intro am
    rw [List.foldl_cons, ih]
    unfold inA
    rw [vA_puts]
    simp
    omega
theorem vA_no {am : List (Nat × Int)} {a : Nat} (h : a ∉ ksA am) : vA am a = 0 := by
  induction am with
  | nil => rfl
  | cons p am ih =>
    simp [ksA] at h
    unfold vA
    rw [if_neg fun q => h.1 q.symm]
    exact ih (by simp [ksA]; exact h.2)
theorem sum_vA {F : Nat → Int → Int} (h0 : ∀ a, F a 0 = 0) {as : List Nat} (nd : as.Nodup) : ∀ {am : List (Nat × Int)}, (ksA am).Nodup → (∀ k ∈ ksA am, k ∈ as) → (am.map fun p => F p.1 p.2).sum = (as.map fun a => F a (vA am a)).sum := by
  intro am
  induction am with
  | nil => intro _ _; exact (sum_zero fun a _ => h0 a).symm
  | cons p am ih =>
    intro n h
    have n' : p.1 ∉ ksA am ∧ (ksA am).Nodup := by simpa [ksA] using n
    have e : ∀ a, F a (vA (p :: am) a) = (if p.1 = a then F p.1 p.2 else 0) + F a (vA am a) := by
      intro a
      by_cases q : p.1 = a
      · subst q
        rw [vA_no n'.1, h0]
        simp [vA]
      · simp [vA, q]
    rw [List.map_congr_left (fun a _ => e a), sum_add, sum_one nd (h p.1 (by simp [ksA])), List.map_cons, List.sum_cons, ih n'.2 fun k hk => h k (by simp [ksA] at hk ⊢; exact .inr hk)]
theorem tot_zero {ts : List Nat} {k : Nat} : tot (ts.map fun t => (t, (0 : Int))) k = 0 := by
  induction ts with
  | nil => rfl
  | cons t ts ih =>
    unfold tot at ih ⊢
    by_cases e : t = k
    · simp [e]; simpa using ih
    · simp [e]; simpa using ih
theorem mov_get {r : Rdr} (h : r.Ok) {c k : Nat} {L : List Int} (hk : k < r.n) : (r.mov c L).getD k 0 = ((List.range r.n).map fun a => tot (movP r.ls c L a) k).sum := by
  have e1 : r.mov c L = incs ((List.range r.n).flatMap (movP r.ls c L)) (List.replicate r.n 0) := mov_incs
  rw [e1, incs_get, tot_flat]
  · simp [hk]
  · intro p hp
    obtain ⟨a, _, ha⟩ := List.mem_flatMap.mp hp
    unfold movP at ha
    obtain ⟨t, ht, rfl⟩ := List.mem_map.mp ha
    simp
    exact tg_lt h ht
theorem nxA_mov {r : Rdr} (h : r.Ok) {c : Nat} {am : List (Nat × Int)} {L : List Int} (ho : OkA r.n am) (he : ∀ k, k < r.n → vA am k = L.getD k 0) : ∀ k, k < r.n → vA (r.nxA c am) k = (r.mov c L).getD k 0 := by
  intro k hk
  unfold Rdr.nxA
  rw [vA_ins, sum_vA (F := fun a v => tot ((tg r.ls a c).map fun t => (t, v)) k) (fun a => tot_zero) List.nodup_range ho.1 (fun k q => List.mem_range.mpr (ho.2 k q)), mov_get h hk]
  have : vA [] k = 0 := rfl
  rw [this, Int.zero_add]
  refine congrArg List.sum (List.map_congr_left fun a ha => ?_)
  rw [he a (List.mem_range.mp ha)]
  rfl
theorem fold_mov {r : Rdr} (h : r.Ok) : ∀ {w : List Nat} {am : List (Nat × Int)} {L : List Int}, OkA r.n am → (∀ k, k < r.n → vA am k = L.getD k 0) → ∀ k, k < r.n → vA (w.foldl (fun am c => r.nxA c am) am) k = (w.foldl (fun L c => r.mov c L) L).getD k 0 := by
  intro w
  induction w with
  | nil => exact fun _ he => he
  | cons c w ih => exact fun ho he => ih (OkA.ins h okA_nil) (nxA_mov h ho he)
theorem vA_start {hs : List Nat} {k : Nat} : vA (hs.map fun a => (a, 1)) k = if k ∈ hs then 1 else 0 := by
  induction hs with
  | nil => rfl
  | cons a hs ih =>
    rw [List.map_cons]
    unfold vA
    rw [ih]
    by_cases e : a = k
    · simp [e]
    · have e2 : ¬ k = a := fun z => e z.symm
      simp [e, e2]
theorem cnt_row {r : Rdr} (h : r.Ok) {w : List Nat} {k : Nat} (hk : k < r.n) : vA (r.cnt w) k = (r.row w).getD k 0 := by
  refine fold_mov h (start_okA h) (fun k hk => ?_) k hk
  rw [vA_start]
  simp [Rdr.hl, hk]
theorem row_line {r : Rdr} (h : r.Ok) {w : List Nat} : r.row w = r.line w := by
  unfold Rdr.row Rdr.line
  have e : (fun (L : List Int) c => r.mov c L) = fun L c => r.put c L := funext fun L => funext fun c => mov_put h
  rw [e]
end K12

set_option Elab.async false
set_option linter.all false
set_option maxRecDepth 100000
set_option maxHeartbeats 1000000
/-! k12: the ends of rows. -/
namespace K12
open PySem L2 Pu
def Rdr.en (r : Rdr) (L : List Int) : Int := (r.ts.map fun t => L.getD t 0).sum
theorem sum_sub {as ts : List Nat} {f : Nat → Int} (h1 : as.Nodup) (h2 : ts.Nodup) (h : ∀ t ∈ ts, t ∈ as) : (as.map fun a => if a ∈ ts then f a else 0).sum = (ts.map f).sum := by
  induction ts with
  | nil => exact sum_zero fun a _ => by simp
  | cons t ts ih =>
    obtain ⟨n1, n2⟩ := List.nodup_cons.mp h2
    have e : ∀ a, (if a ∈ t :: ts then f a else 0) = (if t = a then f t else 0) + if a ∈ ts then f a else 0 := by
      intro a
      by_cases q : t = a
      · subst q; simp [n1]
      · have q2 : ¬ a = t := fun z => q z.symm
        simp [q, q2]
    rw [List.map_congr_left (fun a _ => e a), sum_add, sum_one h1 (h t (by simp)), ih n2 fun t q => h t (by simp [q])]
    simp
theorem cs_filter {ts : List Nat} : ∀ {am : List (Nat × Int)}, ((am.filter fun p => decide (p.1 ∈ ts)).map (·.2)).sum = (am.map fun p => if p.1 ∈ ts then p.2 else 0).sum := by
  intro am
  induction am with
  | nil => rfl
  | cons p am ih => by_cases e : p.1 ∈ ts <;> simp [e, ih]
theorem cs_ways {r : Rdr} (h : r.Ok) {w : List Nat} : r.cs w = r.ways w := by
  have ho : OkA r.n (r.cnt w) := cnt_okA h (start_okA h)
  have ht : r.ts.Nodup := h.tsr.imp fun hlt e => by omega
  unfold Rdr.cs
  rw [cs_filter, sum_vA (F := fun a v => if a ∈ r.ts then v else 0) (fun a => by simp) (as := List.range r.n) List.nodup_range ho.1 (fun k q => List.mem_range.mpr (ho.2 k q)), sum_sub List.nodup_range ht fun t q => List.mem_range.mpr (h.tsn t q)]
  unfold Rdr.ways
  rw [← row_line h]
  exact congrArg List.sum (List.map_congr_left fun t q => cnt_row h (h.tsn t q))
theorem put_get {r : Rdr} (h : r.Ok) {c k : Nat} {L : List Int} (hk : k < r.n) : (r.put c L).getD k 0 = tot (putP r.ls c L) k := by
  have e2 : r.put c L = incs (putP r.ls c L) (List.replicate r.n 0) := put_incs
  rw [e2, incs_get]
  · simp [hk]
  · intro p hp
    unfold putP at hp
    obtain ⟨l, hl, rfl⟩ := List.mem_map.mp hp
    simp
    exact (h.lsn l (List.mem_filter.mp hl).1).2.2
theorem tot_lin {c k : Nat} {L M J : List Int} (hJ : ∀ i, J.getD i 0 = 3 * L.getD i 0 - M.getD i 0) : ∀ {ls : List (Nat × Nat × Nat)}, tot (putP ls c J) k = 3 * tot (putP ls c L) k - tot (putP ls c M) k := by
  have e2 : ∀ (L : List Int) l ls, tot (putP (l :: ls) c L) k = (if l.2.1 = c ∧ l.2.2 = k then L.getD l.1 0 else 0) + tot (putP ls c L) k := by
    intro L l ls
    unfold putP tot
    by_cases x2 : l.2.1 = c
    · by_cases x3 : l.2.2 = k <;> simp [x2, x3]
    · simp [x2]
  intro ls
  induction ls with
  | nil => rfl
  | cons l ls ih =>
    rw [e2, e2, e2, ih, hJ]
    split <;> omega
theorem en_lin {r : Rdr} {L M J : List Int} (hJ : ∀ i, J.getD i 0 = 3 * L.getD i 0 - M.getD i 0) : r.en J = 3 * r.en L - r.en M := by
  unfold Rdr.en
  induction r.ts with
  | nil => rfl
  | cons t ts ih => rw [List.map_cons, List.map_cons, List.map_cons, List.sum_cons, List.sum_cons, List.sum_cons, ih, hJ]; omega
end K12

set_option Elab.async false
set_option linter.all false
set_option maxRecDepth 100000
set_option maxHeartbeats 1000000
/-! k12: all letters together. -/
namespace K12
open PySem L2 Pu
def stpP (ls : List (Nat × Nat × Nat)) (L : List Int) : List (Nat × Int) := ls.map fun l => (l.2.2, L.getD l.1 0)
theorem stp_incs {L : List Int} : ∀ {ls : List (Nat × Nat × Nat)} {f : List Int}, ls.foldl (stpS L) f = incs (stpP ls L) f := by
  intro ls f
  unfold incs stpP
  rw [List.foldl_map]
  rfl
theorem stp_get {r : Rdr} (h : r.Ok) {k : Nat} {L : List Int} (hk : k < r.n) : (r.stp L).getD k 0 = tot (stpP r.ls L) k := by
  have e2 : r.stp L = incs (stpP r.ls L) (List.replicate r.n 0) := stp_incs
  rw [e2, incs_get]
  · simp [hk]
  · intro p hp
    unfold stpP at hp
    obtain ⟨l, hl, rfl⟩ := List.mem_map.mp hp
    simp
    exact (h.lsn l hl).2.2
theorem tot_all {k : Nat} {L : List Int} {z : List Nat} (nd : z.Nodup) : ∀ {ls : List (Nat × Nat × Nat)}, (∀ l ∈ ls, l.2.1 ∈ z) → (z.map fun c => tot (putP ls c L) k).sum = tot (stpP ls L) k := by
  intro ls
  induction ls with
  | nil => intro _; exact sum_zero fun a ha => rfl
  | cons l ls ih =>
    intro h
    have e1 : ∀ c, tot (putP (l :: ls) c L) k = (if l.2.1 = c then (if l.2.2 = k then L.getD l.1 0 else 0) else 0) + tot (putP ls c L) k := by
      intro c
      unfold putP tot
      by_cases x2 : l.2.1 = c
      · by_cases x3 : l.2.2 = k <;> simp [x2, x3]
      · simp [x2]
    have e2 : tot (stpP (l :: ls) L) k = (if l.2.2 = k then L.getD l.1 0 else 0) + tot (stpP ls L) k := by
      unfold stpP tot
      by_cases x3 : l.2.2 = k <;> simp [x3]
    rw [List.map_congr_left (fun a _ => e1 a), sum_add, ih fun m hm => h m (by simp [hm]), e2, sum_one nd (h l (by simp))]
end K12

set_option Elab.async false
set_option linter.all false
set_option maxRecDepth 100000
set_option maxHeartbeats 1000000
/-! k12: bounds. -/
namespace K12
open PySem L2 Pu
def Bd (B : Int) (L : List Int) : Prop := ∀ i, -B ≤ L.getD i 0 ∧ L.getD i 0 ≤ B
theorem tot_bd {c k : Nat} {L : List Int} {B : Int} (hb : Bd B L) : ∀ {ls : List (Nat × Nat × Nat)}, -(ls.length * B) ≤ tot (putP ls c L) k ∧ tot (putP ls c L) k ≤ ls.length * B := by
  have h0 : 0 ≤ B := by have := hb 0; omega
  intro ls
  induction ls with
  | nil => simp [putP, tot]
  | cons l ls ih =>
    have e2 : tot (putP (l :: ls) c L) k = (if l.2.1 = c ∧ l.2.2 = k then L.getD l.1 0 else 0) + tot (putP ls c L) k := by
      unfold putP tot
      by_cases x2 : l.2.1 = c
      · by_cases x3 : l.2.2 = k <;> simp [x2, x3]
      · simp [x2]
    have := hb l.1
    have m : ((l :: ls).length : Int) * B = ls.length * B + B := by rw [List.length_cons]; push_cast; rw [Int.add_mul, Int.one_mul]
    rw [e2, m]
    generalize (ls.length : Int) * B = q at *
    split <;> omega
theorem put_bd {r : Rdr} (h : r.Ok) {c : Nat} {L : List Int} {B : Int} (hb : Bd B L) : Bd (1000 * B) (r.put c L) := by
  have h0 : 0 ≤ B := by have := hb 0; omega
  intro k
  by_cases hk : k < r.n
  · rw [put_get h hk]
    have t := tot_bd (c := c) (k := k) hb (ls := r.ls)
    have m : (r.ls.length : Int) * B ≤ 1000 * B := Int.mul_le_mul_of_nonneg_right (by have := h.lsl; omega) h0
    omega
  · have e : (r.put c L).getD k 0 = 0 := by
      rw [List.getD_eq_getElem?_getD, List.getElem?_eq_none (by rw [put_len]; omega)]
      rfl
    rw [e]
    omega
theorem Bd.sm {L : List Int} {B : Int} (h : Bd B L) (hB : B ≤ 10 ^ 100) : Sm L := by
  intro i hi
  obtain ⟨k, hk, rfl⟩ := List.mem_iff_getElem.mp hi
  have := h k
  simp [hk] at this
  omega
end K12

set_option Elab.async false
set_option linter.all false
set_option maxRecDepth 100000
/-! Pu50: plain lemmas: equal tuples and lists of integers, integers item by item. -/
namespace Pu
open PySem L2
section
variable {α β γ σ : Type} {μ : Sto} {ρ : Sl} {G : Ctx}
def pyI (ns : List Int) : List PyData := ns.map fun n => .int n
theorem toPy_ints {ns : List Int} : toPyL (ns.map D.int) = some (pyI ns) := by
  induction ns with
  | nil => rfl
  | cons a r ih =>
    show (match toPy (.int a), toPyL (r.map D.int) with | some p, some ps => some (p :: ps) | _, _ => none) = _
    rw [ih]
    rfl
theorem eqv_ints {a b : List Int} : PyData.eqvAll (pyI a) (pyI b) = decide (a = b) := by
  induction a generalizing b with
  | nil => cases b <;> simp [pyI, PyData.eqvAll]
  | cons x r ih =>
    cases b with
    | nil => simp [pyI, PyData.eqvAll]
    | cons y t =>
      have := ih (b := t)
      unfold pyI at this ⊢
      rw [List.map_cons, List.map_cons, PyData.eqvAll, this, PyData.eqv]
      rw [Bool.eq_iff_iff]
      simp
theorem lay_ints {a : List Int} : PyData.canLayAll0 (pyI a) = true := by
  induction a with
  | nil => rfl
  | cons x r ih =>
    show (PyData.canLay0 (.int x) && PyData.canLayAll0 (pyI r)) = true
    rw [ih]
    rfl
theorem dep_ints {a : List Int} : PyData.depthAll (pyI a) = 0 := by
  induction a with
  | nil => rfl
  | cons x r ih =>
    show max (PyData.depth (.int x)) (PyData.depthAll (pyI r)) = 0
    rw [ih]
    rfl
theorem shaped_intsT {a : List Int} : SeqAt.shaped (.tuple (pyI a)) = true := by
  unfold SeqAt.shaped
  have e1 : PyData.canLay0 (.tuple (pyI a)) = true := lay_ints
  have e2 : PyData.depth (.tuple (pyI a)) = 1 := by show PyData.depthAll (pyI a) + 1 = 1; rw [dep_ints]
  rw [e1, e2]
  rfl
theorem shaped_intsL {a : List Int} : SeqAt.shaped (.list (pyI a)) = true := by
  unfold SeqAt.shaped
  have e1 : PyData.canLay0 (.list (pyI a)) = true := lay_ints
  have e2 : PyData.depth (.list (pyI a)) = 1 := by show PyData.depthAll (pyI a) + 1 = 1; rw [dep_ints]
  rw [e1, e2]
  rfl
theorem eq_intsT {n : Bool} {a b : List Int} : eqO G n (.tup (a.map D.int)) (.tup (b.map D.int)) μ = .ok (.bl (if n then !decide (a = b) else decide (a = b))) μ := by
  show eqD n (.tup (a.map D.int)) (.tup (b.map D.int)) μ = _
  have e : eqB μ (.tup (a.map D.int)) (.tup (b.map D.int)) = some (decide (a = b)) := by
    show (match (toPyL (a.map D.int)).map PyData.tuple, (toPyL (b.map D.int)).map PyData.tuple with
      | some p, some q => if SeqAt.shaped p = true ∧ SeqAt.shaped q = true then some (PyData.eqv p q) else none
      | _, _ => none) = _
    rw [toPy_ints, toPy_ints]
    show (if SeqAt.shaped (.tuple (pyI a)) = true ∧ SeqAt.shaped (.tuple (pyI b)) = true then some (PyData.eqvAll (pyI a) (pyI b)) else none) = _
    rw [if_pos ⟨shaped_intsT, shaped_intsT⟩, eqv_ints]
  unfold eqD
  rw [e]
theorem eq_intsL {n : Bool} {a b : List Int} : eqO G n (.lst (a.map D.int)) (.lst (b.map D.int)) μ = .ok (.bl (if n then !decide (a = b) else decide (a = b))) μ := by
  show eqD n (.lst (a.map D.int)) (.lst (b.map D.int)) μ = _
  have e : eqB μ (.lst (a.map D.int)) (.lst (b.map D.int)) = some (decide (a = b)) := by
    show (match (toPyL (a.map D.int)).map PyData.list, (toPyL (b.map D.int)).map PyData.list with
      | some p, some q => if SeqAt.shaped p = true ∧ SeqAt.shaped q = true then some (PyData.eqv p q) else none
      | _, _ => none) = _
    rw [toPy_ints, toPy_ints]
    show (if SeqAt.shaped (.list (pyI a)) = true ∧ SeqAt.shaped (.list (pyI b)) = true then some (PyData.eqvAll (pyI a) (pyI b)) else none) = _
    rw [if_pos ⟨shaped_intsL, shaped_intsL⟩, eqv_ints]
  unfold eqD
  rw [e]
/-- item by item -/
def zpI (f : Int → Int → Int) (a b : List Int) : List Int := (a.zip b).map fun p => f p.1 p.2
theorem zpI_len {f : Int → Int → Int} {a b : List Int} {n : Nat} (h1 : a.length = n) (h2 : b.length = n) : (zpI f a b).length = n := by simp [zpI, h1, h2]
theorem zpI_get {f : Int → Int → Int} {a b : List Int} {n k : Nat} (h1 : a.length = n) (h2 : b.length = n) (h0 : f 0 0 = 0) : (zpI f a b).getD k 0 = f (a.getD k 0) (b.getD k 0) := by
  unfold zpI
  by_cases h : k < n
  · have a1 : k < a.length := by omega
    have a2 : k < b.length := by omega
    have e : (a.zip b)[k]? = some (a[k], b[k]) := by
      rw [List.getElem?_eq_getElem (by simp; omega)]
      simp
    simp [List.getD_eq_getElem?_getD, a1, a2, e]
  · have a1 : ¬ k < a.length := by omega
    have a2 : ¬ k < b.length := by omega
    have e1 : a[k]? = none := List.getElem?_eq_none (by omega)
    have e2 : b[k]? = none := List.getElem?_eq_none (by omega)
    have e3 : ((a.zip b).map fun p => f p.1 p.2)[k]? = none := List.getElem?_eq_none (by simp; omega)
    simp only [List.getD_eq_getElem?_getD, e1, e2, e3, Option.getD_none, h0]
theorem zpI_D {f : Int → Int → Int} {a b : List Int} : ((a.zip b).map fun p => D.int (f p.1 p.2)) = (zpI f a b).map D.int := by
  unfold zpI
  rw [List.map_map]
  rfl
theorem zip_ints {a b : List Int} : List.zipWith (fun p q => D.tup [p, q]) (a.map D.int) (b.map D.int) = (a.zip b).map fun p => .tup [.int p.1, .int p.2] := zip_map D.int D.int a b
theorem zw_ints {a b : List Int} : List.zipWith (fun a b => D.tup [D.int a, D.int b]) a b = (a.zip b).map fun p => .tup [.int p.1, .int p.2] := zw_zip
end
end Pu

set_option Elab.async false
set_option linter.all false
set_option maxRecDepth 100000
set_option maxHeartbeats 1000000
/-! k12: drawn rows, sums of rows. -/
namespace K12
open PySem L2 Pu
section
variable {μ : Sto}
theorem ints_of {out : List D} {P : Int → Prop} (h : ∀ d ∈ out, ∃ i, d = .int i ∧ P i) : ∃ L : List Int, out = L.map D.int ∧ ∀ i ∈ L, P i := by
  induction out with
  | nil => exact ⟨[], rfl, by simp⟩
  | cons d r ih =>
    obtain ⟨i, rfl, hi⟩ := h d List.mem_cons_self
    obtain ⟨L, rfl, hL⟩ := ih fun d hd => h d (List.mem_cons_of_mem _ hd)
    exact ⟨i :: L, rfl, by simp [hi]; exact hL⟩
theorem bd_of {L : List Int} {B : Int} (h0 : 0 ≤ B) (h : ∀ i ∈ L, -B ≤ i ∧ i ≤ B) : Bd B L := by
  intro k
  by_cases hk : k < L.length
  · have := h L[k] (List.getElem_mem hk)
    simp [List.getD_eq_getElem?_getD, hk]
    omega
  · have e : L[k]? = none := List.getElem?_eq_none (by omega)
    simp [List.getD_eq_getElem?_getD, e]
    omega
theorem Bd.mem {L : List Int} {B : Int} (h : Bd B L) : ∀ i ∈ L, -B ≤ i ∧ i ≤ B := by
  intro i hi
  obtain ⟨k, hk, rfl⟩ := List.mem_iff_getElem.mp hi
  have := h k
  simpa [List.getD_eq_getElem?_getD, hk] using this
/-- thrice one less the other -/
abbrev j3 (a b : Int) : Int := 3 * a - b
theorem put_j3 {r : Rdr} (h : r.Ok) {c : Nat} {L M : List Int} (h1 : L.length = r.n) (h2 : M.length = r.n) : r.put c (zpI j3 L M) = zpI j3 (r.put c L) (r.put c M) := by
  refine ext_get put_len (zpI_len put_len put_len) fun k hk => ?_
  rw [zpI_get put_len put_len (by decide), put_get h hk, put_get h hk, put_get h hk]
  exact tot_lin fun i => zpI_get h1 h2 (by decide)
theorem bd_j3 {L M : List Int} {B : Int} {n : Nat} (h1 : L.length = n) (h2 : M.length = n) (b1 : Bd B L) (b2 : Bd B M) : Bd (4 * B) (zpI j3 L M) := by
  intro k
  rw [zpI_get h1 h2 (by decide)]
  have := b1 k
  have := b2 k
  show _ ≤ 3 * _ - _ ∧ 3 * _ - _ ≤ _
  omega
/-- the sums over letters -/
def Rdr.sums (r : Rdr) (L : List Int) (w : List Nat) : List Int := w.foldl (fun S c => zpI (· + ·) S (r.put c L)) (List.replicate r.n 0)
theorem sums_len {r : Rdr} {L : List Int} : ∀ {w : List Nat} {S : List Int}, S.length = r.n → (w.foldl (fun S c => zpI (· + ·) S (r.put c L)) S).length = r.n := by
  intro w
  induction w with
  | nil => exact fun h => h
  | cons c w ih => exact fun h => ih (zpI_len h put_len)
theorem sums_get {r : Rdr} {L : List Int} {k : Nat} : ∀ {w : List Nat} {S : List Int}, S.length = r.n → (w.foldl (fun S c => zpI (· + ·) S (r.put c L)) S).getD k 0 = S.getD k 0 + (w.map fun c => (r.put c L).getD k 0).sum := by
  intro w
  induction w with
  | nil => intro S h; simp
  | cons c w ih =>
    intro S h
    rw [List.foldl_cons, ih (zpI_len h put_len), zpI_get h put_len (by decide), List.map_cons, List.sum_cons]
    omega
theorem stp_len {r : Rdr} {L : List Int} : (r.stp L).length = r.n := by
  unfold Rdr.stp
  rw [stpS_len]
  simp
theorem stp_sums {r : Rdr} (h : r.Ok) {L : List Int} : r.stp L = r.sums L r.z := by
  refine ext_get stp_len (sums_len (by simp)) fun k hk => ?_
  rw [stp_get h hk]
  unfold Rdr.sums
  rw [sums_get (by simp), ← tot_all h.lt.nd (k := k) (L := L) (ls := r.ls) (fun l hl => (h.lsn l hl).2.1)]
  have e : (List.replicate r.n (0 : Int)).getD k 0 = 0 := by simp [List.getD_eq_getElem?_getD, hk]
  rw [e, Int.zero_add]
  exact congrArg List.sum (List.map_congr_left fun c _ => (put_get h hk).symm)
theorem en_bd {r : Rdr} (h : r.Ok) {L : List Int} {B : Int} (hb : Bd B L) : -(60 * B) ≤ r.en L ∧ r.en L ≤ 60 * B := by
  have h0 : 0 ≤ B := by have := hb 0; omega
  have ht := asc_len h.tsr h.tsn
  have hn := h.n2
  have gen : ∀ ts : List Nat, -(ts.length * B) ≤ (ts.map fun t => L.getD t 0).sum ∧ (ts.map fun t => L.getD t 0).sum ≤ ts.length * B := by
    intro ts
    induction ts with
    | nil => simp
    | cons t ts ih =>
      have := hb t
      have m : ((t :: ts).length : Int) * B = ts.length * B + B := by rw [List.length_cons]; push_cast; rw [Int.add_mul, Int.one_mul]
      rw [List.map_cons, List.sum_cons, m]
      generalize (ts.length : Int) * B = q at *
      omega
  have g := gen r.ts
  have m : (r.ts.length : Int) * B ≤ 60 * B := Int.mul_le_mul_of_nonneg_right (by omega) h0
  unfold Rdr.en
  omega
theorem rows_bd {r : Rdr} (h : r.Ok) : ∀ {w : List Nat} {L : List Int} {B : Int}, Bd B L → Bd (1000 ^ w.length * B) (w.foldl (fun L c => r.put c L) L) := by
  intro w
  induction w with
  | nil => intro L B hb; simpa using hb
  | cons c w ih =>
    intro L B hb
    have := ih (put_bd h hb (c := c))
    rw [List.foldl_cons, List.length_cons, Int.pow_succ, Int.mul_assoc]
    exact this
theorem hl_bd {r : Rdr} : Bd 1 r.hl := by
  refine bd_of (by decide) fun i hi => ?_
  unfold Rdr.hl at hi
  obtain ⟨k, _, rfl⟩ := List.mem_map.mp hi
  split <;> decide
theorem line_bd {r : Rdr} (h : r.Ok) {w : List Nat} (hw : w.length ≤ 6) : Bd (10 ^ 18) (r.line w) := by
  have b := rows_bd h (w := w) (hl_bd (r := r))
  have p : (1000 : Int) ^ w.length * 1 ≤ 10 ^ 18 := by
    obtain ⟨k, hk⟩ : ∃ k, k = w.length := ⟨_, rfl⟩
    rw [← hk]
    have : k = 0 ∨ k = 1 ∨ k = 2 ∨ k = 3 ∨ k = 4 ∨ k = 5 ∨ k = 6 := by omega
    rcases this with rfl | rfl | rfl | rfl | rfl | rfl | rfl <;> decide
  intro k
  have := b k
  unfold Rdr.line
  omega
end
end K12

set_option Elab.async false
set_option linter.all false
set_option maxRecDepth 100000
/-! Pu51: plain lemmas: texts that grow, lists put together, extend and pop. -/
namespace Pu
open PySem L2
section
variable {α β γ σ : Type} {μ : Sto} {ρ : Sl} {G : Ctx}
theorem add_sign {w : List Nat} {x : Str} {c : Nat} (hx : x = stS [c]) (h : w.length ≤ 1000) : binD .Add (stD w) (.str x) μ = .ok (stD (w ++ [c])) μ := by
  subst hx
  show addD (stD w) (stD [c]) μ = _
  unfold addD
  have : (stS w).length + (stS [c]).length ≤ sizeLine := by rw [stS_len, stS_len]; exact Nat.le_trans (show w.length + 1 ≤ 1001 by omega) (by decide)
  have e : stS w ++ stS [c] = stS (w ++ [c]) := by
    show (⟨w.toArray ++ [c].toArray⟩ : Str) = _
    simp [stS]
  simp only [this, ↓reduceIte, e]
theorem add_lst {a b : List D} (h : a.length + b.length ≤ 1000000) : binD .Add (.lst a) (.lst b) μ = .ok (.lst (a ++ b)) μ := by
  have : a.length + b.length ≤ sizeLine := Nat.le_trans h (by decide)
  show addD (.lst a) (.lst b) μ = _
  unfold addD
  simp [asL, this]
theorem ext_cell {c : Nat} {xs ys : List D} (h : μ[c]? = some (.lst xs)) (hl : xs.length + ys.length ≤ 1000000) : extD (.cell c) (.lst ys) μ = .ok .non (μ.set c (.lst (xs ++ ys))) := by
  have : xs.length + ys.length ≤ sizeLine := Nat.le_trans hl (by decide)
  simp [extD, h, this]
theorem pop0_cell {c : Nat} {xs : List D} {z : D} (h : μ[c]? = some (.lst (xs ++ [z]))) : pop0D (.cell c) μ = .ok z (μ.set c (.lst xs)) := by
  simp [pop0D, h]
/-- a method of an instance -/
theorem mth_obj {eo oth : M D} {inst : Str → List (Str × D) → D → M D} {cm : Str → M D} {C : Str} {fs : List (Str × D)} {μ1 : Sto} (h : eo μ = .ok (.obj C fs) μ1) : mthS eo inst cm oth μ = inst C fs (.obj C fs) μ1 := by
  unfold mthS
  rw [h]
  simp only [asO_obj]
theorem inst_ok {m C : Str} {A : M (List D)} {fs : List (Str × D)} {d : D} {n : Nat} {F : List D → M D} (h : G.meth C m = some (n, F)) (h2 : fs.lookup m = none) : mInst G m A C fs d = (A >>= fun ds => cO n F d ds) := by
  unfold mInst
  simp only [h, h2, ↓reduceIte]
theorem ix_end {L : List Int} {v : Int} : ixD (.lst ((L ++ [v]).map D.int)) (.int (-1)) μ = .ok (.int v) μ := ix_lst (by rw [List.map_append]; exact atI_last)
/-- a loop that goes on, for any end -/
theorem cL_invU {u : D → Sl → Option Sl} {body : (Sl → M D) → Sl → (Sl → M D) → M D} {e : α → D} : ∀ (I : List α → Sl → Sto → Prop) (xs ys : List α) (ρ : Sl) (μ : Sto), I ys ρ μ →
    (∀ zs x ρ μ, zs ++ [x] <+: ys ++ xs → I zs ρ μ → ∃ ρ' μ', (∀ K k, lpS u (body K) (e x) ρ k μ = k ρ' μ') ∧ I (zs ++ [x]) ρ' μ') → ∃ ρ' μ', I (ys ++ xs) ρ' μ' ∧ ∀ K, cL u (body K) K (xs.map e) ρ μ = K ρ' μ'
  | I, [], ys, ρ, μ, h0, _ => ⟨ρ, μ, by rw [List.append_nil]; exact h0, fun _ => rfl⟩
  | I, x :: xs, ys, ρ, μ, h0, h => by
    obtain ⟨ρ1, μ1, h1, h2⟩ := h ys x ρ μ (by simp) h0
    obtain ⟨ρ2, μ2, h3, h4⟩ := cL_invU (u := u) (body := body) (e := e) I xs (ys ++ [x]) ρ1 μ1 h2 (fun zs y ρ μ p q => h zs y ρ μ (by simpa using p) q)
    refine ⟨ρ2, μ2, by simpa using h3, fun K => ?_⟩
    rw [List.map_cons, cL_cons, h1]
    exact h4 K
/-- clauses of a list comprehension -/
theorem clS_lst {u : D → Sl → Option Sl} {t : Sl → M Bool} {body : Sl → List D → M (List D)} {e : α → D} {g : α → List D} {N : Nat} : ∀ (xs : List α) (acc : List D), (∀ x ∈ xs, ∀ acc, acc.length + (g x).length ≤ N → ∃ ρ', u (e x) ρ = some ρ' ∧ ((t ρ' μ = .ok false μ ∧ g x = []) ∨ (t ρ' μ = .ok true μ ∧ body ρ' acc μ = .ok (acc ++ g x) μ))) → acc.length + (xs.flatMap g).length ≤ N →
    clS u t body ρ (xs.map e) acc μ = .ok (acc ++ xs.flatMap g) μ := by
  intro xs
  induction xs with
  | nil => intro acc _ _; simp [clS]
  | cons x xs ih =>
    intro acc h hl
    rw [List.flatMap_cons, List.length_append] at hl
    obtain ⟨ρ', h1, h2⟩ := h x (by simp) acc (by omega)
    rw [List.map_cons]
    unfold clS
    rw [h1]
    rcases h2 with ⟨h2, h3⟩ | ⟨h2, h3⟩
    · simp [h2]
      rw [ih acc (fun y hy => h y (by simp [hy])) (by omega), h3]
      simp
    · simp [h2, h3]
      rw [ih (acc ++ g x) (fun y hy => h y (by simp [hy])) (by rw [List.length_append]; omega)]
      simp
theorem leaf_ok {el : Sl → M D} {v : D} {acc : List D} (h : el ρ μ = .ok v μ) (hl : acc.length < 1000000) : leafS el ρ acc μ = .ok (acc ++ [v]) μ := by
  have : acc.length < sizeLine := Nat.lt_of_lt_of_le hl (by decide)
  unfold leafS
  simp [h, this]
theorem inn_ok {it : Sl → M (List D)} {vs : List Nat} {u : D → Sl → Option Sl} {t : Sl → M Bool} {body : Sl → α → M α} {a : α} {ds : List D} (h : it ρ μ = .ok ds μ) : innS it vs u t body ρ a μ = clS u t body (wipeL ρ vs) ds a μ := by
  unfold innS
  simp [h]
end
end Pu

set_option Elab.async false
set_option linter.all false
set_option maxRecDepth 100000
set_option maxHeartbeats 1000000
/-! k12: both readers together. -/
namespace K12
open PySem L2 Pu
section
variable {μ : Sto}
def prs (as bs : List Nat) (n : Nat) : List Nat := as.flatMap fun a => bs.map fun b => a * n + b
theorem prs_card {as bs : List Nat} {n : Nat} : (prs as bs n).length = as.length * bs.length := by
  unfold prs
  induction as with
  | nil => simp
  | cons a as ih => rw [List.flatMap_cons, List.length_append, ih, List.length_cons, Nat.add_mul]; simp; omega
theorem pairs_of_ok {as bs : List Nat} {n : Nat} (hn : n ≤ 60) (ha : ∀ a ∈ as, a < 100) (hl : as.length ≤ 100) (hm : bs.length ≤ 100) : d_pairs_of [nsT as, nsT bs, nD n] μ = .ok (nsT (prs as bs n)) μ := by
  have hc : (as.flatMap fun a => bs.map fun b => nD (a * n + b)) = (prs as bs n).map nD := by
    unfold prs
    rw [List.map_flatMap]
    simp [Function.comp_def]
  have hlen : (as.flatMap fun a => bs.map fun b => nD (a * n + b)).length ≤ 10000 := by
    rw [hc, List.length_map, prs_card]
    exact Nat.mul_le_mul hl hm
  have c := clS_lst (μ := μ) (u := fun d ρ => some (ρ.set 3 (some d))) (t := nxt) (body := innS e2_pairs_of [4] (fun d ρ => some (ρ.set 4 (some d))) nxt (leafS e1_pairs_of)) (ρ := [some (nsT as), some (nsT bs), some (nD n), none, none]) (e := nD) (g := fun a => (bs.map fun b => nD (a * n + b))) (N := 10000) as [] (fun a ha' acc hacc => by
    refine ⟨_, rfl, .inr ⟨rfl, ?_⟩⟩
    rw [inn_ok (ds := bs.map nD) (by simp [e2_pairs_of])]
    have c2 := clS_lst (μ := μ) (u := fun d ρ => some (ρ.set 4 (some d))) (t := nxt) (body := leafS e1_pairs_of) (ρ := [some (nsT as), some (nsT bs), some (nD n), some (nD a), none]) (e := nD) (g := fun b => [nD (a * n + b)]) (N := 10000) bs acc (fun b hb acc hacc => ⟨_, rfl, .inr ⟨rfl, leaf_ok (by
      have := ha a ha'
      simp [e1_pairs_of, mul_ok (show 0 ≤ (a : Int) by omega) (by omega) (show 0 ≤ (n : Int) by omega) (by omega)]) (by simp at hacc; omega)⟩⟩) (by rw [← List.map_eq_flatMap]; exact hacc)
    rw [← List.map_eq_flatMap] at c2
    exact c2) (by simpa using hlen)
  rw [hc, List.nil_append] at c
  rw [u_pairs_of]
  simp [p_pairs_of, c]
theorem nd_flat {α β : Type} {f : α → List β} : ∀ {as : List α}, as.Nodup → (∀ a ∈ as, (f a).Nodup) → (∀ a ∈ as, ∀ b ∈ as, ∀ x, x ∈ f a → x ∈ f b → a = b) → (as.flatMap f).Nodup := by
  intro as
  induction as with
  | nil => intro _ _ _; simp
  | cons a as ih =>
    intro nd h1 h2
    obtain ⟨n1, n2⟩ := List.nodup_cons.mp nd
    rw [List.flatMap_cons, List.nodup_append]
    refine ⟨h1 a (by simp), ih n2 (fun b hb => h1 b (by simp [hb])) (fun b hb c hc => h2 b (by simp [hb]) c (by simp [hc])), fun x hx y hy e => ?_⟩
    subst e
    obtain ⟨b, hb, hxb⟩ := List.mem_flatMap.mp hy
    have := h2 a (by simp) b (by simp [hb]) x hx hxb
    subst this
    exact n1 hb
theorem tg_ris {r : Rdr} (h : r.Ok) {a c : Nat} : (tg r.ls a c).Pairwise (· < ·) := by
  unfold tg
  rw [List.pairwise_map]
  refine (List.Pairwise.filter _ h.lsr).imp_of_mem fun {l m} hl hm hlt => ?_
  have h1 := (List.mem_filter.mp hl).2
  have h2 := (List.mem_filter.mp hm).2
  simp at h1 h2
  unfold arLt at hlt
  simp at hlt
  omega
theorem ris_nd {l : List Nat} (h : l.Pairwise (· < ·)) : l.Nodup := h.imp fun hlt e => by omega
/-- the arrows of both -/
def bw (s : Rdr) (l : Nat × Nat × Nat) (b : Nat) : List (Nat × Nat × Nat) := (tg s.ls b l.2.1).map fun t => (l.1 * s.n + b, l.2.1, l.2.2 * s.n + t)
def bls (r s : Rdr) : List (Nat × Nat × Nat) := r.ls.flatMap fun l => (List.range s.n).flatMap (bw s l)
theorem mem_bw {s : Rdr} {l x : Nat × Nat × Nat} {b : Nat} : x ∈ bw s l b ↔ ∃ t, (b, l.2.1, t) ∈ s.ls ∧ x = (l.1 * s.n + b, l.2.1, l.2.2 * s.n + t) := by
  unfold bw
  rw [List.mem_map]
  constructor
  · rintro ⟨t, ht, rfl⟩; exact ⟨t, mem_tg.mp ht, rfl⟩
  · rintro ⟨t, ht, rfl⟩; exact ⟨t, mem_tg.mpr ht, rfl⟩
theorem mem_bls {r s : Rdr} (hs : s.Ok) {x : Nat × Nat × Nat} : x ∈ bls r s ↔ ∃ l ∈ r.ls, ∃ m ∈ s.ls, l.2.1 = m.2.1 ∧ x = (l.1 * s.n + m.1, l.2.1, l.2.2 * s.n + m.2.2) := by
  unfold bls
  simp only [List.mem_flatMap, mem_bw, List.mem_range]
  constructor
  · rintro ⟨l, hl, b, hb, t, ht, rfl⟩; exact ⟨l, hl, (b, l.2.1, t), ht, rfl, rfl⟩
  · rintro ⟨l, hl, m, hm, e, rfl⟩
    exact ⟨l, hl, m.1, (hs.lsn m hm).1, m.2.2, by rw [e]; exact hm, rfl⟩
theorem dm {a b c d n : Nat} (h1 : b < n) (h2 : d < n) (e : a * n + b = c * n + d) : a = c ∧ b = d := by
  have e1 : (a * n + b) / n = a := by rw [Nat.mul_comm, Nat.mul_add_div (by omega), Nat.div_eq_of_lt h1]; omega
  have e2 : (c * n + d) / n = c := by rw [Nat.mul_comm, Nat.mul_add_div (by omega), Nat.div_eq_of_lt h2]; omega
  have e3 : a = c := by rw [← e1, ← e2, e]
  subst e3
  exact ⟨rfl, by omega⟩
theorem nd_bls {r s : Rdr} (h : r.Ok) (hs : s.Ok) : (bls r s).Nodup := by
  have nl : r.ls.Nodup := h.lsr.imp fun {a b} hlt e => by subst e; rw [arLt_irr] at hlt; cases hlt
  refine nd_flat nl (fun l hl => nd_flat List.nodup_range (fun b hb => ?_) fun b hb b' hb' x hx hx' => ?_) fun l hl l' hl' x hx hx' => ?_
  · unfold bw
    exact List.pairwise_map.mpr ((ris_nd (tg_ris hs)).imp fun hne e => hne (by simp at e; exact e))
  · obtain ⟨t, ht, rfl⟩ := mem_bw.mp hx
    obtain ⟨t', ht', e⟩ := mem_bw.mp hx'
    simp at e
    exact e.1
  · obtain ⟨b, hb, hx⟩ := List.mem_flatMap.mp hx
    obtain ⟨b', hb', hx'⟩ := List.mem_flatMap.mp hx'
    obtain ⟨t, ht, rfl⟩ := mem_bw.mp hx
    obtain ⟨t', ht', e⟩ := mem_bw.mp hx'
    obtain ⟨a, c, d⟩ := l
    obtain ⟨a', c', d'⟩ := l'
    simp at e hb hb'
    have e1 := dm hb hb' e.1
    have e2 := dm (hs.lsn _ ht).2.2 (hs.lsn _ ht').2.2 e.2.2
    simp [e1.1, e2.1, e.2.1]
theorem prs_lt {as bs : List Nat} {m n : Nat} (h1 : ∀ a ∈ as, a < m) (h2 : ∀ b ∈ bs, b < n) : ∀ x ∈ prs as bs n, x < m * n := by
  intro x hx
  obtain ⟨a, ha, hx⟩ := List.mem_flatMap.mp hx
  obtain ⟨b, hb, rfl⟩ := List.mem_map.mp hx
  have := h1 a ha
  have := h2 b hb
  have : (a + 1) * n ≤ m * n := Nat.mul_le_mul_right n (by omega)
  rw [Nat.add_mul] at this
  omega
theorem prs_ris {as bs : List Nat} {n : Nat} (h1 : as.Pairwise (· < ·)) (h2 : bs.Pairwise (· < ·)) (h3 : ∀ b ∈ bs, b < n) : (prs as bs n).Pairwise (· < ·) := by
  unfold prs
  induction as with
  | nil => simp
  | cons a as ih =>
    obtain ⟨p1, p2⟩ := List.pairwise_cons.mp h1
    rw [List.flatMap_cons, List.pairwise_append]
    refine ⟨?_, ih p2, fun x hx y hy => ?_⟩
    · rw [List.pairwise_map]
      exact h2.imp fun h => by omega
    · obtain ⟨b, hb, rfl⟩ := List.mem_map.mp hx
      obtain ⟨a', ha', hy⟩ := List.mem_flatMap.mp hy
      obtain ⟨b', hb', rfl⟩ := List.mem_map.mp hy
      have := p1 a' ha'
      have := h3 b hb
      have : (a + 1) * n ≤ a' * n := Nat.mul_le_mul_right n (by omega)
      rw [Nat.add_mul] at this
      omega
theorem req_size_ok {n : Nat} (h : n ≤ 60) : d_require_size [nD n] μ = .ok .non μ := by
  have b1 : ¬ ((n : Int) > 60) := by omega
  rw [u_require_size]
  simp [p_require_size, b1]
theorem both_row {r s : Rdr} (h : r.Ok) (hs : s.Ok) (hz : r.z = s.z) {l : Nat × Nat × Nat} (hl : l ∈ r.ls) {acc : List (Nat × Nat × Nat)} (hB : acc.length + ((List.range s.n).flatMap (bw s l)).length ≤ 100000) {x4 x5 x6 x7 x8 x9 x10 : Option D} :
    ∃ y8, ∀ (K k : Sl → M D), lpS (uT (some [4, 5, 6])) (b1_both_of K) (arD l) [some r.o, some s.o, some (nD s.n), some (.cell μ.length), x4, x5, x6, x7, x8, x9, x10, none] k (μ ++ [.lst (acc.map arD)])
      = k [some r.o, some s.o, some (nD s.n), some (.cell μ.length), some (nD l.1), some (sD' l.2.1), some (nD l.2.2), some (.tup ((List.range s.n).map fun a => nsT (tg s.ls a l.2.1))), y8, x9, x10, none] (μ ++ [.lst ((acc ++ (List.range s.n).flatMap (bw s l)).map arD)]) := by
  have hn := h.n2
  have hn2 := hs.n2
  obtain ⟨h1, h2, h3⟩ := h.lsn l hl
  rw [hz] at h2
  obtain ⟨ρ', ν', ⟨y8, rfl, rfl⟩, hr⟩ := cL_invU (u := fun d ρ => some (ρ.set 8 (some d))) (body := b2_both_of) (e := nD)
    (fun zs ρ ν => ∃ y8, ρ = [some r.o, some s.o, some (nD s.n), some (.cell μ.length), some (nD l.1), some (sD' l.2.1), some (nD l.2.2), some (.tup ((List.range s.n).map fun a => nsT (tg s.ls a l.2.1))), y8, x9, x10, none] ∧ ν = μ ++ [.lst ((acc ++ zs.flatMap (bw s l)).map arD)]) (List.range s.n) [] [some r.o, some s.o, some (nD s.n), some (.cell μ.length), some (nD l.1), some (sD' l.2.1), some (nD l.2.2), some (.tup ((List.range s.n).map fun a => nsT (tg s.ls a l.2.1))), x8, x9, x10, none] (μ ++ [.lst (acc.map arD)]) ⟨x8, rfl, by simp⟩
    (fun zs b ρ ν p ⟨y8, e1, e2⟩ => by
      subst e1 e2
      have hb : b ∈ List.range s.n := p.subset (by simp)
      simp at hb
      have ix : ∀ ν, ixD (.tup ((List.range s.n).map fun a => nsT (tg s.ls a l.2.1))) (nD b) ν = .ok (nsT (tg s.ls b l.2.1)) ν := fun ν => ix_row hb
      have hle : (acc ++ (zs ++ [b]).flatMap (bw s l)).length ≤ 100000 := by
        obtain ⟨rest, hrest⟩ := p
        rw [List.nil_append] at hrest
        have : ((zs ++ [b]).flatMap (bw s l)).length ≤ ((List.range s.n).flatMap (bw s l)).length := by
          rw [← hrest]; simp
        simp at this hB ⊢
        omega
      have at_ : (μ ++ [.lst ((acc ++ zs.flatMap (bw s l)).map arD)])[μ.length]? = some (.lst ((acc ++ zs.flatMap (bw s l)).map arD)) := at_end
      have hbw : (bw s l b).length ≤ 100000 := by simp at hle; omega
      have cm := cmp_map (u := fun d ρ => some (ρ.set 11 (some d))) (t := nxt) (el := e1_both_of) (ρ := [some r.o, some s.o, some (nD s.n), some (.cell μ.length), some (nD l.1), some (sD' l.2.1), some (nD l.2.2), some (.tup ((List.range s.n).map fun a => nsT (tg s.ls a l.2.1))), some (nD b), x9, x10, none]) (μ := μ ++ [.lst ((acc ++ zs.flatMap (bw s l)).map arD)]) (e := nD) (g := fun t => arD (l.1 * s.n + b, l.2.1, l.2.2 * s.n + t)) (xs := tg s.ls b l.2.1)
        (fun t ht => by simp [turnS, e1_both_of, mul_ok (show 0 ≤ (l.1 : Int) by omega) (by omega) (show 0 ≤ (s.n : Int) by omega) (by omega), mul_ok (show 0 ≤ (l.2.2 : Int) by omega) (by omega) (show 0 ≤ (s.n : Int) by omega) (by omega), arD]) (Nat.le_trans (show _ ≤ 100000 by simpa [bw] using hbw) (by decide))
      rw [show (tg s.ls b l.2.1).map (fun t => arD (l.1 * s.n + b, l.2.1, l.2.2 * s.n + t)) = (bw s l b).map arD by simp [bw]] at cm
      have ex := ext_cell (ys := (bw s l b).map arD) at_ (by simp at hle ⊢; omega)
      rw [set_end, ← List.map_append] at ex
      refine ⟨[some r.o, some s.o, some (nD s.n), some (.cell μ.length), some (nD l.1), some (sD' l.2.1), some (nD l.2.2), some (.tup ((List.range s.n).map fun a => nsT (tg s.ls a l.2.1))), some (nD b), x9, x10, none], μ ++ [.lst ((acc ++ (zs ++ [b]).flatMap (bw s l)).map arD)], fun K k => ?_, some (nD b), rfl, rfl⟩
      rw [show acc ++ (zs ++ [b]).flatMap (bw s l) = acc ++ zs.flatMap (bw s l) ++ bw s l b by simp]
      simp only [lpS, b2_both_of]
      simp [-List.append_assoc, -List.map_append]
      rw [mth_cell (c := μ.length) (by simp) at_]
      simp [-List.append_assoc, -List.map_append, chk_cell at_, ix, cm, ex])
  refine ⟨y8, fun K k => ?_⟩
  have hr := hr k
  simp only [lpS, b1_both_of]
  simp [at_moves (G := g_both_of) rfl rfl, ix_mv h2, rg1_nat (show s.n < 2 ^ 62 by omega)]
  simp at hr
  exact hr
theorem both_of_ok {r s : Rdr} (h : r.Ok) (hs : s.Ok) (hz : r.z = s.z) (hn : r.n * s.n ≤ 60) (hB : (bls r s).length ≤ 1000) :
    ∃ q l, d_both_of [r.o, s.o] μ = .ok (Rdr.o q) (μ ++ l) ∧ q.Ok ∧ q.z = r.z ∧ q.n = r.n * s.n ∧ q.hs = prs r.hs s.hs s.n ∧ q.ts = prs r.ts s.ts s.n ∧ ∀ x, x ∈ q.ls ↔ x ∈ bls r s := by
  have hr2 := h.n2
  have hs2 := hs.n2
  have hr1 := h.n1
  have hs1 := hs.n1
  obtain ⟨ρ', ν', ⟨x4, x5, x6, x7, x8, rfl, rfl⟩, hr⟩ := cL_inv (u := uT (some [4, 5, 6])) (body := b1_both_of (k1_both_of fin0 fin1 fin1)) (K := k1_both_of fin0 fin1 fin1) (e := arD)
    (fun zs ρ ν => ∃ x4 x5 x6 x7 x8, ρ = [some r.o, some s.o, some (nD s.n), some (.cell μ.length), x4, x5, x6, x7, x8, none, none, none] ∧ ν = μ ++ [.lst ((zs.flatMap fun l => (List.range s.n).flatMap (bw s l)).map arD)]) r.ls [] [some r.o, some s.o, some (nD s.n), some (.cell μ.length), none, none, none, none, none, none, none, none] (μ ++ [.lst []]) ⟨none, none, none, none, none, rfl, rfl⟩
    (fun zs l ρ ν p ⟨x4, x5, x6, x7, x8, e1, e2⟩ => by
      subst e1 e2
      have hl : l ∈ r.ls := p.subset (by simp)
      have hle : (zs.flatMap fun l => (List.range s.n).flatMap (bw s l)).length + ((List.range s.n).flatMap (bw s l)).length ≤ 100000 := by
        obtain ⟨rest, hrest⟩ := p
        rw [List.nil_append] at hrest
        unfold bls at hB
        rw [← hrest] at hB
        simp at hB ⊢
        omega
      obtain ⟨y8, e⟩ := both_row (μ := μ) h hs hz hl hle (x4 := x4) (x5 := x5) (x6 := x6) (x7 := x7) (x8 := x8) (x9 := none) (x10 := none)
      exact ⟨_, _, fun k => e _ k, _, _, _, _, _, rfl, by simp⟩)
  rw [List.nil_append] at hr
  obtain ⟨ms, s1, s2, s3⟩ := sorted_arrs (μ := μ ++ [.lst ((bls r s).map arD)]) (d := .cell μ.length) (ls := bls r s) (by simp [asS, asQ, asL]) (nd_bls h hs)
  have pm : ms.Perm (bls r s) := (List.perm_ext_iff_of_nodup (s2.imp fun {a b} hlt e => by subst e; rw [arLt_irr] at hlt; cases hlt) (nd_bls h hs)).mpr s3
  have hq : Rdr.Ok ⟨r.z, r.n * s.n, prs r.hs s.hs s.n, prs r.ts s.ts s.n, ms⟩ := by
    refine ⟨h.lt, Nat.mul_pos hr1 hs1, hn, prs_lt h.hsn hs.hsn, prs_ris h.hsr hs.hsr hs.hsn, prs_lt h.tsn hs.tsn, prs_ris h.tsr hs.tsr hs.tsn, fun x hx => ?_, s2, by show ms.length ≤ 1000; rw [pm.length_eq]; exact hB⟩
    obtain ⟨l, hl, m, hm, e, rfl⟩ := (mem_bls hs).mp ((s3 x).mp hx)
    obtain ⟨a1, a2, a3⟩ := h.lsn l hl
    obtain ⟨b1, b2, b3⟩ := hs.lsn m hm
    have t1 : (l.1 + 1) * s.n ≤ r.n * s.n := Nat.mul_le_mul_right _ (by omega)
    have t2 : (l.2.2 + 1) * s.n ≤ r.n * s.n := Nat.mul_le_mul_right _ (by omega)
    rw [Nat.add_mul] at t1 t2
    exact ⟨by show l.1 * s.n + m.1 < r.n * s.n; omega, a2, by show l.2.2 * s.n + m.2.2 < r.n * s.n; omega⟩
  obtain ⟨l, fs, e, hi⟩ := init_ok (μ := μ ++ [.lst ((bls r s).map arD)]) hq
  have m := mk_ok (n := 5) (by rfl) hi
  rw [e] at m
  refine ⟨⟨r.z, r.n * s.n, prs r.hs s.hs s.n, prs r.ts s.ts s.n, ms⟩, [.lst ((bls r s).map arD)] ++ .dead :: l, ?_, hq, rfl, rfl, rfl, rfl, s3⟩
  · have hm : ∀ ν, binD .Mult (nD r.n) (nD s.n) ν = .ok (nD (r.n * s.n)) ν := fun ν => by
      have := mul_ok (μ := ν) (show 0 ≤ (r.n : Int) by omega) (by omega) (show 0 ≤ (s.n : Int) by omega) (by omega)
      rw [this]
      simp
    have p1 := pairs_of_ok (μ := μ ++ [.lst ((bls r s).map arD)]) (as := r.hs) (bs := s.hs) (n := s.n) (by omega) (fun a ha => by have := h.hsn a ha; omega) (by have := asc_len h.hsr h.hsn; omega) (by have := asc_len hs.hsr hs.hsn; omega)
    have p2 := pairs_of_ok (μ := μ ++ [.lst ((bls r s).map arD)]) (as := r.ts) (bs := s.ts) (n := s.n) (by omega) (fun a ha => by have := h.tsn a ha; omega) (by have := asc_len h.tsr h.tsn; omega) (by have := asc_len hs.tsr hs.tsn; omega)
    rw [u_both_of]
    simp only [p_both_of]
    simp [at_size (G := g_both_of) rfl rfl, at_arrows (G := g_both_of) rfl rfl, -Int.natCast_mul, hm, req_size_ok hn]
    refine hr.trans ?_
    have s1' : sortedD [.cell μ.length] (μ ++ [.lst ((r.ls.flatMap fun l => (List.range s.n).flatMap (bw s l)).map arD)]) = .ok (.lst (ms.map arD)) _ := s1
    unfold bls at p1 p2
    simp only [k1_both_of]
    simp [-List.append_assoc, at_size (G := g_both_of) rfl rfl, at_letters (G := g_both_of) rfl rfl, at_firsts (G := g_both_of) rfl rfl, at_lasts (G := g_both_of) rfl rfl, -Int.natCast_mul, hm, p1, p2, s1']
    rw [List.append_assoc] at m
    exact m
theorem both_ok {r s : Rdr} (h : r.Ok) (hs : s.Ok) (hz : r.z = s.z) (hn : r.n * s.n ≤ 60) (hB : (bls r s).length ≤ 1000) :
    ∃ q l, d_both [r.o, s.o] μ = .ok (Rdr.o q) (μ ++ l) ∧ q.Ok ∧ q.z = r.z ∧ q.n = r.n * s.n ∧ q.hs = prs r.hs s.hs s.n ∧ q.ts = prs r.ts s.ts s.n ∧ ∀ x, x ∈ q.ls ↔ x ∈ bls r s := by
  obtain ⟨q, l, e, rest⟩ := both_of_ok (μ := μ) h hs hz hn hB
  refine ⟨q, l, ?_, rest⟩
  rw [u_both]
  simp [p_both, u_require_same, p_require_same, req_reader_ok, at_letters (G := g_require_same) rfl rfl, hz, e]
end
end K12

set_option Elab.async false
set_option linter.all false
set_option maxRecDepth 100000
set_option maxHeartbeats 1000000
/-! k12: totals. -/
namespace K12
open PySem L2 Pu
section
variable {μ : Sto}
/-- the first row, stepped k times -/
def Rdr.rowN (r : Rdr) : Nat → List Int
  | 0 => r.hl
  | k + 1 => r.stp (r.rowN k)
theorem rowN_len {r : Rdr} : ∀ {k : Nat}, (r.rowN k).length = r.n
  | 0 => hl_len
  | _ + 1 => stp_len
def Rdr.tots (r : Rdr) (n : Nat) : List Int := (List.range n).map fun k => r.en (r.rowN k)
theorem tots_succ {r : Rdr} {n : Nat} : r.tots (n + 1) = r.tots n ++ [r.en (r.rowN n)] := by simp [Rdr.tots, List.range_succ]
theorem tots_len {r : Rdr} {n : Nat} : (r.tots n).length = n := by simp [Rdr.tots]
theorem totals_of_ok {r : Rdr} (h : r.Ok) {n : Nat} (hn : n ≤ 1000) : ∃ l, d_totals_of [r.o, nD n] μ = .ok (inL (r.tots n)) (μ ++ .dead :: l) := by
  have hs : (1000 : Nat) ≤ sizeLine := by decide
  obtain ⟨ρ', ν', ⟨x2, l, rfl, rfl⟩, hr⟩ := cL_inv (u := fun d ρ => some (ρ.set 2 (some d))) (body := b1_totals_of (k1_totals_of fin0 fin1 fin1)) (K := k1_totals_of fin0 fin1 fin1) (e := nD)
    (fun zs ρ ν => ∃ x2 l, ρ = [some r.o, some (nD n), x2, some (inT (r.rowN zs.length)), some (.cell μ.length)] ∧ ν = μ ++ .lst ((r.tots zs.length).map D.int) :: l) (List.range n) [] [some r.o, some (nD n), none, some (inT r.hl), some (.cell μ.length)] (μ ++ [.lst []]) ⟨none, [], rfl, rfl⟩
    (fun zs a ρ ν p ⟨x2, l, e1, e2⟩ => by
      subst e1 e2
      have hlen : (zs ++ [a]).length ≤ (List.range n).length := by simpa using p.length_le
      simp at hlen
      have at_ : (μ ++ .lst ((r.tots zs.length).map D.int) :: l)[μ.length]? = some (.lst ((r.tots zs.length).map D.int)) := at_end
      have e0 : d_end_of [r.o, inT (r.rowN zs.length)] (μ ++ .lst ((r.tots zs.length).map D.int) :: l) = .ok (.int (r.en (r.rowN zs.length))) _ := end_of_ok h (.inr rfl) rowN_len
      have ap := app_cell (v := .int (r.en (r.rowN zs.length))) at_ (by simp [tots_len]; omega)
      rw [set_end, show (r.tots zs.length).map D.int ++ [D.int (r.en (r.rowN zs.length))] = (r.tots (zs.length + 1)).map D.int by simp [tots_succ]] at ap
      obtain ⟨l2, e3⟩ := stepped_ok (μ := μ ++ .lst ((r.tots (zs.length + 1)).map D.int) :: l) h (.inr rfl) (rowN_len (k := zs.length))
      refine ⟨[some r.o, some (nD n), some (nD a), some (inT (r.rowN (zs.length + 1))), some (.cell μ.length)], μ ++ .lst ((r.tots (zs.length + 1)).map D.int) :: l ++ l2, fun k => ?_, some (nD a), l ++ l2, by simp, by simp⟩
      simp only [lpS, b1_totals_of]
      simp [-List.append_assoc]
      rw [mth_cell (c := μ.length) (by simp) at_]
      simp [-List.append_assoc, chk_cell at_, e0, ap, e3]
      rfl)
  refine ⟨l, ?_⟩
  rw [u_totals_of]
  simp [p_totals_of, first_row_of_ok h, rg1_nat (show n < 2 ^ 62 by omega)]
  refine hr.trans ?_
  simp [k1_totals_of, frzD]
theorem req_length_ok {n : Nat} (h : n ≤ 400) : d_require_length [nD n] μ = .ok .non μ := by
  have b1 : (n : Int) ≤ 400 := by omega
  have b2 : (0 : Int) ≤ n := by omega
  rw [u_require_length]
  simp [p_require_length, within_ok (show 0 ≤ (n : Int) by omega) (show (n : Int) < 1000 by omega), b1, b2]
theorem totals_ok {r : Rdr} (h : r.Ok) {n : Nat} (hn : n ≤ 400) : ∃ l, d_totals [r.o, nD n] μ = .ok (inT (r.tots n)) (μ ++ l) := by
  obtain ⟨l, e⟩ := totals_of_ok (μ := μ) h (n := n) (by omega)
  refine ⟨.dead :: l, ?_⟩
  rw [u_totals]
  simp [p_totals, req_reader_ok, req_length_ok hn, e]
theorem total_ok {r : Rdr} (h : r.Ok) {n : Nat} (hn : n ≤ 400) : ∃ l, d_total [r.o, nD n] μ = .ok (.int (r.en (r.rowN n))) (μ ++ l) := by
  obtain ⟨l, e⟩ := totals_of_ok (μ := μ) h (n := n + 1) (by omega)
  have e' : d_totals_of [r.o, .int ((n : Int) + 1)] μ = .ok (inL (r.tots (n + 1))) (μ ++ .dead :: l) := e
  refine ⟨.dead :: l, ?_⟩
  have ix : ∀ ν, ixD (inL (r.tots (n + 1))) (.int (-1)) ν = .ok (.int (r.en (r.rowN n))) ν := fun ν => by
    rw [tots_succ]
    exact ix_lst (by rw [List.map_append]; exact atI_last)
  rw [u_total]
  simp [p_total, req_reader_ok, req_length_ok hn, e', ix]
theorem sums_of_ok {r : Rdr} (h : r.Ok) {n : Nat} (hn : n ≤ 1000) : ∃ l, d__law_sums_of [r.d, nD n] μ = .ok (inL (r.tots n)) (μ ++ .dead :: l) := by
  have hs : (1000 : Nat) ≤ sizeLine := by decide
  obtain ⟨ρ', ν', ⟨x2, l, rfl, rfl⟩, hr⟩ := cL_inv (u := fun d ρ => some (ρ.set 2 (some d))) (body := b1__law_sums_of (k1__law_sums_of fin0 fin1 fin1)) (K := k1__law_sums_of fin0 fin1 fin1) (e := nD)
    (fun zs ρ ν => ∃ x2 l, ρ = [some r.d, some (nD n), x2, some (inL (r.rowN zs.length)), some (.cell μ.length)] ∧ ν = μ ++ .lst ((r.tots zs.length).map D.int) :: l) (List.range n) [] [some r.d, some (nD n), none, some (inL r.hl), some (.cell μ.length)] (μ ++ [.lst []]) ⟨none, [], rfl, rfl⟩
    (fun zs a ρ ν p ⟨x2, l, e1, e2⟩ => by
      subst e1 e2
      have hlen : (zs ++ [a]).length ≤ (List.range n).length := by simpa using p.length_le
      simp at hlen
      have at_ : (μ ++ .lst ((r.tots zs.length).map D.int) :: l)[μ.length]? = some (.lst ((r.tots zs.length).map D.int)) := at_end
      have e0 : d__law_tail_sum [r.d, inL (r.rowN zs.length)] (μ ++ .lst ((r.tots zs.length).map D.int) :: l) = .ok (.int (r.en (r.rowN zs.length))) _ := tail_sum_ok h (.inl rfl) rowN_len
      have ap := app_cell (v := .int (r.en (r.rowN zs.length))) at_ (by simp [tots_len]; omega)
      rw [set_end, show (r.tots zs.length).map D.int ++ [D.int (r.en (r.rowN zs.length))] = (r.tots (zs.length + 1)).map D.int by simp [tots_succ]] at ap
      obtain ⟨l2, e3⟩ := step_line_ok (μ := μ ++ .lst ((r.tots (zs.length + 1)).map D.int) :: l) h (.inl rfl) (rowN_len (k := zs.length))
      refine ⟨[some r.d, some (nD n), some (nD a), some (inL (r.rowN (zs.length + 1))), some (.cell μ.length)], μ ++ .lst ((r.tots (zs.length + 1)).map D.int) :: l ++ l2, fun k => ?_, some (nD a), l ++ l2, by simp, by simp⟩
      simp only [lpS, b1__law_sums_of]
      simp [-List.append_assoc]
      rw [mth_cell (c := μ.length) (by simp) at_]
      simp [-List.append_assoc, chk_cell at_, e0, ap, e3]
      rfl)
  refine ⟨l, ?_⟩
  rw [u__law_sums_of]
  simp [p__law_sums_of, head_line_ok h, rg1_nat (show n < 2 ^ 62 by omega)]
  refine hr.trans ?_
  simp [k1__law_sums_of, frzD]
end
end K12

set_option Elab.async false
set_option linter.all false
set_option maxRecDepth 100000
set_option maxHeartbeats 1000000
/-! k12: more letters, the reader of all texts. -/
namespace K12
open PySem L2 Pu
section
variable {μ : Sto}
/-- the same with one letter more -/
def Rdr.zz (r : Rdr) : Rdr := ⟨r.z ++ [122], r.n, r.hs, r.ts, r.ls⟩
theorem zz_ok {r : Rdr} (h : r.Ok) (hz : r.z.length ≤ 3) (hq : ∀ c ∈ r.z, c < 122) : r.zz.Ok := by
  refine ⟨⟨?_, ?_, ?_⟩, h.n1, h.n2, h.hsn, h.hsr, h.tsn, h.tsr, fun l hl => ?_, h.lsr, h.lsl⟩
  · show 1 ≤ (r.z ++ [122]).length ∧ (r.z ++ [122]).length ≤ 4
    simp; omega
  · intro c hc
    rcases List.mem_append.mp (show c ∈ r.z ++ [122] from hc) with hc | hc
    · exact h.lt.sm c hc
    · simp at hc; omega
  · show (r.z ++ [122]).Pairwise (· < ·)
    rw [List.pairwise_append]
    exact ⟨h.lt.asc, by simp, fun a ha b hb => by simp at hb; subst hb; exact hq a ha⟩
  · obtain ⟨a, b, c⟩ := h.lsn l hl
    exact ⟨a, by show _ ∈ r.z ++ [122]; simp [b], c⟩
theorem zz_row {r : Rdr} : ∀ {k : Nat}, r.zz.rowN k = r.rowN k
  | 0 => rfl
  | k + 1 => by rw [Rdr.rowN, Rdr.rowN, zz_row]; rfl
theorem zz_tots {r : Rdr} {n : Nat} : r.zz.tots n = r.tots n := by
  unfold Rdr.tots
  exact List.map_congr_left fun k _ => by rw [zz_row]; rfl
theorem over_ok {r : Rdr} (h : r.Ok) (hz : r.z.length ≤ 3) (hq : ∀ c ∈ r.z, c < 122) : ∃ l, d_Reader_over [r.o, stD (r.z ++ [122])] μ = .ok r.zz.o (μ ++ l) := by
  have hs : (1000 : Nat) ≤ sizeLine := by decide
  have ho := zz_ok h hz hq
  obtain ⟨l, fs, e, hi⟩ := init_ok (μ := μ) ho
  have m := mk_ok (n := 5) (by rfl) hi
  rw [e] at m
  have m' : mkS "Reader" false 5 d_Reader___init__ [stD (r.z ++ [122]), nD r.n, nsT r.hs, nsT r.ts, lsT r.ls] μ = .ok r.zz.o (μ ++ .dead :: l) := m
  have cm := cmp_map (u := fun d ρ => some (ρ.set 2 (some d))) (t := nxt) (el := e1_Reader_over) (ρ := [some r.o, some (stD (r.z ++ [122])), none]) (μ := μ) (e := sD') (g := fun c => D.bl true) (xs := r.z) (fun c hc => by
    simp [turnS, e1_Reader_over]
    simp [hc]) (by omega)
  have al : ∀ ν, allD [.lst (r.z.map fun _ => D.bl true)] ν = .ok (.bl true) ν := fun ν => by
    have := all_bls (μ := ν) (p := fun _ : Nat => true) (xs := r.z)
    rw [this]
    simp
  refine ⟨.dead :: l, ?_⟩
  rw [u_Reader_over]
  simp only [p_Reader_over]
  simp [req_letters_ok ho.lt, show d_require_letters [stD (r.z ++ [122])] μ = .ok .non μ from req_letters_ok ho.lt, at_letters (G := g_Reader_over) rfl rfl, at_size (G := g_Reader_over) rfl rfl, at_firsts (G := g_Reader_over) rfl rfl, at_lasts (G := g_Reader_over) rfl rfl, at_arrows (G := g_Reader_over) rfl rfl, cm, al, m']
/-- the reader of all texts -/
def ev (z : List Nat) : Rdr := ⟨z, 1, [0], [0], z.map fun c => (0, c, 0)⟩
theorem ev_ok {z : List Nat} (h : Lts z) : (ev z).Ok := by
  refine ⟨h, by simp [ev], by simp [ev], by simp [ev], by simp [ev], by simp [ev], by simp [ev], fun l hl => ?_, ?_, ?_⟩
  · obtain ⟨c, hc, rfl⟩ := List.mem_map.mp hl
    exact ⟨by simp [ev], hc, by simp [ev]⟩
  · show (z.map fun c => ((0 : Nat), c, (0 : Nat))).Pairwise _
    rw [List.pairwise_map]
    exact h.asc.imp fun hlt => by unfold arLt; simp; omega
  · show (z.map fun c => ((0 : Nat), c, (0 : Nat))).length ≤ 1000
    have := h.len
    simp; omega
theorem arr_ris {l m : List (Nat × Nat × Nat)} (h1 : l.Pairwise fun a b => arLt a b = true) (h2 : m.Pairwise fun a b => arLt a b = true) (h : ∀ k, k ∈ l ↔ k ∈ m) : l = m :=
  ris_uniq (fun a z => by rw [arLt_irr] at z; cases z) (fun a b z w => by have := arLt_tr z w; rw [arLt_irr] at this; cases this) h1 h2 h
theorem prs_one {as : List Nat} : prs as [0] 1 = as := by
  unfold prs
  simp
theorem bls_one {r : Rdr} (h : r.Ok) {x : Nat × Nat × Nat} : x ∈ bls r (ev r.z) ↔ x ∈ r.ls := by
  rw [mem_bls (ev_ok h.lt)]
  constructor
  · rintro ⟨l, hl, m, hm, e, rfl⟩
    obtain ⟨c, hc, rfl⟩ := List.mem_map.mp (show m ∈ r.z.map fun c => ((0 : Nat), c, (0 : Nat)) from hm)
    simpa [ev] using hl
  · intro hx
    exact ⟨x, hx, (0, x.2.1, 0), List.mem_map.mpr ⟨x.2.1, (h.lsn x hx).2.1, rfl⟩, rfl, by simp [ev]⟩
theorem both_every {r : Rdr} (h : r.Ok) : ∃ l, d_both [r.o, (ev r.z).o] μ = .ok r.o (μ ++ l) := by
  have hB : (bls r (ev r.z)).length ≤ 1000 := by
    have nl : r.ls.Nodup := h.lsr.imp fun {a b} hlt e => by subst e; rw [arLt_irr] at hlt; cases hlt
    have := ((List.perm_ext_iff_of_nodup (nd_bls h (ev_ok h.lt)) nl).mpr fun x => bls_one h).length_eq
    rw [this]; exact h.lsl
  obtain ⟨q, l, e, q1, q2, q3, q4, q5, q6⟩ := both_ok (μ := μ) h (ev_ok h.lt) rfl (by show r.n * 1 ≤ 60; have := h.n2; omega) hB
  refine ⟨l, ?_⟩
  have : q = r := by
    obtain ⟨z, n, hs, ts, ls⟩ := q
    obtain ⟨z', n', hs', ts', ls'⟩ := r
    have e1 : ls = ls' := arr_ris q1.lsr h.lsr fun x => (q6 x).trans (bls_one h)
    have e2 : hs = hs' := q4.trans prs_one
    have e3 : ts = ts' := q5.trans prs_one
    have e4 : n = n' := by have : n = n' * 1 := q3; omega
    have e5 : z = z' := q2
    subst e1 e2 e3 e4 e5
    rfl
  rw [← this] at e ⊢
  exact e
end
end K12

set_option Elab.async false
set_option linter.all false
set_option maxRecDepth 100000
set_option maxHeartbeats 1000000
/-! k12: all texts of a length. -/
namespace K12
open PySem L2 Pu
section
variable {μ : Sto}
def ext1 (z w : List Nat) : List (List Nat) := z.map fun c => w ++ [c]
def wds (z : List Nat) : Nat → List (List Nat)
  | 0 => [[]]
  | k + 1 => (wds z k).flatMap (ext1 z)
theorem wds_len {z : List Nat} : ∀ {k : Nat} {w : List Nat}, w ∈ wds z k → w.length = k
  | 0, w, h => by simp [wds] at h; simp [h]
  | k + 1, w, h => by
    obtain ⟨v, hv, hw⟩ := List.mem_flatMap.mp h
    obtain ⟨c, _, rfl⟩ := List.mem_map.mp hw
    simp [wds_len hv]
theorem wds_sub {z : List Nat} : ∀ {k : Nat} {w : List Nat}, w ∈ wds z k → ∀ c ∈ w, c ∈ z
  | 0, w, h => by simp [wds] at h; simp [h]
  | k + 1, w, h => by
    obtain ⟨v, hv, hw⟩ := List.mem_flatMap.mp h
    obtain ⟨c, hc, rfl⟩ := List.mem_map.mp hw
    intro d hd
    rcases List.mem_append.mp hd with hd | hd
    · exact wds_sub hv d hd
    · simp at hd; subst hd; exact hc
theorem ext_card {z : List Nat} {ws : List (List Nat)} : (ws.flatMap (ext1 z)).length = ws.length * z.length := by
  induction ws with
  | nil => simp
  | cons w ws ih => rw [List.flatMap_cons, List.length_append, ih, List.length_cons, Nat.add_mul]; simp [ext1]; omega
theorem wds_card {z : List Nat} : ∀ {k : Nat}, (wds z k).length = z.length ^ k
  | 0 => rfl
  | k + 1 => by rw [wds, ext_card, wds_card, Nat.pow_succ]
theorem longer_ok {z : List Nat} (hz : z.length ≤ 100) {x1 x2 x3 : Option D} : ∀ (ws acc : List (List Nat)) (x5 : Option D), (∀ w ∈ ws, w.length ≤ 500) → acc.length + ws.length * z.length ≤ 100000 →
    ∃ x5', ∀ (K k : Sl → M D), cL (fun d ρ => some (ρ.set 5 (some d))) (b2__law_words_of K) k (ws.map stD) [some (stD z), x1, x2, x3, some (.lst (acc.map stD)), x5, none] μ = k [some (stD z), x1, x2, x3, some (.lst ((acc ++ ws.flatMap (ext1 z)).map stD)), x5', none] μ := by
  have hs : (1000 : Nat) ≤ sizeLine := by decide
  intro ws
  induction ws with
  | nil => intro acc x5 _ _; exact ⟨x5, fun K k => by simp⟩
  | cons w ws ih =>
    intro acc x5 hw hl
    rw [List.length_cons, Nat.add_mul] at hl
    obtain ⟨y5, e⟩ := ih (acc ++ ext1 z w) (some (stD w)) (fun v hv => hw v (by simp [hv])) (by simp [ext1]; omega)
    refine ⟨y5, fun K k => ?_⟩
    have cm := cmp_map (u := fun d ρ => some (ρ.set 6 (some d))) (t := nxt) (el := e1__law_words_of) (ρ := [some (stD z), x1, x2, x3, some (.lst (acc.map stD)), some (stD w), none]) (μ := μ) (e := sD') (g := fun c => stD (w ++ [c])) (xs := z)
      (fun c hc => by
        have a := add_sign (μ := μ) (w := w) (x := stS [c]) (c := c) rfl (by have := hw w (by simp); omega)
        simp [turnS, e1__law_words_of]
        exact congrArg _ a) (by omega)
    have ad := add_lst (μ := μ) (a := acc.map stD) (b := (ext1 z w).map stD) (by simp [ext1]; omega)
    rw [show z.map (fun c => stD (w ++ [c])) = (ext1 z w).map stD by simp [ext1]] at cm
    rw [List.map_cons, cL_cons]
    rw [show acc ++ (w :: ws).flatMap (ext1 z) = acc ++ ext1 z w ++ ws.flatMap (ext1 z) by simp]
    rw [← e K k]
    simp only [lpS, b2__law_words_of]
    simp [-List.map_append, cm, ad]
    simp
theorem words_ok {z : List Nat} (hz : z.length ≤ 3) {k : Nat} (hk : k ≤ 500) (hB : ∀ j, j < k → (wds z j).length * z.length ≤ 100000) : d__law_words_of [stD z, nD k] μ = .ok (.lst ((wds z k).map stD)) μ := by
  obtain ⟨ρ', ν', ⟨x3, x4, x5, rfl, rfl⟩, hr⟩ := cL_inv (u := fun d ρ => some (ρ.set 3 (some d))) (body := b1__law_words_of (k1__law_words_of fin0 fin1 fin1)) (K := k1__law_words_of fin0 fin1 fin1) (e := nD)
    (fun zs ρ ν => ∃ x3 x4 x5, ρ = [some (stD z), some (nD k), some (.lst ((wds z zs.length).map stD)), x3, x4, x5, none] ∧ ν = μ) (List.range k) [] [some (stD z), some (nD k), some (.lst [.str ""]), none, none, none, none] μ ⟨none, none, none, rfl, rfl⟩
    (fun zs a ρ ν p ⟨x3, x4, x5, e1, e2⟩ => by
      subst e1 e2
      have hlen : (zs ++ [a]).length ≤ (List.range k).length := by simpa using p.length_le
      simp at hlen
      obtain ⟨y5, e⟩ := longer_ok (μ := ν) (z := z) (by omega) (x1 := some (nD k)) (x2 := some (.lst ((wds z zs.length).map stD))) (x3 := some (nD a)) (wds z zs.length) [] x5 (fun w hw => by rw [wds_len hw]; omega) (by have := hB zs.length (by omega); simpa using this)
      refine ⟨[some (stD z), some (nD k), some (.lst ((wds z (zs.length + 1)).map stD)), some (nD a), some (.lst ((wds z (zs.length + 1)).map stD)), y5, none], ν, fun k => ?_, some (nD a), some (.lst ((wds z (zs.length + 1)).map stD)), y5, by simp, rfl⟩
      have nl : newL 0 [] ν = .ok (.lst []) ν := rfl
      have e := e (k2__law_words_of k fin0 k) (k2__law_words_of k fin0 k)
      simp at e
      simp only [lpS, b1__law_words_of]
      simp [nl]
      refine e.trans ?_
      simp [k2__law_words_of]
      rfl)
  rw [u__law_words_of]
  simp [p__law_words_of, rg1_nat (show k < 2 ^ 62 by omega)]
  refine hr.trans ?_
  simp [k1__law_words_of]
end
end K12

set_option Elab.async false
set_option linter.all false
set_option maxRecDepth 100000
set_option maxHeartbeats 1000000
/-! k12: the totals are the sums over all texts. -/
namespace K12
open PySem L2 Pu
theorem tot_stp_cons {k : Nat} {L : List Int} {l : Nat × Nat × Nat} {ls : List (Nat × Nat × Nat)} : tot (stpP (l :: ls) L) k = (if l.2.2 = k then L.getD l.1 0 else 0) + tot (stpP ls L) k := by
  unfold stpP tot
  by_cases x3 : l.2.2 = k <;> simp [x3]
theorem sum_map_add {α : Type} {f g : α → Int} : ∀ {as : List α}, (as.map fun a => f a + g a).sum = (as.map f).sum + (as.map g).sum := by
  intro as
  induction as with
  | nil => rfl
  | cons a as ih => simp [ih]; omega
theorem sum_map_zero {α : Type} : ∀ {as : List α}, (as.map fun _ => (0 : Int)).sum = 0 := by
  intro as
  induction as with
  | nil => rfl
  | cons a as ih => simp [ih]
theorem tot_sum {α : Type} {n k : Nat} {F : α → List Int} {as : List α} {M : List Int} (hM : ∀ i, i < n → (as.map fun a => (F a).getD i 0).sum = M.getD i 0) : ∀ {ls : List (Nat × Nat × Nat)}, (∀ l ∈ ls, l.1 < n) → (as.map fun a => tot (stpP ls (F a)) k).sum = tot (stpP ls M) k := by
  intro ls
  induction ls with
  | nil => intro _; exact sum_map_zero
  | cons l ls ih =>
    intro h
    have e : ∀ a, tot (stpP (l :: ls) (F a)) k = (if l.2.2 = k then (F a).getD l.1 0 else 0) + tot (stpP ls (F a)) k := fun a => tot_stp_cons
    rw [List.map_congr_left (fun a _ => e a), sum_map_add, ih fun m hm => h m (by simp [hm]), tot_stp_cons]
    by_cases q : l.2.2 = k
    · simp only [q, ↓reduceIte]
      rw [hM _ (h l (by simp))]
    · simp only [q, ↓reduceIte]
      rw [sum_map_zero]
theorem sum_flat {α β : Type} {f : β → Int} {g : α → List β} : ∀ {as : List α}, ((as.flatMap g).map f).sum = (as.map fun a => ((g a).map f).sum).sum := by
  intro as
  induction as with
  | nil => rfl
  | cons a as ih => rw [List.flatMap_cons, List.map_append, List.sum_append, ih, List.map_cons, List.sum_cons]
theorem line_app {r : Rdr} {w : List Nat} {c : Nat} : r.line (w ++ [c]) = r.put c (r.line w) := by simp [Rdr.line]
theorem wds_rows {r : Rdr} (h : r.Ok) : ∀ {k i : Nat}, i < r.n → ((wds r.z k).map fun w => (r.line w).getD i 0).sum = (r.rowN k).getD i 0 := by
  intro k
  induction k with
  | zero => intro i hi; simp [wds, Rdr.rowN, Rdr.line]
  | succ k ih =>
    intro i hi
    rw [wds, sum_flat]
    have e : ∀ w, ((ext1 r.z w).map fun w => (r.line w).getD i 0).sum = tot (stpP r.ls (r.line w)) i := by
      intro w
      rw [← tot_all h.lt.nd (k := i) (L := r.line w) (ls := r.ls) (fun l hl => (h.lsn l hl).2.1)]
      unfold ext1
      rw [List.map_map]
      exact congrArg List.sum (List.map_congr_left fun c _ => by
        show (r.line (w ++ [c])).getD i 0 = _
        rw [line_app, put_get h hi])
    rw [List.map_congr_left fun w _ => e w, tot_sum (M := r.rowN k) (fun i hi => ih hi) fun l hl => (h.lsn l hl).1, Rdr.rowN, stp_get h hi]
theorem en_sum {α : Type} {n : Nat} {F : α → List Int} {as : List α} {M : List Int} (hM : ∀ i, i < n → (as.map fun a => (F a).getD i 0).sum = M.getD i 0) : ∀ {ts : List Nat}, (∀ t ∈ ts, t < n) → (as.map fun a => (ts.map fun t => (F a).getD t 0).sum).sum = (ts.map fun t => M.getD t 0).sum := by
  intro ts
  induction ts with
  | nil => intro _; exact sum_map_zero
  | cons t ts ih =>
    intro h
    have e : ∀ a, ((t :: ts).map fun t => (F a).getD t 0).sum = (F a).getD t 0 + (ts.map fun t => (F a).getD t 0).sum := fun a => by rw [List.map_cons, List.sum_cons]
    rw [List.map_congr_left (fun a _ => e a), sum_map_add, ih fun m hm => h m (by simp [hm]), hM t (h t (by simp)), List.map_cons, List.sum_cons]
theorem wds_ways {r : Rdr} (h : r.Ok) {k : Nat} : ((wds r.z k).map r.ways).sum = r.en (r.rowN k) := en_sum (n := r.n) (F := r.line) (as := wds r.z k) (M := r.rowN k) (fun i hi => wds_rows h hi) h.tsn
end K12

set_option Elab.async false
set_option linter.all false
set_option maxRecDepth 100000
set_option maxHeartbeats 4000000
/-! k12: a turn of the law. -/
namespace K12
open PySem L2 Pu
section
variable {μ : Sto}
def Rdr.fs (r : Rdr) : List (Str × D) := [("own_letters", stD r.z), ("own_size", nD r.n), ("own_states", .lst ((List.range r.n).map nD)), ("own_firsts", nsT r.hs), ("own_lasts", nsT r.ts), ("own_arrows", lsT r.ls), ("own_moves", .dic (mvs r.n r.z r.ls))]
theorem bIf_pick {p : Prop} [Decidable p] {a b : D} {B : Pu.M D} (hp : p → a = b) (hn : ¬p → B μ = .ok b μ) : bIf (yes a) B (decide p) μ = .ok b μ := by
  by_cases h : p
  · simp [h, hp h]
  · simp [h, hn h]
theorem signs2_ok {c : Nat} {n : Int} (hp : PotAt μ c n) (hn : n ≤ 800000) : ∃ (z : List Nat) (ν : Sto), d__law_signs [.cell c] μ = .ok (stD z) ν ∧ Lts z ∧ z.length ≤ 3 ∧ (∀ c ∈ z, c < 122) ∧ PotAt ν c (n + 1) := by
  obtain ⟨d, o, e, hd, hp2⟩ := pick_ok (s := .lst [.str "ab", .str "ab", .str "ab", .str "a", .str "xy", .str "abc"]) (.inl rfl) hp (by omega) (by simp) (by simp)
  have h2 : ∃ z, d = stD z ∧ Lts z ∧ z.length ≤ 3 ∧ ∀ c ∈ z, c < 122 := by
    simp at hd
    rcases hd with rfl | rfl | rfl | rfl
    · exact ⟨[97, 98], rfl, ⟨by decide, by decide, by decide⟩, by decide, by decide⟩
    · exact ⟨[97], rfl, ⟨by decide, by decide, by decide⟩, by decide, by decide⟩
    · exact ⟨[120, 121], rfl, ⟨by decide, by decide, by decide⟩, by decide, by decide⟩
    · exact ⟨[97, 98, 99], rfl, ⟨by decide, by decide, by decide⟩, by decide, by decide⟩
  obtain ⟨z, rfl, h3, h4, h5⟩ := h2
  refine ⟨z, _, ?_, h3, h4, h5, hp2⟩
  rw [u__law_signs]
  simp [p__law_signs, e]
theorem fm_some {α β : Type} {f : α → β} {as : List α} : as.filterMap (fun a => some (f a)) = as.map f := by rw [List.filterMap_eq_map']
theorem due_turn {r : Rdr} (h : r.Ok) (hz : r.z.length ≤ 3) {k : Nat} (hk : k ≤ 500) (hB : ∀ j, j < k → (wds r.z j).length * r.z.length ≤ 100000) (hC : (wds r.z k).length ≤ 10000) {x0 x3 x4 x5 x6 x7 : Option D} :
    ∃ l, turnS (fun d ρ => some (ρ.set 8 (some d))) nxt e2__law_right [x0, some (stD r.z), some r.d, x3, x4, x5, x6, x7, none, none, none] (nD k) μ = .ok (some (.int (r.en (r.rowN k)))) (μ ++ l) := by
  have w := words_ok (μ := μ) hz hk hB
  obtain ⟨l, e⟩ := comp_gar (f := turnS (fun d ρ => some (ρ.set 9 (some d))) nxt e1__law_right [x0, some (stD r.z), some r.d, x3, x4, x5, x6, x7, some (nD k), none, none]) (e := stD) (g := fun w => some (.int (r.ways w))) (wds r.z k)
    (fun w hw ν => by
      obtain ⟨l, e⟩ := ways_ok (μ := ν) h (w := w)
      exact ⟨l, by simp [turnS, e1__law_right, e]⟩) [] μ (by simp; omega)
  rw [fm_some, List.nil_append, show (wds r.z k).map (fun w => D.int (r.ways w)) = ((wds r.z k).map r.ways).map D.int by rw [List.map_map]; rfl] at e
  have su : ∀ ν, sumD [.lst (((wds r.z k).map r.ways).map D.int)] ν = .ok (.int (r.en (r.rowN k))) ν := fun ν => by
    rw [← wds_ways h]
    exact sum_ints
  refine ⟨l, ?_⟩
  simp [-List.map_map, turnS, e2__law_right, w, e, su]
theorem card_ok {z : List Nat} (h : z.length ≤ 3) (h0 : 1 ≤ z.length) {k : Nat} (hk : k < if z.length = 1 then 7 else if z.length = 2 then 6 else 5) : (∀ j, j < k → (wds z j).length * z.length ≤ 100000) ∧ (wds z k).length ≤ 10000 := by
  have pw : ∀ j : Nat, j < 7 → 3 ^ j ≤ 2187 := by decide
  have hk7 : k < 7 := by split at hk <;> (try split at hk) <;> omega
  have le : ∀ j : Nat, z.length ^ j ≤ 3 ^ j := fun j => Nat.pow_le_pow_left h j
  refine ⟨fun j hj => ?_, ?_⟩
  · rw [wds_card]
    have := le j
    have := pw j (by omega)
    have : z.length ^ j * z.length ≤ 2187 * 3 := Nat.mul_le_mul (by omega) h
    omega
  · rw [wds_card]
    have := le k
    have := pw k hk7
    omega
theorem right_ok {c : Nat} {n : Int} (hp : PotAt μ c n) (hn : n ≤ 500000) : ∃ ν, d__law_right [.cell c] μ = .ok (.bl true) ν ∧ PotAt ν c (n + 400) := by
  obtain ⟨z, ν1, e1, z1, z2, z3, p1⟩ := signs2_ok hp (by omega)
  obtain ⟨r, ν2, e2, h, rfl, r1, r2, p2, _⟩ := any_reader_ok (most := 4) z1 p1 (by omega) (by omega)
  have hn2 := h.n2
  have hzl := h.lt.len
  obtain ⟨l3, e3⟩ := made_ok (μ := ν2) h
  have p3 : PotAt (ν2 ++ l3) c (n + 1 + 250) := p2.app
  generalize ν2 ++ l3 = ν3 at e3 p3
  obtain ⟨m, hm⟩ : ∃ m : Nat, m = if r.z.length = 1 then 7 else if r.z.length = 2 then 6 else 5 := ⟨_, rfl⟩
  have hm7 : m ≤ 7 := by rw [hm]; split <;> (try split) <;> omega
  have hcard := fun k (hk : k < m) => card_ok z2 hzl.1 (k := k) (by omega)
  obtain ⟨l4, e4⟩ := comp_gar (f := turnS (fun d ρ => some (ρ.set 8 (some d))) nxt e2__law_right [some (.cell c), some (stD r.z), some r.d, none, none, none, some r.o, some (nD m), none, none, none]) (e := nD) (g := fun k => some (.int (r.en (r.rowN k)))) (List.range m)
    (fun k hk ν => by
      have hk : k < m := by simpa using hk
      exact due_turn h z2 (by omega) (hcard k hk).1 (hcard k hk).2) [] ν3 (by simp; omega)
  rw [fm_some, List.nil_append, show (List.range m).map (fun k => D.int (r.en (r.rowN k))) = (r.tots m).map D.int by unfold Rdr.tots; rw [List.map_map]; rfl] at e4
  have p4 : PotAt (ν3 ++ l4) c (n + 1 + 250) := p3.app
  generalize ν3 ++ l4 = ν4 at e4 p4
  obtain ⟨l5, e5⟩ := totals_ok (μ := ν4) h (n := m) (by omega)
  obtain ⟨l6, e6⟩ := totals_ok (μ := ν4 ++ l5) h (n := 0) (by omega)
  obtain ⟨l7, e7⟩ := comp_gar (f := turnS (fun d ρ => some (ρ.set 8 (some d))) nxt e3__law_right [some (.cell c), some (stD r.z), some r.d, some (inL (r.tots m)), none, none, some r.o, some (nD m), none, none, none]) (e := nD) (g := fun k => some (.int (r.en (r.rowN k)))) (List.range m)
    (fun k hk ν => by
      have hk : k < m := by simpa using hk
      obtain ⟨l, e⟩ := total_ok (μ := ν) h (n := k) (by omega)
      exact ⟨l, by simp [turnS, e3__law_right, e]⟩) [] (ν4 ++ l5 ++ l6) (by simp; omega)
  rw [fm_some, List.nil_append, show (List.range m).map (fun k => D.int (r.en (r.rowN k))) = (r.tots m).map D.int by unfold Rdr.tots; rw [List.map_map]; rfl] at e7
  have p5 : PotAt (ν4 ++ l5 ++ l6 ++ l7) c (n + 1 + 250) := p4.app.app.app
  generalize hν5 : ν4 ++ l5 ++ l6 ++ l7 = ν5 at e7 p5
  obtain ⟨x, o, e8, x1, x2, p6⟩ := bit_ok (m := 60) p5 (by omega) (by omega) (by decide +kernel)
  obtain ⟨q, rfl⟩ : ∃ q : Nat, x = (q : Int) := ⟨x.toNat, by omega⟩
  generalize ν5.set c o = ν6 at e8 p6
  obtain ⟨l8, e9⟩ := totals_ok (μ := ν6) h (n := q) (by omega)
  obtain ⟨l9, e10⟩ := sums_of_ok (μ := ν6 ++ l8) h (n := q) (by omega)
  obtain ⟨l10, e11⟩ := total_ok (μ := ν6 ++ l8 ++ .dead :: l9) h (n := q) (by omega)
  obtain ⟨l11, e12⟩ := sums_of_ok (μ := ν6 ++ l8 ++ .dead :: l9 ++ l10) h (n := q + 1) (by omega)
  have e12' : d__law_sums_of [r.d, .int ((q : Int) + 1)] (ν6 ++ l8 ++ .dead :: l9 ++ l10) = .ok (inL (r.tots q ++ [r.en (r.rowN q)])) (ν6 ++ l8 ++ .dead :: l9 ++ l10 ++ .dead :: l11) := by rw [← tots_succ]; exact e12
  have p7 : PotAt (ν6 ++ l8 ++ .dead :: l9 ++ l10 ++ .dead :: l11) c (n + 1 + 250 + 1) := p6.app.app.app.app
  generalize hν7 : ν6 ++ l8 ++ .dead :: l9 ++ l10 ++ .dead :: l11 = ν7 at e12' p7
  have hs : (1000 : Nat) ≤ sizeLine := by decide
  have e13 := cmp_map (u := fun d ρ => some (ρ.set 10 (some d))) (t := nxt) (el := e4__law_right) (ρ := [some (.cell c), some (stD r.z), some r.d, some (inL (r.tots m)), some (nD q), none, some r.o, some (nD m), none, none, none]) (μ := ν7) (e := sD') (g := fun c => arD (0, c, 0)) (xs := r.z) (fun c hc => by simp [turnS, e4__law_right, arD]) (by omega)
  obtain ⟨l12, fs, e, hi⟩ := init_ok (μ := ν7) (ev_ok h.lt)
  have mk := mk_ok (n := 5) (by rfl) hi
  rw [e] at mk
  have mk' : mkS "Reader" false 5 d_Reader___init__ [stD r.z, .int 1, .tup [.int 0], .tup [.int 0], .tup (r.z.map fun c => arD (0, c, 0))] ν7 = .ok (ev r.z).o (ν7 ++ .dead :: l12) := by
    have e2 : lsT (ev r.z).ls = .tup (r.z.map fun c => arD (0, c, 0)) := by show D.tup ((r.z.map fun c => ((0 : Nat), c, (0 : Nat))).map arD) = _; rw [List.map_map]; rfl
    rw [← e2]
    exact mk
  have p8 : PotAt (ν7 ++ .dead :: l12) c (n + 1 + 250 + 1) := p7.app
  generalize ν7 ++ .dead :: l12 = ν8 at mk' p8
  obtain ⟨l13, f1⟩ := over_ok (μ := ν8) h z2 z3
  obtain ⟨l14, f2⟩ := totals_ok (μ := ν8 ++ l13) (zz_ok h z2 z3) (n := m) (by omega)
  rw [zz_tots] at f2
  obtain ⟨l15, f3⟩ := both_every (μ := ν8 ++ l13 ++ l14) h
  obtain ⟨l16, f4⟩ := totals_ok (μ := ν8 ++ l13 ++ l14 ++ l15) h (n := m) (by omega)
  refine ⟨ν8 ++ l13 ++ l14 ++ l15 ++ l16, ?_, (p8.app.app.app.app).le (by omega)⟩
  have e2' : d__law_any_reader [.cell c, stD r.z, .int 4] ν1 = .ok r.d ν2 := e2
  have e6' : d_totals [r.o, .int 0] (ν4 ++ l5) = .ok (.tup []) (ν4 ++ l5 ++ l6) := e6
  have hif : (if r.z.length = 1 then (R.ok (D.int 7) ν3) else if r.z.length = 2 then R.ok (D.int 6) ν3 else R.ok (D.int 5) ν3) = R.ok (nD m) ν3 := by
    rw [hm]
    split
    · rfl
    · split <;> rfl
  have az : binD .Add (stD r.z) (.str "z") ν8 = .ok (stD (r.z ++ [122])) ν8 := add_sign (c := 122) rfl (by omega)
  have ov : ∀ (eo oth : Pu.M D) (A' : Pu.M (List D)) (cm : Str → Pu.M D) (ν : Sto), eo ν = .ok r.o ν → mthS eo (mInst g__law_right "over" A') cm oth ν = (A' >>= fun ds => cO 1 d_Reader_over r.o ds) ν := fun eo oth A' cm ν he => by
    rw [mth_obj (C := "Reader") (fs := r.fs) he, inst_ok (n := 1) (F := d_Reader_over) rfl rfl]
    rfl
  have t0 : ∀ ν, eqO g__law_right true (.tup []) (.tup []) ν = .ok (.bl false) ν := fun ν => rfl
  have ie : ∀ ν, ixD (inL (r.tots q ++ [r.en (r.rowN q)])) (.int (-1)) ν = .ok (.int (r.en (r.rowN q))) ν := fun ν => ix_end
  have l1 : lenO g__law_right [stD r.z] ν3 = .ok (.int r.z.length) ν3 := len_stD (by omega)
  rw [u__law_right]
  simp only [p__law_right]
  simp [-List.append_assoc, -List.map_map, e1, e2', e3, l1]
  rw [bIf_pick (b := nD m) (fun q => ?_) fun q => ?_]
  · simp [-List.append_assoc, -List.map_map, rg1_nat (show m < 2 ^ 62 by omega), e4, e5, e6', eq_intsT, eq_intsL, t0, e7, hν5, e8, e9, e10, e11, e12', hν7, ie, e13, mk']
    rw [ov _ _ _ _ _ (by simp)]
    simp [-List.append_assoc, -List.map_map, az, f1, f2, f3, f4, eq_intsT]
  · rw [hm, if_pos (by omega)]
    rfl
  · simp [l1]
    rw [bIf_pick (b := nD m) (fun q2 => ?_) fun q2 => ?_]
    · rw [hm, if_neg (by omega), if_pos (by omega)]
      rfl
    · rw [hm, if_neg (by omega), if_neg (by omega)]
      rfl
end
end K12

set_option Elab.async false
set_option linter.all false
set_option maxRecDepth 100000
set_option maxHeartbeats 1000000
/-! k12: the law's plain form: its long loop is not to be run, so its parts are shown for any end. -/
namespace K12
open PySem L2 Pu
theorem cS_app {n : Nat} {G : Pu.Ctx} : ∀ {a b : List Stmt} {ρ : Sl} {k kb kc : Sl → M D}, cS (n + 1) G (a ++ b) ρ k kb kc = cS (n + 1) G a ρ (fun ρ => cS (n + 1) G b ρ k kb kc) kb kc
  | [], _, _, _, _, _ => rfl
  | st :: a, b, ρ, k, kb, kc => by
    show cst (cS n) (den n) G st ρ (fun ρ' => cS (n + 1) G (a ++ b) ρ' k kb kc) kb kc = cst (cS n) (den n) G st ρ (fun ρ' => cS (n + 1) G a ρ' _ kb kc) kb kc
    rw [show (fun ρ' => cS (n + 1) G (a ++ b) ρ' k kb kc) = fun ρ' => cS (n + 1) G a ρ' (fun ρ => cS (n + 1) G b ρ k kb kc) kb kc from funext fun ρ' => cS_app]
def far (K : Sl → M D) (ρ : Sl) : M D := (rg1 (.int 399)) >>= fun x => cL (fun d ρ => some (ρ.set 6 (some d))) (b2_law K) K x ρ
set_option smartUnfolding false in
theorem w2 (ρ : Sl) (k kb kc : Sl → M D) : cS 40 g_law ((defBody s_law).drop 6) ρ k kb kc = k2_law k kb kc ρ := rfl
set_option smartUnfolding false in
theorem w1 (ρ : Sl) (k kb kc : Sl → M D) : cS 40 g_law (((defBody s_law).drop 5).take 1) ρ k kb kc = far k ρ := rfl
def mid (K : Sl → M D) (ρ : Sl) : M D := ((((((tupL [(.int 0)]) >>= fun x1 => (((tupL [(.int 1)]) >>= fun x2 => (((((tupL [(.int 0), (.str "a"), (.int 1)]) >>= fun x3 => (((tupL [(.int 0), (.str "b"), (.int 0)]) >>= fun x4 => (((tupL [(.int 1), (.str "a"), (.int 0)]) >>= fun x5 => (((tupL [(.int 1), (.str "b"), (.int 1)]) >>= fun x6 => (yes [x6])) >>= fun x7 => (yes (x5 :: x7)))) >>= fun x8 => (yes (x4 :: x8)))) >>= fun x9 => (yes (x3 :: x9)))) >>= fun x10 => tupL x10) >>= fun x11 => (yes [x11])) >>= fun x12 => (yes (x2 :: x12)))) >>= fun x13 => (yes (x1 :: x13)))) >>= fun x14 => (yes ((.int 2) :: x14))) >>= fun x15 => (yes ((.str "ab") :: x15))) >>= fun x16 => mkS "Reader" false 5 d_Reader___init__ x16) >>= fun x17 => sK (fun ρ => ((((((tupL [(.int 0)]) >>= fun x18 => (((tupL [(.int 1)]) >>= fun x19 => (((((tupL [(.int 0), (.str "a"), (.int 0)]) >>= fun x20 => (((tupL [(.int 0), (.str "a"), (.int 1)]) >>= fun x21 => (((tupL [(.int 0), (.str "b"), (.int 0)]) >>= fun x22 => (((tupL [(.int 1), (.str "a"), (.int 1)]) >>= fun x23 => (((tupL [(.int 1), (.str "b"), (.int 1)]) >>= fun x24 => (yes [x24])) >>= fun x25 => (yes (x23 :: x25)))) >>= fun x26 => (yes (x22 :: x26)))) >>= fun x27 => (yes (x21 :: x27)))) >>= fun x28 => (yes (x20 :: x28)))) >>= fun x29 => tupL x29) >>= fun x30 => (yes [x30])) >>= fun x31 => (yes (x19 :: x31)))) >>= fun x32 => (yes (x18 :: x32)))) >>= fun x33 => (yes ((.int 2) :: x33))) >>= fun x34 => (yes ((.str "ab") :: x34))) >>= fun x35 => mkS "Reader" false 5 d_Reader___init__ x35) >>= fun x36 => sK (fun ρ => ((((((tupL [(.int 0)]) >>= fun x37 => (((tupL [(.int 0), (.int 2), (.int 3)]) >>= fun x38 => (((((tupL [(.int 0), (.str "a"), (.int 1)]) >>= fun x39 => (((tupL [(.int 1), (.str "a"), (.int 2)]) >>= fun x40 => (((tupL [(.int 2), (.str "a"), (.int 3)]) >>= fun x41 => (((tupL [(.int 3), (.str "a"), (.int 0)]) >>= fun x42 => (yes [x42])) >>= fun x43 => (yes (x41 :: x43)))) >>= fun x44 => (yes (x40 :: x44)))) >>= fun x45 => (yes (x39 :: x45)))) >>= fun x46 => tupL x46) >>= fun x47 => (yes [x47])) >>= fun x48 => (yes (x38 :: x48)))) >>= fun x49 => (yes (x37 :: x49)))) >>= fun x50 => (yes ((.int 4) :: x50))) >>= fun x51 => (yes ((.str "a") :: x51))) >>= fun x52 => mkS "Reader" false 5 d_Reader___init__ x52) >>= fun x53 => sK (fun ρ => (sK (fun ρ => (K ρ)) (ρ.set 5 (some (.int 1))))) (ρ.set 4 (some x53)))) (ρ.set 3 (some x36)))) (ρ.set 2 (some x17)))
set_option smartUnfolding false in
theorem w0 (ρ : Sl) (k kb kc : Sl → M D) : cS 40 g_law (((defBody s_law).drop 1).take 4) ρ k kb kc = mid k ρ := rfl
set_option smartUnfolding false in
theorem wf (ρ : Sl) (k kb kc : Sl → M D) : cS 40 g_law ((defBody s_law).take 1) ρ k kb kc = (((((((((((slot 0 ρ) >>= fun x106 => (yes [x106])) >>= fun x107 => lenO g_law x107) >>= fun x108 => (yes [x108])) >>= fun x109 => (yes ((.int 5) :: x109))) >>= fun x110 => min2D x110) >>= fun x111 => (yes [x111])) >>= fun x112 => (yes ((.int 1) :: x112))) >>= fun x113 => max2D x113) >>= fun x114 => rg1 x114) >>= fun x115 => cL (fun d ρ => some (ρ.set 1 (some d))) (b1_law (k)) (k) x115 ρ) := rfl
theorem mid_law (k kb kc : Sl → M D) : mid (far (k2_law k kb kc)) = k1_law k kb kc := rfl
theorem u_law {a0 : D} : d_law [a0] = p_law [some a0, none, none, none, none, none, none, none, none] := by
  refine (def_cS _ _ _ _).trans ?_
  show cS 40 g_law (defBody s_law) [some a0, none, none, none, none, none, none, none, none] fin0 fin1 fin1 = _
  have e : defBody s_law = (defBody s_law).take 1 ++ (((defBody s_law).drop 1).take 4 ++ (((defBody s_law).drop 5).take 1 ++ (defBody s_law).drop 6)) := rfl
  rw [e, cS_app, wf]
  have e3 : (fun ρ => cS 40 g_law (((defBody s_law).drop 1).take 4 ++ (((defBody s_law).drop 5).take 1 ++ (defBody s_law).drop 6)) ρ fin0 fin1 fin1) = k1_law fin0 fin1 fin1 := by
    funext ρ
    rw [cS_app, w0]
    have e4 : (fun ρ => cS 40 g_law (((defBody s_law).drop 5).take 1 ++ (defBody s_law).drop 6) ρ fin0 fin1 fin1) = far (k2_law fin0 fin1 fin1) := by
      funext ρ
      rw [cS_app, w1]
      have e5 : (fun ρ => cS 40 g_law ((defBody s_law).drop 6) ρ fin0 fin1 fin1) = k2_law fin0 fin1 fin1 := funext fun ρ => w2 ρ _ _ _
      rw [e5]
    rw [e4, mid_law]
  rw [e3]
  rfl
end K12

set_option Elab.async false
set_option linter.all false
set_option maxRecDepth 100000
set_option maxHeartbeats 4000000
/-! k12: the law. -/
namespace K12
open PySem L2 Pu
section
variable {μ : Sto}
/-- the written readers -/
def rO : Rdr := ⟨[97, 98], 2, [0], [1], [(0, 97, 1), (0, 98, 0), (1, 97, 0), (1, 98, 1)]⟩
theorem rO_ok : rO.Ok := ⟨⟨by decide, by decide, by decide⟩, by decide, by decide, by decide, by decide, by decide, by decide, by decide, by decide, by decide⟩
def rS : Rdr := ⟨[97, 98], 2, [0], [1], [(0, 97, 0), (0, 97, 1), (0, 98, 0), (1, 97, 1), (1, 98, 1)]⟩
theorem rS_ok : rS.Ok := ⟨⟨by decide, by decide, by decide⟩, by decide, by decide, by decide, by decide, by decide, by decide, by decide, by decide, by decide⟩
def rF : Rdr := ⟨[97], 4, [0], [0, 2, 3], [(0, 97, 1), (1, 97, 2), (2, 97, 3), (3, 97, 0)]⟩
theorem rF_ok : rF.Ok := ⟨⟨by decide, by decide, by decide⟩, by decide, by decide, by decide, by decide, by decide, by decide, by decide, by decide, by decide⟩
theorem rO_row {k : Nat} : rO.rowN (k + 1) = [2 ^ k, 2 ^ k] := by
  induction k with
  | zero => decide +kernel
  | succ k ih =>
    rw [Rdr.rowN, ih]
    have : ∀ x : Int, rO.stp [x, x] = [2 * x, 2 * x] := fun x => by
      show [0 + x + x, 0 + x + x] = _
      rw [show 0 + x + x = 2 * x by omega]
    rw [this, Int.pow_succ, Int.mul_comm]
theorem rS_row {k : Nat} : rS.rowN (k + 1) = [(2 : Int) ^ (k + 1), ((k : Int) + 1) * (2 : Int) ^ k] := by
  induction k with
  | zero => decide +kernel
  | succ k ih =>
    rw [Rdr.rowN, ih]
    have : ∀ x y : Int, rS.stp [x, y] = [2 * x, x + 2 * y] := fun x y => by
      show [0 + x + x, 0 + x + y + y] = _
      rw [show 0 + x + x = 2 * x by omega, show 0 + x + y + y = x + 2 * y by omega]
    rw [this]
    have e1 : (2 : Int) ^ (k + 1 + 1) = 2 * 2 ^ (k + 1) := by rw [Int.pow_succ, Int.mul_comm]
    have e2 : (2 : Int) ^ (k + 1) + 2 * ((k + 1) * 2 ^ k) = ((k + 1 : Nat) + 1) * 2 ^ (k + 1) := by
      rw [Int.pow_succ]
      generalize (2 : Int) ^ k = p
      push_cast
      rw [show (2 : Int) * (((k : Int) + 1) * p) = ((k : Int) + 1) * (p * 2) by rw [Int.mul_comm p 2, ← Int.mul_assoc, Int.mul_comm 2, Int.mul_assoc]]
      rw [Int.add_mul ((k : Int) + 1) 1, Int.one_mul, Int.add_comm]
    rw [e1, e2]
theorem rO_far : rO.en (rO.rowN 400) = 2 ^ 399 := by
  rw [rO_row (k := 399)]
  show (2 : Int) ^ 399 + 0 = _
  rw [Int.add_zero]
theorem rS_far : rS.en (rS.rowN 400) = 400 * 2 ^ 399 := by
  rw [rS_row (k := 399)]
  show (((399 : Nat) : Int) + 1) * (2 : Int) ^ 399 + 0 = _
  rw [Int.add_zero]
  rfl
theorem pow_lt {k : Nat} (h : k < 400) : -(2 ^ 400) < (2 : Int) ^ k ∧ (2 : Int) ^ k < 2 ^ 400 := by
  have h1 : (2 : Nat) ^ k < 2 ^ 400 := Nat.pow_lt_pow_right (by decide) h
  have e1 : ((2 ^ k : Nat) : Int) = (2 : Int) ^ k := by push_cast; rfl
  have e2 : ((2 ^ 400 : Nat) : Int) = (2 : Int) ^ 400 := by push_cast; rfl
  have h2 : ((2 ^ k : Nat) : Int) < ((2 ^ 400 : Nat) : Int) := Int.ofNat_lt.mpr h1
  have h3 : (0 : Int) ≤ ((2 ^ k : Nat) : Int) := Int.natCast_nonneg _
  rw [e1] at h2 h3
  rw [e2] at h2
  exact ⟨Int.lt_of_lt_of_le (show -(2 : Int) ^ 400 < 0 by decide +kernel) h3, h2⟩
theorem power_ok {x0 x1 x2 x3 x4 x6 x7 x8 : Option D} : ∃ y6, ∀ K : Sl → M D, cL (fun d ρ => some (ρ.set 6 (some d))) (b2_law K) K ((List.range 399).map nD) [x0, x1, x2, x3, x4, some (.int 1), x6, x7, x8] μ = K [x0, x1, x2, x3, x4, some (.int (2 ^ 399)), y6, x7, x8] μ := by
  obtain ⟨ρ', ν', ⟨y6, rfl, rfl⟩, hr⟩ := cL_invU (u := fun d ρ => some (ρ.set 6 (some d))) (body := b2_law) (e := nD)
    (fun zs ρ ν => ∃ y6, ρ = [x0, x1, x2, x3, x4, some (.int (2 ^ zs.length)), y6, x7, x8] ∧ ν = μ) (List.range 399) [] [x0, x1, x2, x3, x4, some (.int 1), x6, x7, x8] μ ⟨x6, rfl, rfl⟩
    (fun zs a ρ ν p ⟨y6, e1, e2⟩ => by
      subst e1 e2
      have hlen : (zs ++ [a]).length ≤ (List.range 399).length := by simpa using p.length_le
      rw [List.length_append, List.length_range] at hlen
      simp only [List.length_singleton] at hlen
      have pl := pow_lt (k := zs.length) (by omega)
      have m : binD .Mult (.int 2) (.int (2 ^ zs.length)) ν = .ok (.int (2 ^ (zs ++ [a]).length)) ν := by
        rw [mul_big (by decide +kernel) (by decide +kernel) pl.1 pl.2, List.length_append, List.length_singleton, Int.pow_succ, Int.mul_comm]
      refine ⟨[x0, x1, x2, x3, x4, some (.int (2 ^ (zs ++ [a]).length)), some (nD a), x7, x8], ν, fun K k => ?_, some (nD a), rfl, rfl⟩
      simp only [lpS, b2_law]
      generalize (2 : Int) ^ zs.length = p at m
      generalize (2 : Int) ^ (zs ++ [a]).length = p' at m
      simp [m])
  refine ⟨y6, fun K => ?_⟩
  have := hr K
  rw [List.nil_append, List.length_range] at this
  exact this
theorem law_end {x0 x1 x2 x3 x4 x5 x6 x7 x8 : Option D} {k kb kc : Sl → M D} : ∃ ν, k1_law k kb kc [x0, x1, x2, x3, x4, x5, x6, x7, x8] μ = .ok (.bl true) ν := by
  obtain ⟨l, fs, e, hi⟩ := init_ok (μ := μ) rO_ok
  have m := mk_ok (n := 5) (by rfl) hi
  rw [e] at m
  have m1 : mkS "Reader" false 5 d_Reader___init__ [.str "ab", .int 2, .tup [.int 0], .tup [.int 1], .tup [.tup [.int 0, .str "a", .int 1], .tup [.int 0, .str "b", .int 0], .tup [.int 1, .str "a", .int 0], .tup [.int 1, .str "b", .int 1]]] μ = .ok rO.o (μ ++ .dead :: l) := m
  clear m
  generalize μ ++ .dead :: l = ν at m1
  obtain ⟨l, fs, e, hi⟩ := init_ok (μ := ν) rS_ok
  have m := mk_ok (n := 5) (by rfl) hi
  rw [e] at m
  have m2 : mkS "Reader" false 5 d_Reader___init__ [.str "ab", .int 2, .tup [.int 0], .tup [.int 1], .tup [.tup [.int 0, .str "a", .int 0], .tup [.int 0, .str "a", .int 1], .tup [.int 0, .str "b", .int 0], .tup [.int 1, .str "a", .int 1], .tup [.int 1, .str "b", .int 1]]] ν = .ok rS.o (ν ++ .dead :: l) := m
  clear m
  generalize ν ++ .dead :: l = ν2 at m2
  obtain ⟨l, fs, e, hi⟩ := init_ok (μ := ν2) rF_ok
  have m := mk_ok (n := 5) (by rfl) hi
  rw [e] at m
  have m3 : mkS "Reader" false 5 d_Reader___init__ [.str "a", .int 4, .tup [.int 0], .tup [.int 0, .int 2, .int 3], .tup [.tup [.int 0, .str "a", .int 1], .tup [.int 1, .str "a", .int 2], .tup [.int 2, .str "a", .int 3], .tup [.int 3, .str "a", .int 0]]] ν2 = .ok rF.o (ν2 ++ .dead :: l) := m
  clear m
  generalize ν2 ++ .dead :: l = ν3 at m3
  obtain ⟨y6, pw⟩ := power_ok (μ := ν3) (x0 := x0) (x1 := x1) (x2 := some rO.o) (x3 := some rS.o) (x4 := some rF.o) (x6 := x6) (x7 := x7) (x8 := x8)
  obtain ⟨l1, e1⟩ := totals_ok (μ := ν3) rO_ok (n := 5) (by decide)
  obtain ⟨l2, e2⟩ := totals_ok (μ := ν3 ++ l1) rS_ok (n := 5) (by decide)
  obtain ⟨l3, e3⟩ := totals_ok (μ := ν3 ++ l1 ++ l2) rF_ok (n := 8) (by decide)
  obtain ⟨l4, e4⟩ := total_ok (μ := ν3 ++ l1 ++ l2 ++ l3) rO_ok (n := 400) (by decide)
  obtain ⟨l5, e5⟩ := total_ok (μ := ν3 ++ l1 ++ l2 ++ l3 ++ l4) rS_ok (n := 400) (by decide)
  rw [show rO.tots 5 = [0, 1, 2, 4, 8] by decide +kernel] at e1
  rw [show rS.tots 5 = [0, 1, 4, 12, 32] by decide +kernel] at e2
  rw [show rF.tots 8 = [1, 0, 1, 1, 1, 0, 1, 1] by decide +kernel] at e3
  rw [rO_far] at e4
  rw [rS_far] at e5
  have pl := pow_lt (k := 399) (by decide)
  have m4 : ∀ ν, binD .Mult (.int 400) (.int (2 ^ 399)) ν = .ok (.int (400 * 2 ^ 399)) ν := fun ν => mul_big (by decide +kernel) (by decide +kernel) pl.1 pl.2
  generalize (2 : Int) ^ 399 = p at pw e4 e5 m4
  have e1' : d_totals [rO.o, .int 5] ν3 = .ok (.tup [.int 0, .int 1, .int 2, .int 4, .int 8]) (ν3 ++ l1) := e1
  have e2' : d_totals [rS.o, .int 5] (ν3 ++ l1) = .ok (.tup [.int 0, .int 1, .int 4, .int 12, .int 32]) (ν3 ++ l1 ++ l2) := e2
  have e3' : d_totals [rF.o, .int 8] (ν3 ++ l1 ++ l2) = .ok (.tup [.int 1, .int 0, .int 1, .int 1, .int 1, .int 0, .int 1, .int 1]) (ν3 ++ l1 ++ l2 ++ l3) := e3
  have e4' : d_total [rO.o, .int 400] (ν3 ++ l1 ++ l2 ++ l3) = .ok (.int p) (ν3 ++ l1 ++ l2 ++ l3 ++ l4) := e4
  have e5' : d_total [rS.o, .int 400] (ν3 ++ l1 ++ l2 ++ l3 ++ l4) = .ok (.int (400 * p)) (ν3 ++ l1 ++ l2 ++ l3 ++ l4 ++ l5) := e5
  have fin : ∀ ν, eqO g_law false (.lst [.tup [.int 0, .int 1, .int 2, .int 4, .int 8], .tup [.int 0, .int 1, .int 4, .int 12, .int 32], .tup [.int 1, .int 0, .int 1, .int 1, .int 1, .int 0, .int 1, .int 1], .bl true, .bl true]) (.lst [.tup [.int 0, .int 1, .int 2, .int 4, .int 8], .tup [.int 0, .int 1, .int 4, .int 12, .int 32], .tup [.int 1, .int 0, .int 1, .int 1, .int 1, .int 0, .int 1, .int 1], .bl true, .bl true]) ν = .ok (.bl true) ν := fun ν => rfl
  have rg : ∀ ν, rg1 (.int 399) ν = .ok ((List.range 399).map nD) ν := fun ν => rg1_nat (n := 399) (by omega)
  refine ⟨ν3 ++ l1 ++ l2 ++ l3 ++ l4 ++ l5, ?_⟩
  simp only [k1_law]
  generalize hR : (List.range 399).map nD = R at pw rg
  simp [-List.append_assoc, m1, m2, m3, rg]
  refine (pw _).trans ?_
  simp [-List.append_assoc, k2_law, e1', e2', e3', e4', e5', m4, fin]
theorem law_holds (ns : List Int) (hns : ns.length ≤ 63) : ∃ μ, d_law [.frz (ns.map D.int)] [] = .ok (.bl true) μ := by
  obtain ⟨q, hq1, hq2⟩ : ∃ q : Nat, (if (if (ns.length : Int) < 5 then (ns.length : Int) else 5) > 1 then (if (ns.length : Int) < 5 then (ns.length : Int) else 5) else 1) = (q : Int) ∧ q ≤ 5 := by
    refine ⟨(if (if (ns.length : Int) < 5 then (ns.length : Int) else 5) > 1 then (if (ns.length : Int) < 5 then (ns.length : Int) else 5) else 1).toNat, ?_, ?_⟩ <;> (split <;> split <;> omega)
  obtain ⟨ρ', ν', ⟨y1, y8, rfl⟩, hr⟩ := cL_inv (u := fun d ρ => some (ρ.set 1 (some d))) (body := b1_law (k1_law fin0 fin1 fin1)) (K := k1_law fin0 fin1 fin1) (e := nD)
    (fun zs ρ ν => ∃ y1 y8, ρ = [some (.frz (ns.map D.int)), y1, none, none, none, none, none, none, y8]) (List.range q) [] [some (.frz (ns.map D.int)), none, none, none, none, none, none, none, none] [] ⟨none, none, rfl⟩
    (fun zs i ρ ν p ⟨y1, y8, e1⟩ => by
      subst e1
      have hi : i ∈ List.range q := p.subset (by simp)
      simp at hi
      obtain ⟨a, b, e⟩ := pot_ok (μ := ν) (ns := ns) (i := i) (by omega)
      have p0 : PotAt (ν ++ [.lst [.int a, .int b, .int 0]]) ν.length 0 := ⟨a, b, 0, by simp, by omega, by omega⟩
      obtain ⟨ν1, f1, p1⟩ := right_ok p0 (by omega)
      obtain ⟨ν2, f2, p2⟩ := right_ok p1 (by omega)
      exact ⟨[some (.frz (ns.map D.int)), some (nD i), none, none, none, none, none, none, some (.cell ν.length)], ν2, fun k => by simp [lpS, b1_law, e, f1, f2], some (nD i), some (.cell ν.length), rfl⟩)
  obtain ⟨ν, hE⟩ := law_end (μ := ν') (x0 := some (.frz (ns.map D.int))) (x1 := y1) (x2 := none) (x3 := none) (x4 := none) (x5 := none) (x6 := none) (x7 := none) (x8 := y8) (k := fin0) (kb := fin1) (kc := fin1)
  refine ⟨ν, ?_⟩
  rw [u_law]
  simp [p_law, hq1, rg1_nat (show q < 2 ^ 62 by omega)]
  exact hr.trans hE
end
end K12

set_option Elab.async false
set_option linter.all false
set_option maxRecDepth 100000
/-! Pu18: a table of defs. -/
namespace Pu
open PySem L2
/-- a name's def and its promise -/
def FnAt (P : Program) (w : World) (W : Wd) (mg : Str → Option Value) (base : Heap) (k : Nat) (e : Str × Nat × (List D → M D)) : Prop :=
  ∃ (f : Addr) (fd : FuncData) (ps : List Str), FnG P w W.K mg base k f fd ps (spOf W e.2.1 e.2.2) ∧ mg e.1 = some (.ref f) ∧ PySem.W.keepIn W.K (.ref f) = true ∧ Binds W.K fd ps []
theorem FnAt.mono {P : Program} {w : World} {W : Wd} {mg : Str → Option Value} {base : Heap} {j k : Nat} {e : Str × Nat × (List D → M D)} (h : FnAt P w W mg base j e) (hk : j ≤ k) : FnAt P w W mg base k e :=
  let ⟨f, fd, ps, h1, h2⟩ := h
  ⟨f, fd, ps, h1.mono hk, h2⟩
def AllAt (P : Program) (w : World) (W : Wd) (mg : Str → Option Value) (base : Heap) (k : Nat) : List (Str × Nat × (List D → M D)) → Prop
  | [] => True
  | e :: r => FnAt P w W mg base k e ∧ AllAt P w W mg base k r
theorem AllAt.get {P : Program} {w : World} {W : Wd} {mg : Str → Option Value} {base : Heap} {k : Nat} : ∀ {fs : List (Str × Nat × (List D → M D))}, AllAt P w W mg base k fs → ∀ x n F, fs.lookup x = some (n, F) → ∃ f fd ps, FnG P w W.K mg base k f fd ps (spOf W n F) ∧ mg x = some (.ref f) ∧ PySem.W.keepIn W.K (.ref f) = true ∧ Binds W.K fd ps []
  | [], _, x, n, F, h => by cases h
  | (y, e) :: r, ⟨h1, h2⟩, x, n, F, h => by
    rw [List.lookup_cons] at h
    cases q : x == y with
    | true =>
      rw [q] at h
      have e1 : x = y := beq_iff_eq.mp q
      have e2 : e = (n, F) := Option.some.inj h
      subst e1 e2
      exact h1
    | false =>
      rw [q] at h
      exact AllAt.get h2 x n F h
/-- the module's facts, but for its defs -/
structure GB (mg : Str → Option Value) (W : Wd) (G : Ctx) : Prop where
  glob : ∀ x d, G.glob x = some d → ∃ u v, mg x = some u ∧ RelV v u ∧ ∀ m, Den W m d v
  bl : ∀ x, G.isB x = true → mg x = none
  xc : ∀ x, G.xc x = true → mg x = some (.ref (W.ca x)) ∧ PySem.W.keepIn W.K (.ref (W.ca x)) = true ∧ PySem.W.excIn W.K (W.ca x) [.type "ValueError", .type "Exception", .type "BaseException", .type "object"] "ValueError.__new__" = true ∧
    PySem.W.subIn W.K (.ref (W.ca x)) (.type "BaseException") = some true ∧ PySem.W.typeIn W.K (.ref (W.ca x)) = some (.type "type")
  cat : ∀ c x b, G.cat c x = some b → mg c = some (.ref (W.ca c)) ∧ PySem.W.exmOne W.K (.ref (W.ca x)) (.ref (W.ca c)) = some b
theorem gok_of {P : Program} {w : World} {W : Wd} {mg : Str → Option Value} {base : Heap} {G : Ctx} {fs : List (Str × Nat × (List D → M D))} (B : GB mg W G) (ob : ObOk P w mg base W G) (hf : G.fn = fun x => fs.lookup x) (h : AllAt P w W mg base G.k fs) : GOk P w mg base W G :=
  ⟨B.glob, B.bl, fun x n F e => h.get x n F (by rw [hf] at e; exact e), B.xc, B.cat, ob⟩
theorem mem_look {x : Str} {d : D} : ∀ {l : List (Str × D)}, l.lookup x = some d → (x, d) ∈ l
  | [], h => by cases h
  | (y, e) :: r, h => by
    rw [List.lookup_cons] at h
    cases q : x == y with
    | true =>
      rw [q] at h
      have e1 : x = y := beq_iff_eq.mp q
      have e2 : e = d := Option.some.inj h
      subst e1 e2
      exact List.mem_cons_self
    | false =>
      rw [q] at h
      exact List.mem_cons_of_mem _ (mem_look h)
theorem glob_int {mg : Str → Option Value} {W : Wd} {x : Str} {i : Int} {t : Tok} (h : mg x = some (.int i t)) : ∃ u v, mg x = some u ∧ RelV v u ∧ ∀ m, Den W m (.int i) v := ⟨_, .int i, h, ⟨t, rfl⟩, fun _ => .int i⟩
theorem exm_of {K : PySem.W.Frag} {C S : Addr} {b : Bool} (h1 : PySem.W.subIn K (.ref S) (.type "BaseException") = some true) (h2 : PySem.W.isClsIn K S = true) (h3 : PySem.W.typeIn K (.ref S) = some (.type "type")) (h4 : PySem.W.subIn K (.ref C) (.ref S) = some b) : PySem.W.exmOne K (.ref C) (.ref S) = some b := by
  have q : (PySem.W.clsIn K S).isSome = true := h2
  unfold PySem.W.exmOne PySem.W.kitCls
  rw [h1, if_pos (by decide)]
  simp only [q, h3, h4]
  rfl
/-- no classes of ours -/
theorem ob_none {P : Program} {w : World} {W : Wd} {mg : Str → Option Value} {base : Heap} {G : Ctx} (h1 : G.fld = fun _ _ => false) (h2 : G.meth = fun _ _ => none) (h3 : G.make = fun _ => none)
    (h4 : G.dun = fun _ _ => none) (h5 : G.prop = fun _ _ => none) (h6 : G.ne = fun _ => false) (h7 : G.cmeth = fun _ _ => none) (h8 : G.cls = fun _ => false) (h9 : G.sub = fun _ _ => none) : ObOk P w mg base W G :=
  ⟨(fun C f e => by rw [h1] at e; cases e), (fun C m n F e => by rw [h2] at e; cases e), (fun C n F e => by rw [h3] at e; cases e), (fun C m n F e => by rw [h4] at e; cases e), (fun C m F e => by rw [h5] at e; cases e),
    (fun C e => by rw [h6] at e; cases e), (fun C m n F e => by rw [h7] at e; cases e), (fun C e => by rw [h8] at e; cases e), (fun C B b e => by rw [h9] at e; cases e)⟩
end Pu

set_option Elab.async false
set_option linter.all false
set_option maxRecDepth 100000
/-! Pu28: tables of methods; defs that call themselves. -/
namespace Pu
open PySem L2
abbrev Fn := Nat × (List D → M D)
theorem look_mem {α β : Type} [BEq α] [LawfulBEq α] {x : α} {d : β} : ∀ {l : List (α × β)}, l.lookup x = some d → (x, d) ∈ l
  | [], h => by cases h
  | (y, e) :: r, h => by
    rw [List.lookup_cons] at h
    cases q : x == y with
    | true =>
      rw [q] at h
      have e1 : x = y := beq_iff_eq.mp q
      have e2 : e = d := Option.some.inj h
      subst e1 e2
      exact List.mem_cons_self
    | false =>
      rw [q] at h
      exact List.mem_cons_of_mem _ (look_mem h)
/-- every entry of a table keeps its promise -/
def Each {α : Type} (p : α → Prop) : List α → Prop
  | [] => True
  | e :: r => p e ∧ Each p r
theorem Each.get {α : Type} {p : α → Prop} : ∀ {l : List α}, Each p l → ∀ e ∈ l, p e
  | [], _, e, h => by cases h
  | x :: r, ⟨h1, h2⟩, e, h => by
    rcases List.mem_cons.mp h with q | q
    · rw [q]; exact h1
    · exact h2.get e q
section
variable (P : Program) (w : World) (W : Wd) (mg : Str → Option Value) (base : Heap)
/-- a method -/
def MAt (j : Nat) (e : (Str × Str) × Fn) : Prop := ∃ (f : Addr) (fd : FuncData) (ps : List Str), Cls W.K (W.ca e.1.1) ∧ Meth W.K (W.ca e.1.1) e.1.2 f ∧ FnG P w W.K mg base j f fd ps (spOf W (e.2.1 + 1) e.2.2) ∧ Binds W.K fd ps [] ∧ PySem.W.fnIn W.K f = true
/-- a property -/
def PAt (j : Nat) (e : (Str × Str) × (List D → M D)) : Prop := ∃ (p f : Addr) (fd : FuncData) (ps : List Str), Cls W.K (W.ca e.1.1) ∧ PropOf W.K (W.ca e.1.1) e.1.2 p f ∧ FnG P w W.K mg base j f fd ps (spOf W 1 e.2) ∧ Binds W.K fd ps []
/-- an __init__ -/
def IAt (j : Nat) (e : Str × Fn) : Prop := mg e.1 = some (.ref (W.ca e.1)) ∧ ∃ (f : Addr) (fd : FuncData) (ps : List Str), L2.Mk W.K (W.ca e.1) f ∧ FnG P w W.K mg base j f fd ps (spOf W (e.2.1 + 1) e.2.2) ∧ Binds W.K fd ps []
/-- a class method -/
def CAt (j : Nat) (e : (Str × Str) × Fn) : Prop := ∃ (mc : Value) (p f : Addr) (fd : FuncData) (ps : List Str), ClX.CRead W.K (W.ca e.1.1) mc ∧ ClX.CMet W.K (W.ca e.1.1) mc e.1.2 p f ∧ FnG P w W.K mg base j f fd ps (spOf W (e.2.1 + 1) e.2.2) ∧ Binds W.K fd ps []
def MAll (k : Nat) := Each fun e => ∃ j, j ≤ k ∧ MAt P w W mg base j e
def DAll (k : Nat) := Each fun e => ∃ j, j + 2 ≤ k ∧ MAt P w W mg base j e
def PAll (k : Nat) := Each fun e => ∃ j, j + 1 ≤ k ∧ PAt P w W mg base j e
def IAll (k : Nat) := Each fun e => ∃ j, j + 1 ≤ k ∧ IAt P w W mg base j e
def CAll (k : Nat) := Each fun e => ∃ j, j ≤ k ∧ CAt P w W mg base j e
end
/-- the classes' own facts -/
structure OB (W : Wd) (G : Ctx) : Prop where
  fld : ∀ C f, G.fld C f = true → Cls W.K (W.ca C) ∧ NoAttr W.K (W.ca C) f
  ne : ∀ C, G.ne C = true → PySem.W.findIn W.K (.ref (W.ca C)) "__ne__" = some (some (.builtin "object.__ne__")) ∧ PySem.W.mroIn W.K (W.ca C) (.type "object") = some true
  cls : ∀ C, G.cls C = true → Cls W.K (W.ca C) ∧ ClsIs W.K (W.ca C) ∧ ∀ t ∈ ["NoneType", "bool", "int", "str", "tuple", "list", "dict"], PySem.W.kitOne W.K (.type t) (.ref (W.ca C)) = some false
  sub : ∀ C B b, G.sub C B = some b → PySem.W.kitOne W.K (.ref (W.ca C)) (.ref (W.ca B)) = some b
section
variable {P : Program} {w : World} {W : Wd} {mg : Str → Option Value} {base : Heap} {G : Ctx}
theorem ob_of {ms ds : List ((Str × Str) × Fn)} {pr : List ((Str × Str) × (List D → M D))} {mk : List (Str × Fn)} {cm : List ((Str × Str) × Fn)} (o : OB W G) (h1 : G.meth = fun C m => ms.lookup (C, m)) (h2 : G.dun = fun C m => ds.lookup (C, m)) (h3 : G.prop = fun C m => pr.lookup (C, m)) (h4 : G.make = fun C => mk.lookup C) (h5 : G.cmeth = fun C m => cm.lookup (C, m))
    (a1 : MAll P w W mg base G.k ms) (a2 : DAll P w W mg base G.k ds) (a3 : PAll P w W mg base G.k pr) (a4 : IAll P w W mg base G.k mk) (a5 : CAll P w W mg base G.k cm) : ObOk P w mg base W G := by
  refine ⟨o.fld, fun C m n F e => ?_, fun C n F e => ?_, fun C m n F e => ?_, fun C m F e => ?_, o.ne, fun C m n F e => ?_, o.cls, o.sub⟩
  · rw [h1] at e
    obtain ⟨j, hj, f, fd, ps, c, hm, FG, bs, _⟩ := a1.get _ (look_mem e)
    exact ⟨f, fd, ps, c, hm, FG.mono hj, bs⟩
  · rw [h4] at e
    obtain ⟨j, hj, hm, f, fd, ps, M, FG, bs⟩ := a4.get _ (look_mem e)
    exact ⟨hm, f, fd, ps, j, hj, M, FG, bs⟩
  · rw [h2] at e
    obtain ⟨j, hj, f, fd, ps, c, hm, FG, bs, fi⟩ := a2.get _ (look_mem e)
    exact ⟨f, fd, ps, j, hj, c, hm, FG, bs, fi⟩
  · rw [h3] at e
    obtain ⟨j, hj, p, f, fd, ps, c, hp, FG, bs⟩ := a3.get _ (look_mem e)
    exact ⟨p, f, fd, ps, j, hj, c, hp, FG, bs⟩
  · rw [h5] at e
    obtain ⟨j, hj, mc, p, f, fd, ps, rd, cm, FG, bs⟩ := a5.get _ (look_mem e)
    exact ⟨mc, p, f, fd, ps, rd, cm, FG.mono hj, bs⟩
/-- the start of a def that calls itself: nothing is promised -/
theorem fnG_none {k : Nat} {f : Addr} {fd : FuncData} {ps : List Str} {K : PySem.W.Frag} : FnG P w K mg base k f fd ps (spOf W ps.length fun _ => stuck) :=
  ⟨fun vs H Q E h => h.1, fun A out s H args us vs Q E _ _ _ _ _ h => by
    obtain ⟨_, ds, m, _, _, _, w⟩ := h
    exact (show False from w).elim⟩
theorem glob_str {x : Str} {i : Str} {t : Tok} (h : mg x = some (.str i t)) : ∃ u v, mg x = some u ∧ RelV v u ∧ ∀ m, Den W m (.str i) v := ⟨_, .str i, h, ⟨t, rfl⟩, fun _ => .str i⟩
theorem glob_cls {x : Str} (h : mg x = some (.ref (W.ca x))) : ∃ u v, mg x = some u ∧ RelV v u ∧ ∀ m, Den W m (.adr x) v := ⟨_, .ref (W.ca x), h, rfl, fun _ => .adr x⟩
theorem kit_self {K : PySem.W.Frag} {C : Addr} : PySem.W.kitOne K (.ref C) (.ref C) = some true := by
  unfold PySem.W.kitOne
  rw [if_pos (beq_self_eq_true _)]
theorem kit_no {K : PySem.W.Frag} {C : Addr} {t : String} (ht : t ∈ ["NoneType", "bool", "int", "str", "tuple", "list", "dict"]) (h1 : PySem.W.isClsIn K C = true) (h2 : PySem.W.typeIn K (.ref C) = some (.type "type")) : PySem.W.kitOne K (.type t) (.ref C) = some false := by
  have q : (PySem.W.clsIn K C).isSome = true := h1
  have e : (Value.type t == Value.ref C) = false := by
    cases z : (Value.type t == Value.ref C) with
    | false => rfl
    | true => cases beq_iff_eq.mp z
  unfold PySem.W.kitOne
  rw [e, if_neg Bool.false_ne_true]
  show (if ((PySem.W.clsIn K C).isSome && PySem.W.typeIn K (.ref C) == some (.type "type")) = true then PySem.W.subIn K (.type t) (.ref C) else none) = some false
  rw [q, h2, if_pos (by decide)]
  exact sub_ty ht
theorem fnIn_of {K : PySem.W.Frag} {f : Addr} {oc : Value} {od : Option Addr} {fd : FuncData} {sl : Array (Option Value)} (l : K.lookup f = some ⟨oc, od, .func fd, sl⟩) : PySem.W.fnIn K f = true := by
  unfold PySem.W.fnIn
  rw [l]
end
end Pu

set_option Elab.async false
set_option linter.all false
set_option maxRecDepth 100000
/-! k12: every def by its den; the law's own head (printed by lawgen2.py). -/
namespace K12
open PySem L2 Pu
abbrev AllB (mg : Str → Option Value) (W : Wd) : Prop := ∀ st N k fs ms ds pr mk cm, GB mg W (cx st N k fs ms ds pr mk cm) ∧ OB W (cx st N k fs ms ds pr mk cm)
section
variable {P : Program} {w : World} {W : Wd} {mg : Str → Option Value} {base : Heap}
theorem sc__law_pot : FnScope ["_law_script", "_law_at", "_law_cell", "_law_great", "_law_blend"] ["_law_script", "_law_at"] (defScope s__law_pot) := ⟨rfl, rfl, rfl, by decide +kernel, rfl, by decide +kernel, by decide +kernel⟩
theorem sc_require_reader : FnScope ["value"] ["value"] (defScope s_require_reader) := ⟨rfl, rfl, rfl, by decide +kernel, rfl, by decide +kernel, by decide +kernel⟩
theorem sc_is_integer : FnScope ["value"] ["value"] (defScope s_is_integer) := ⟨rfl, rfl, rfl, by decide +kernel, rfl, by decide +kernel, by decide +kernel⟩
theorem sc_is_integer_within : FnScope ["value", "low", "high"] ["value", "low", "high"] (defScope s_is_integer_within) := ⟨rfl, rfl, rfl, by decide +kernel, rfl, by decide +kernel, by decide +kernel⟩
theorem sc_require_length : FnScope ["value"] ["value"] (defScope s_require_length) := ⟨rfl, rfl, rfl, by decide +kernel, rfl, by decide +kernel, by decide +kernel⟩
theorem sc_first_row_of : FnScope ["reader", "state"] ["reader"] (defScope s_first_row_of) := ⟨rfl, rfl, rfl, by decide +kernel, rfl, by decide +kernel, by decide +kernel⟩
theorem sc_stepped : FnScope ["reader", "row", "found", "state", "letter", "target"] ["reader", "row"] (defScope s_stepped) := ⟨rfl, rfl, rfl, by decide +kernel, rfl, by decide +kernel, by decide +kernel⟩
theorem sc_end_of : FnScope ["reader", "row", "state"] ["reader", "row"] (defScope s_end_of) := ⟨rfl, rfl, rfl, by decide +kernel, rfl, by decide +kernel, by decide +kernel⟩
theorem sc_totals_of : FnScope ["reader", "size", "length", "row", "found"] ["reader", "size"] (defScope s_totals_of) := ⟨rfl, rfl, rfl, by decide +kernel, rfl, by decide +kernel, by decide +kernel⟩
theorem sc_totals : FnScope ["reader", "size"] ["reader", "size"] (defScope s_totals) := ⟨rfl, rfl, rfl, by decide +kernel, rfl, by decide +kernel, by decide +kernel⟩
theorem sc_total : FnScope ["reader", "size"] ["reader", "size"] (defScope s_total) := ⟨rfl, rfl, rfl, by decide +kernel, rfl, by decide +kernel, by decide +kernel⟩
theorem sc__law_bit : FnScope ["_law_pot_here", "_law_much", "_law_first", "_law_later", "_law_found"] ["_law_pot_here", "_law_much"] (defScope s__law_bit) := ⟨rfl, rfl, rfl, by decide +kernel, rfl, by decide +kernel, by decide +kernel⟩
theorem sc__law_pick : FnScope ["_law_pot_here", "_law_items"] ["_law_pot_here", "_law_items"] (defScope s__law_pick) := ⟨rfl, rfl, rfl, by decide +kernel, rfl, by decide +kernel, by decide +kernel⟩
theorem sc__law_signs : FnScope ["_law_pot_here"] ["_law_pot_here"] (defScope s__law_signs) := ⟨rfl, rfl, rfl, by decide +kernel, rfl, by decide +kernel, by decide +kernel⟩
theorem sc__law_dealt : FnScope ["_law_pot_here", "_law_items", "_law_waits", "_law_turn"] ["_law_pot_here", "_law_items"] (defScope s__law_dealt) := ⟨rfl, rfl, rfl, by decide +kernel, rfl, by decide +kernel, by decide +kernel⟩
theorem sc__law_some_of : FnScope ["_law_pot_here", "_law_items", "_law_least", "_law_much"] ["_law_pot_here", "_law_items", "_law_least"] (defScope s__law_some_of) := ⟨rfl, rfl, rfl, by decide +kernel, rfl, by decide +kernel, by decide +kernel⟩
theorem sc__law_told_reader : FnScope ["_law_signs_here", "_law_much", "_law_heads", "_law_tails", "_law_links", "_law_found"] ["_law_signs_here", "_law_much", "_law_heads", "_law_tails", "_law_links"] (defScope s__law_told_reader) := ⟨rfl, rfl, rfl, by decide +kernel, rfl, by decide +kernel, by decide +kernel⟩
theorem sc__law_any_reader : FnScope ["_law_pot_here", "_law_signs_here", "_law_most", "_law_count", "_law_links", "_law_spot", "_law_heads", "_law_tails", "_law_sign", "_law_turn"] ["_law_pot_here", "_law_signs_here", "_law_most"] (defScope s__law_any_reader) := ⟨rfl, rfl, rfl, by decide +kernel, rfl, by decide +kernel, by decide +kernel⟩
theorem sc_are_small : FnScope ["text", "sign"] ["text"] (defScope s_are_small) := ⟨rfl, rfl, rfl, by decide +kernel, rfl, by decide +kernel, by decide +kernel⟩
theorem sc_is_ascending : FnScope ["values", "one", "other"] ["values"] (defScope s_is_ascending) := ⟨rfl, rfl, rfl, by decide +kernel, rfl, by decide +kernel, by decide +kernel⟩
theorem sc_is_letters : FnScope ["value"] ["value"] (defScope s_is_letters) := ⟨rfl, rfl, rfl, by decide +kernel, rfl, by decide +kernel, by decide +kernel⟩
theorem sc_require_letters : FnScope ["value"] ["value"] (defScope s_require_letters) := ⟨rfl, rfl, rfl, by decide +kernel, rfl, by decide +kernel, by decide +kernel⟩
theorem sc_moves_of : FnScope ["letters", "size", "arrows", "found", "state", "letter", "other", "rows", "others"] ["letters", "size", "arrows"] (defScope s_moves_of) := ⟨rfl, rfl, rfl, by decide +kernel, rfl, by decide +kernel, by decide +kernel⟩
theorem sc_is_number_set : FnScope ["value", "size", "number"] ["value", "size"] (defScope s_is_number_set) := ⟨rfl, rfl, rfl, by decide +kernel, rfl, by decide +kernel, by decide +kernel⟩
theorem sc_is_text_within : FnScope ["letters", "value", "sign"] ["letters", "value"] (defScope s_is_text_within) := ⟨rfl, rfl, rfl, by decide +kernel, rfl, by decide +kernel, by decide +kernel⟩
theorem sc_is_letter_of : FnScope ["letters", "value"] ["letters", "value"] (defScope s_is_letter_of) := ⟨rfl, rfl, rfl, by decide +kernel, rfl, by decide +kernel, by decide +kernel⟩
theorem sc_is_arrow : FnScope ["letters", "size", "value"] ["letters", "size", "value"] (defScope s_is_arrow) := ⟨rfl, rfl, rfl, by decide +kernel, rfl, by decide +kernel, by decide +kernel⟩
theorem sc_are_arrows : FnScope ["letters", "size", "value", "arrow"] ["letters", "size", "value"] (defScope s_are_arrows) := ⟨rfl, rfl, rfl, by decide +kernel, rfl, by decide +kernel, by decide +kernel⟩
theorem sc_Reader___init__ : FnScope ["self", "letters", "size", "firsts", "lasts", "arrows"] ["self", "letters", "size", "firsts", "lasts", "arrows"] (defScope s_Reader___init__) := ⟨rfl, rfl, rfl, by decide +kernel, rfl, by decide +kernel, by decide +kernel⟩
theorem sc__law_made_reader : FnScope ["_law_reader"] ["_law_reader"] (defScope s__law_made_reader) := ⟨rfl, rfl, rfl, by decide +kernel, rfl, by decide +kernel, by decide +kernel⟩
theorem sc_require_same : FnScope ["one", "other"] ["one", "other"] (defScope s_require_same) := ⟨rfl, rfl, rfl, by decide +kernel, rfl, by decide +kernel, by decide +kernel⟩
theorem sc_require_size : FnScope ["size"] ["size"] (defScope s_require_size) := ⟨rfl, rfl, rfl, by decide +kernel, rfl, by decide +kernel, by decide +kernel⟩
theorem sc_pairs_of : FnScope ["ones", "others", "size", "one", "other"] ["ones", "others", "size"] (defScope s_pairs_of) := ⟨rfl, rfl, rfl, by decide +kernel, rfl, by decide +kernel, by decide +kernel⟩
theorem sc_both_of : FnScope ["one", "other", "size", "found", "state", "letter", "there", "moves", "second", "firsts", "lasts", "last"] ["one", "other"] (defScope s_both_of) := ⟨rfl, rfl, rfl, by decide +kernel, rfl, by decide +kernel, by decide +kernel⟩
theorem sc_both : FnScope ["one", "other"] ["one", "other"] (defScope s_both) := ⟨rfl, rfl, rfl, by decide +kernel, rfl, by decide +kernel, by decide +kernel⟩
theorem sc__law_head_line : FnScope ["_law_reader", "_law_spot"] ["_law_reader"] (defScope s__law_head_line) := ⟨rfl, rfl, rfl, by decide +kernel, rfl, by decide +kernel, by decide +kernel⟩
theorem sc__law_tail_sum : FnScope ["_law_reader", "_law_line", "_law_spot"] ["_law_reader", "_law_line"] (defScope s__law_tail_sum) := ⟨rfl, rfl, rfl, by decide +kernel, rfl, by decide +kernel, by decide +kernel⟩
theorem sc__law_put : FnScope ["_law_reader", "_law_line", "_law_sign", "_law_found", "_law_here", "_law_mark", "_law_there"] ["_law_reader", "_law_line", "_law_sign"] (defScope s__law_put) := ⟨rfl, rfl, rfl, by decide +kernel, rfl, by decide +kernel, by decide +kernel⟩
theorem sc__law_ways_of : FnScope ["_law_reader", "_law_word", "_law_line", "_law_sign"] ["_law_reader", "_law_word"] (defScope s__law_ways_of) := ⟨rfl, rfl, rfl, by decide +kernel, rfl, by decide +kernel, by decide +kernel⟩
theorem sc__law_step_line : FnScope ["_law_reader", "_law_line", "_law_found", "_law_here", "_law_mark", "_law_there"] ["_law_reader", "_law_line"] (defScope s__law_step_line) := ⟨rfl, rfl, rfl, by decide +kernel, rfl, by decide +kernel, by decide +kernel⟩
theorem sc__law_sums_of : FnScope ["_law_reader", "_law_much", "_law_turn", "_law_line", "_law_found"] ["_law_reader", "_law_much"] (defScope s__law_sums_of) := ⟨rfl, rfl, rfl, by decide +kernel, rfl, by decide +kernel, by decide +kernel⟩
theorem sc__law_words_of : FnScope ["_law_signs_here", "_law_much", "_law_found", "_law_turn", "_law_longer", "_law_word", "_law_sign"] ["_law_signs_here", "_law_much"] (defScope s__law_words_of) := ⟨rfl, rfl, rfl, by decide +kernel, rfl, by decide +kernel, by decide +kernel⟩
theorem sc_Reader_over : FnScope ["self", "letters", "letter"] ["self", "letters"] (defScope s_Reader_over) := ⟨rfl, rfl, rfl, by decide +kernel, rfl, by decide +kernel, by decide +kernel⟩
theorem sc__law_right : FnScope ["_law_pot_here", "_law_signs_here", "_law_reader", "_law_due", "_law_far_on", "_law_every", "_law_made", "_law_most", "_law_much", "_law_word", "_law_sign"] ["_law_pot_here"] (defScope s__law_right) := ⟨rfl, rfl, rfl, by decide +kernel, rfl, by decide +kernel, by decide +kernel⟩
theorem sc_law : FnScope ["_law_script", "_law_at", "_law_odd", "_law_some", "_law_four", "_law_power", "_law_turn", "_law_told", "_law_pot_here"] ["_law_script"] (defScope s_law) := ⟨rfl, rfl, rfl, by decide +kernel, rfl, by decide +kernel, by decide +kernel⟩
theorem ok__law_pot (B : AllB mg W) {f : Addr} {fd : FuncData} (F : Fun W.K "_law_pot" "_law_pot" s__law_pot f fd) (b : Binds W.K fd ["_law_script", "_law_at"] []) (m : mg "_law_pot" = some (.ref f)) : FnAt P w W mg base 1 ("_law_pot", 2, d__law_pot) :=
  ⟨f, fd, ["_law_script", "_law_at"], fn_den (G := g__law_pot) 40 F sc__law_pot rfl rfl rfl (gok_of (B _ _ _ _ _ _ _ _ _).1 (ob_of (B _ _ _ _ _ _ _ _ _).2 rfl rfl rfl rfl rfl trivial trivial trivial trivial trivial) rfl trivial), m, F.kp, b⟩
theorem ok_require_reader (B : AllB mg W) {f : Addr} {fd : FuncData} (F : Fun W.K "require_reader" "require_reader" s_require_reader f fd) (b : Binds W.K fd ["value"] []) (m : mg "require_reader" = some (.ref f)) : FnAt P w W mg base 1 ("require_reader", 1, d_require_reader) :=
  ⟨f, fd, ["value"], fn_den (G := g_require_reader) 40 F sc_require_reader rfl rfl rfl (gok_of (B _ _ _ _ _ _ _ _ _).1 (ob_of (B _ _ _ _ _ _ _ _ _).2 rfl rfl rfl rfl rfl trivial trivial trivial trivial trivial) rfl trivial), m, F.kp, b⟩
theorem ok_is_integer (B : AllB mg W) {f : Addr} {fd : FuncData} (F : Fun W.K "is_integer" "is_integer" s_is_integer f fd) (b : Binds W.K fd ["value"] []) (m : mg "is_integer" = some (.ref f)) : FnAt P w W mg base 1 ("is_integer", 1, d_is_integer) :=
  ⟨f, fd, ["value"], fn_den (G := g_is_integer) 40 F sc_is_integer rfl rfl rfl (gok_of (B _ _ _ _ _ _ _ _ _).1 (ob_of (B _ _ _ _ _ _ _ _ _).2 rfl rfl rfl rfl rfl trivial trivial trivial trivial trivial) rfl trivial), m, F.kp, b⟩
theorem ok_is_integer_within (B : AllB mg W) {f : Addr} {fd : FuncData} (F : Fun W.K "is_integer_within" "is_integer_within" s_is_integer_within f fd) (b : Binds W.K fd ["value", "low", "high"] []) (m : mg "is_integer_within" = some (.ref f)) (h0 : FnAt P w W mg base 1 ("is_integer", 1, d_is_integer)) : FnAt P w W mg base 2 ("is_integer_within", 3, d_is_integer_within) :=
  ⟨f, fd, ["value", "low", "high"], fn_den (G := g_is_integer_within) 40 F sc_is_integer_within rfl rfl rfl (gok_of (B _ _ _ _ _ _ _ _ _).1 (ob_of (B _ _ _ _ _ _ _ _ _).2 rfl rfl rfl rfl rfl trivial trivial trivial trivial trivial) rfl ⟨h0.mono (show 1 ≤ 1 by omega), trivial⟩), m, F.kp, b⟩
theorem ok_require_length (B : AllB mg W) {f : Addr} {fd : FuncData} (F : Fun W.K "require_length" "require_length" s_require_length f fd) (b : Binds W.K fd ["value"] []) (m : mg "require_length" = some (.ref f)) (h0 : FnAt P w W mg base 2 ("is_integer_within", 3, d_is_integer_within)) : FnAt P w W mg base 3 ("require_length", 1, d_require_length) :=
  ⟨f, fd, ["value"], fn_den (G := g_require_length) 40 F sc_require_length rfl rfl rfl (gok_of (B _ _ _ _ _ _ _ _ _).1 (ob_of (B _ _ _ _ _ _ _ _ _).2 rfl rfl rfl rfl rfl trivial trivial trivial trivial trivial) rfl ⟨h0.mono (show 2 ≤ 2 by omega), trivial⟩), m, F.kp, b⟩
theorem ok_first_row_of (B : AllB mg W) {f : Addr} {fd : FuncData} (F : Fun W.K "first_row_of" "first_row_of" s_first_row_of f fd) (b : Binds W.K fd ["reader"] []) (m : mg "first_row_of" = some (.ref f)) : FnAt P w W mg base 1 ("first_row_of", 1, d_first_row_of) :=
  ⟨f, fd, ["reader"], fn_den (G := g_first_row_of) 40 F sc_first_row_of rfl rfl rfl (gok_of (B _ _ _ _ _ _ _ _ _).1 (ob_of (B _ _ _ _ _ _ _ _ _).2 rfl rfl rfl rfl rfl trivial trivial trivial trivial trivial) rfl trivial), m, F.kp, b⟩
theorem ok_stepped (B : AllB mg W) {f : Addr} {fd : FuncData} (F : Fun W.K "stepped" "stepped" s_stepped f fd) (b : Binds W.K fd ["reader", "row"] []) (m : mg "stepped" = some (.ref f)) : FnAt P w W mg base 1 ("stepped", 2, d_stepped) :=
  ⟨f, fd, ["reader", "row"], fn_den (G := g_stepped) 40 F sc_stepped rfl rfl rfl (gok_of (B _ _ _ _ _ _ _ _ _).1 (ob_of (B _ _ _ _ _ _ _ _ _).2 rfl rfl rfl rfl rfl trivial trivial trivial trivial trivial) rfl trivial), m, F.kp, b⟩
theorem ok_end_of (B : AllB mg W) {f : Addr} {fd : FuncData} (F : Fun W.K "end_of" "end_of" s_end_of f fd) (b : Binds W.K fd ["reader", "row"] []) (m : mg "end_of" = some (.ref f)) : FnAt P w W mg base 1 ("end_of", 2, d_end_of) :=
  ⟨f, fd, ["reader", "row"], fn_den (G := g_end_of) 40 F sc_end_of rfl rfl rfl (gok_of (B _ _ _ _ _ _ _ _ _).1 (ob_of (B _ _ _ _ _ _ _ _ _).2 rfl rfl rfl rfl rfl trivial trivial trivial trivial trivial) rfl trivial), m, F.kp, b⟩
theorem ok_totals_of (B : AllB mg W) {f : Addr} {fd : FuncData} (F : Fun W.K "totals_of" "totals_of" s_totals_of f fd) (b : Binds W.K fd ["reader", "size"] []) (m : mg "totals_of" = some (.ref f)) (h0 : FnAt P w W mg base 1 ("first_row_of", 1, d_first_row_of)) (h1 : FnAt P w W mg base 1 ("stepped", 2, d_stepped)) (h2 : FnAt P w W mg base 1 ("end_of", 2, d_end_of)) : FnAt P w W mg base 2 ("totals_of", 2, d_totals_of) :=
  ⟨f, fd, ["reader", "size"], fn_den (G := g_totals_of) 40 F sc_totals_of rfl rfl rfl (gok_of (B _ _ _ _ _ _ _ _ _).1 (ob_of (B _ _ _ _ _ _ _ _ _).2 rfl rfl rfl rfl rfl trivial trivial trivial trivial trivial) rfl ⟨h0.mono (show 1 ≤ 1 by omega), h1.mono (show 1 ≤ 1 by omega), h2.mono (show 1 ≤ 1 by omega), trivial⟩), m, F.kp, b⟩
theorem ok_totals (B : AllB mg W) {f : Addr} {fd : FuncData} (F : Fun W.K "totals" "totals" s_totals f fd) (b : Binds W.K fd ["reader", "size"] []) (m : mg "totals" = some (.ref f)) (h0 : FnAt P w W mg base 1 ("require_reader", 1, d_require_reader)) (h1 : FnAt P w W mg base 3 ("require_length", 1, d_require_length)) (h2 : FnAt P w W mg base 2 ("totals_of", 2, d_totals_of)) : FnAt P w W mg base 4 ("totals", 2, d_totals) :=
  ⟨f, fd, ["reader", "size"], fn_den (G := g_totals) 40 F sc_totals rfl rfl rfl (gok_of (B _ _ _ _ _ _ _ _ _).1 (ob_of (B _ _ _ _ _ _ _ _ _).2 rfl rfl rfl rfl rfl trivial trivial trivial trivial trivial) rfl ⟨h0.mono (show 1 ≤ 3 by omega), h1.mono (show 3 ≤ 3 by omega), h2.mono (show 2 ≤ 3 by omega), trivial⟩), m, F.kp, b⟩
theorem ok_total (B : AllB mg W) {f : Addr} {fd : FuncData} (F : Fun W.K "total" "total" s_total f fd) (b : Binds W.K fd ["reader", "size"] []) (m : mg "total" = some (.ref f)) (h0 : FnAt P w W mg base 1 ("require_reader", 1, d_require_reader)) (h1 : FnAt P w W mg base 3 ("require_length", 1, d_require_length)) (h2 : FnAt P w W mg base 2 ("totals_of", 2, d_totals_of)) : FnAt P w W mg base 4 ("total", 2, d_total) :=
  ⟨f, fd, ["reader", "size"], fn_den (G := g_total) 40 F sc_total rfl rfl rfl (gok_of (B _ _ _ _ _ _ _ _ _).1 (ob_of (B _ _ _ _ _ _ _ _ _).2 rfl rfl rfl rfl rfl trivial trivial trivial trivial trivial) rfl ⟨h0.mono (show 1 ≤ 3 by omega), h1.mono (show 3 ≤ 3 by omega), h2.mono (show 2 ≤ 3 by omega), trivial⟩), m, F.kp, b⟩
theorem ok__law_bit (B : AllB mg W) {f : Addr} {fd : FuncData} (F : Fun W.K "_law_bit" "_law_bit" s__law_bit f fd) (b : Binds W.K fd ["_law_pot_here", "_law_much"] []) (m : mg "_law_bit" = some (.ref f)) : FnAt P w W mg base 1 ("_law_bit", 2, d__law_bit) :=
  ⟨f, fd, ["_law_pot_here", "_law_much"], fn_den (G := g__law_bit) 40 F sc__law_bit rfl rfl rfl (gok_of (B _ _ _ _ _ _ _ _ _).1 (ob_of (B _ _ _ _ _ _ _ _ _).2 rfl rfl rfl rfl rfl trivial trivial trivial trivial trivial) rfl trivial), m, F.kp, b⟩
theorem ok__law_pick (B : AllB mg W) {f : Addr} {fd : FuncData} (F : Fun W.K "_law_pick" "_law_pick" s__law_pick f fd) (b : Binds W.K fd ["_law_pot_here", "_law_items"] []) (m : mg "_law_pick" = some (.ref f)) (h0 : FnAt P w W mg base 1 ("_law_bit", 2, d__law_bit)) : FnAt P w W mg base 2 ("_law_pick", 2, d__law_pick) :=
  ⟨f, fd, ["_law_pot_here", "_law_items"], fn_den (G := g__law_pick) 40 F sc__law_pick rfl rfl rfl (gok_of (B _ _ _ _ _ _ _ _ _).1 (ob_of (B _ _ _ _ _ _ _ _ _).2 rfl rfl rfl rfl rfl trivial trivial trivial trivial trivial) rfl ⟨h0.mono (show 1 ≤ 1 by omega), trivial⟩), m, F.kp, b⟩
theorem ok__law_signs (B : AllB mg W) {f : Addr} {fd : FuncData} (F : Fun W.K "_law_signs" "_law_signs" s__law_signs f fd) (b : Binds W.K fd ["_law_pot_here"] []) (m : mg "_law_signs" = some (.ref f)) (h0 : FnAt P w W mg base 2 ("_law_pick", 2, d__law_pick)) : FnAt P w W mg base 3 ("_law_signs", 1, d__law_signs) :=
  ⟨f, fd, ["_law_pot_here"], fn_den (G := g__law_signs) 40 F sc__law_signs rfl rfl rfl (gok_of (B _ _ _ _ _ _ _ _ _).1 (ob_of (B _ _ _ _ _ _ _ _ _).2 rfl rfl rfl rfl rfl trivial trivial trivial trivial trivial) rfl ⟨h0.mono (show 2 ≤ 2 by omega), trivial⟩), m, F.kp, b⟩
theorem ok__law_dealt (B : AllB mg W) {f : Addr} {fd : FuncData} (F : Fun W.K "_law_dealt" "_law_dealt" s__law_dealt f fd) (b : Binds W.K fd ["_law_pot_here", "_law_items"] []) (m : mg "_law_dealt" = some (.ref f)) (h0 : FnAt P w W mg base 1 ("_law_bit", 2, d__law_bit)) : FnAt P w W mg base 2 ("_law_dealt", 2, d__law_dealt) :=
  ⟨f, fd, ["_law_pot_here", "_law_items"], fn_den (G := g__law_dealt) 40 F sc__law_dealt rfl rfl rfl (gok_of (B _ _ _ _ _ _ _ _ _).1 (ob_of (B _ _ _ _ _ _ _ _ _).2 rfl rfl rfl rfl rfl trivial trivial trivial trivial trivial) rfl ⟨h0.mono (show 1 ≤ 1 by omega), trivial⟩), m, F.kp, b⟩
theorem ok__law_some_of (B : AllB mg W) {f : Addr} {fd : FuncData} (F : Fun W.K "_law_some_of" "_law_some_of" s__law_some_of f fd) (b : Binds W.K fd ["_law_pot_here", "_law_items", "_law_least"] []) (m : mg "_law_some_of" = some (.ref f)) (h0 : FnAt P w W mg base 1 ("_law_bit", 2, d__law_bit)) (h1 : FnAt P w W mg base 2 ("_law_dealt", 2, d__law_dealt)) : FnAt P w W mg base 3 ("_law_some_of", 3, d__law_some_of) :=
  ⟨f, fd, ["_law_pot_here", "_law_items", "_law_least"], fn_den (G := g__law_some_of) 40 F sc__law_some_of rfl rfl rfl (gok_of (B _ _ _ _ _ _ _ _ _).1 (ob_of (B _ _ _ _ _ _ _ _ _).2 rfl rfl rfl rfl rfl trivial trivial trivial trivial trivial) rfl ⟨h0.mono (show 1 ≤ 2 by omega), h1.mono (show 2 ≤ 2 by omega), trivial⟩), m, F.kp, b⟩
theorem ok__law_told_reader (B : AllB mg W) {f : Addr} {fd : FuncData} (F : Fun W.K "_law_told_reader" "_law_told_reader" s__law_told_reader f fd) (b : Binds W.K fd ["_law_signs_here", "_law_much", "_law_heads", "_law_tails", "_law_links"] []) (m : mg "_law_told_reader" = some (.ref f)) : FnAt P w W mg base 1 ("_law_told_reader", 5, d__law_told_reader) :=
  ⟨f, fd, ["_law_signs_here", "_law_much", "_law_heads", "_law_tails", "_law_links"], fn_den (G := g__law_told_reader) 40 F sc__law_told_reader rfl rfl rfl (gok_of (B _ _ _ _ _ _ _ _ _).1 (ob_of (B _ _ _ _ _ _ _ _ _).2 rfl rfl rfl rfl rfl trivial trivial trivial trivial trivial) rfl trivial), m, F.kp, b⟩
theorem ok__law_any_reader (B : AllB mg W) {f : Addr} {fd : FuncData} (F : Fun W.K "_law_any_reader" "_law_any_reader" s__law_any_reader f fd) (b : Binds W.K fd ["_law_pot_here", "_law_signs_here", "_law_most"] []) (m : mg "_law_any_reader" = some (.ref f)) (h0 : FnAt P w W mg base 3 ("_law_some_of", 3, d__law_some_of)) (h1 : FnAt P w W mg base 1 ("_law_told_reader", 5, d__law_told_reader)) (h2 : FnAt P w W mg base 1 ("_law_bit", 2, d__law_bit)) (h3 : FnAt P w W mg base 2 ("_law_pick", 2, d__law_pick)) : FnAt P w W mg base 4 ("_law_any_reader", 3, d__law_any_reader) :=
  ⟨f, fd, ["_law_pot_here", "_law_signs_here", "_law_most"], fn_den (G := g__law_any_reader) 40 F sc__law_any_reader rfl rfl rfl (gok_of (B _ _ _ _ _ _ _ _ _).1 (ob_of (B _ _ _ _ _ _ _ _ _).2 rfl rfl rfl rfl rfl trivial trivial trivial trivial trivial) rfl ⟨h0.mono (show 3 ≤ 3 by omega), h1.mono (show 1 ≤ 3 by omega), h2.mono (show 1 ≤ 3 by omega), h3.mono (show 2 ≤ 3 by omega), trivial⟩), m, F.kp, b⟩
theorem ok_are_small (B : AllB mg W) {f : Addr} {fd : FuncData} (F : Fun W.K "are_small" "are_small" s_are_small f fd) (b : Binds W.K fd ["text"] []) (m : mg "are_small" = some (.ref f)) : FnAt P w W mg base 1 ("are_small", 1, d_are_small) :=
  ⟨f, fd, ["text"], fn_den (G := g_are_small) 40 F sc_are_small rfl rfl rfl (gok_of (B _ _ _ _ _ _ _ _ _).1 (ob_of (B _ _ _ _ _ _ _ _ _).2 rfl rfl rfl rfl rfl trivial trivial trivial trivial trivial) rfl trivial), m, F.kp, b⟩
theorem ok_is_ascending (B : AllB mg W) {f : Addr} {fd : FuncData} (F : Fun W.K "is_ascending" "is_ascending" s_is_ascending f fd) (b : Binds W.K fd ["values"] []) (m : mg "is_ascending" = some (.ref f)) : FnAt P w W mg base 1 ("is_ascending", 1, d_is_ascending) :=
  ⟨f, fd, ["values"], fn_den (G := g_is_ascending) 40 F sc_is_ascending rfl rfl rfl (gok_of (B _ _ _ _ _ _ _ _ _).1 (ob_of (B _ _ _ _ _ _ _ _ _).2 rfl rfl rfl rfl rfl trivial trivial trivial trivial trivial) rfl trivial), m, F.kp, b⟩
theorem ok_is_letters (B : AllB mg W) {f : Addr} {fd : FuncData} (F : Fun W.K "is_letters" "is_letters" s_is_letters f fd) (b : Binds W.K fd ["value"] []) (m : mg "is_letters" = some (.ref f)) (h0 : FnAt P w W mg base 1 ("are_small", 1, d_are_small)) (h1 : FnAt P w W mg base 1 ("is_ascending", 1, d_is_ascending)) : FnAt P w W mg base 2 ("is_letters", 1, d_is_letters) :=
  ⟨f, fd, ["value"], fn_den (G := g_is_letters) 40 F sc_is_letters rfl rfl rfl (gok_of (B _ _ _ _ _ _ _ _ _).1 (ob_of (B _ _ _ _ _ _ _ _ _).2 rfl rfl rfl rfl rfl trivial trivial trivial trivial trivial) rfl ⟨h0.mono (show 1 ≤ 1 by omega), h1.mono (show 1 ≤ 1 by omega), trivial⟩), m, F.kp, b⟩
theorem ok_require_letters (B : AllB mg W) {f : Addr} {fd : FuncData} (F : Fun W.K "require_letters" "require_letters" s_require_letters f fd) (b : Binds W.K fd ["value"] []) (m : mg "require_letters" = some (.ref f)) (h0 : FnAt P w W mg base 2 ("is_letters", 1, d_is_letters)) : FnAt P w W mg base 3 ("require_letters", 1, d_require_letters) :=
  ⟨f, fd, ["value"], fn_den (G := g_require_letters) 40 F sc_require_letters rfl rfl rfl (gok_of (B _ _ _ _ _ _ _ _ _).1 (ob_of (B _ _ _ _ _ _ _ _ _).2 rfl rfl rfl rfl rfl trivial trivial trivial trivial trivial) rfl ⟨h0.mono (show 2 ≤ 2 by omega), trivial⟩), m, F.kp, b⟩
theorem ok_moves_of (B : AllB mg W) {f : Addr} {fd : FuncData} (F : Fun W.K "moves_of" "moves_of" s_moves_of f fd) (b : Binds W.K fd ["letters", "size", "arrows"] []) (m : mg "moves_of" = some (.ref f)) : FnAt P w W mg base 1 ("moves_of", 3, d_moves_of) :=
  ⟨f, fd, ["letters", "size", "arrows"], fn_den (G := g_moves_of) 40 F sc_moves_of rfl rfl rfl (gok_of (B _ _ _ _ _ _ _ _ _).1 (ob_of (B _ _ _ _ _ _ _ _ _).2 rfl rfl rfl rfl rfl trivial trivial trivial trivial trivial) rfl trivial), m, F.kp, b⟩
theorem ok_is_number_set (B : AllB mg W) {f : Addr} {fd : FuncData} (F : Fun W.K "is_number_set" "is_number_set" s_is_number_set f fd) (b : Binds W.K fd ["value", "size"] []) (m : mg "is_number_set" = some (.ref f)) (h0 : FnAt P w W mg base 1 ("is_ascending", 1, d_is_ascending)) (h1 : FnAt P w W mg base 2 ("is_integer_within", 3, d_is_integer_within)) : FnAt P w W mg base 3 ("is_number_set", 2, d_is_number_set) :=
  ⟨f, fd, ["value", "size"], fn_den (G := g_is_number_set) 40 F sc_is_number_set rfl rfl rfl (gok_of (B _ _ _ _ _ _ _ _ _).1 (ob_of (B _ _ _ _ _ _ _ _ _).2 rfl rfl rfl rfl rfl trivial trivial trivial trivial trivial) rfl ⟨h0.mono (show 1 ≤ 2 by omega), h1.mono (show 2 ≤ 2 by omega), trivial⟩), m, F.kp, b⟩
theorem ok_is_text_within (B : AllB mg W) {f : Addr} {fd : FuncData} (F : Fun W.K "is_text_within" "is_text_within" s_is_text_within f fd) (b : Binds W.K fd ["letters", "value"] []) (m : mg "is_text_within" = some (.ref f)) : FnAt P w W mg base 1 ("is_text_within", 2, d_is_text_within) :=
  ⟨f, fd, ["letters", "value"], fn_den (G := g_is_text_within) 40 F sc_is_text_within rfl rfl rfl (gok_of (B _ _ _ _ _ _ _ _ _).1 (ob_of (B _ _ _ _ _ _ _ _ _).2 rfl rfl rfl rfl rfl trivial trivial trivial trivial trivial) rfl trivial), m, F.kp, b⟩
theorem ok_is_letter_of (B : AllB mg W) {f : Addr} {fd : FuncData} (F : Fun W.K "is_letter_of" "is_letter_of" s_is_letter_of f fd) (b : Binds W.K fd ["letters", "value"] []) (m : mg "is_letter_of" = some (.ref f)) (h0 : FnAt P w W mg base 1 ("is_text_within", 2, d_is_text_within)) : FnAt P w W mg base 2 ("is_letter_of", 2, d_is_letter_of) :=
  ⟨f, fd, ["letters", "value"], fn_den (G := g_is_letter_of) 40 F sc_is_letter_of rfl rfl rfl (gok_of (B _ _ _ _ _ _ _ _ _).1 (ob_of (B _ _ _ _ _ _ _ _ _).2 rfl rfl rfl rfl rfl trivial trivial trivial trivial trivial) rfl ⟨h0.mono (show 1 ≤ 1 by omega), trivial⟩), m, F.kp, b⟩
theorem ok_is_arrow (B : AllB mg W) {f : Addr} {fd : FuncData} (F : Fun W.K "is_arrow" "is_arrow" s_is_arrow f fd) (b : Binds W.K fd ["letters", "size", "value"] []) (m : mg "is_arrow" = some (.ref f)) (h0 : FnAt P w W mg base 2 ("is_integer_within", 3, d_is_integer_within)) (h1 : FnAt P w W mg base 2 ("is_letter_of", 2, d_is_letter_of)) : FnAt P w W mg base 3 ("is_arrow", 3, d_is_arrow) :=
  ⟨f, fd, ["letters", "size", "value"], fn_den (G := g_is_arrow) 40 F sc_is_arrow rfl rfl rfl (gok_of (B _ _ _ _ _ _ _ _ _).1 (ob_of (B _ _ _ _ _ _ _ _ _).2 rfl rfl rfl rfl rfl trivial trivial trivial trivial trivial) rfl ⟨h0.mono (show 2 ≤ 2 by omega), h1.mono (show 2 ≤ 2 by omega), trivial⟩), m, F.kp, b⟩
theorem ok_are_arrows (B : AllB mg W) {f : Addr} {fd : FuncData} (F : Fun W.K "are_arrows" "are_arrows" s_are_arrows f fd) (b : Binds W.K fd ["letters", "size", "value"] []) (m : mg "are_arrows" = some (.ref f)) (h0 : FnAt P w W mg base 1 ("is_ascending", 1, d_is_ascending)) (h1 : FnAt P w W mg base 3 ("is_arrow", 3, d_is_arrow)) : FnAt P w W mg base 4 ("are_arrows", 3, d_are_arrows) :=
  ⟨f, fd, ["letters", "size", "value"], fn_den (G := g_are_arrows) 40 F sc_are_arrows rfl rfl rfl (gok_of (B _ _ _ _ _ _ _ _ _).1 (ob_of (B _ _ _ _ _ _ _ _ _).2 rfl rfl rfl rfl rfl trivial trivial trivial trivial trivial) rfl ⟨h0.mono (show 1 ≤ 3 by omega), h1.mono (show 3 ≤ 3 by omega), trivial⟩), m, F.kp, b⟩
theorem ok_Reader___init__ (B : AllB mg W) {f : Addr} {fd : FuncData} (F : Fun W.K "__init__" "Reader.__init__" s_Reader___init__ f fd) (b : Binds W.K fd ["self", "letters", "size", "firsts", "lasts", "arrows"] []) (m : mg "Reader" = some (.ref (W.ca "Reader"))) (q : L2.Mk W.K (W.ca "Reader") f) (h0 : FnAt P w W mg base 3 ("require_letters", 1, d_require_letters)) (h1 : FnAt P w W mg base 1 ("moves_of", 3, d_moves_of)) (h2 : FnAt P w W mg base 2 ("is_integer_within", 3, d_is_integer_within)) (h3 : FnAt P w W mg base 3 ("is_number_set", 2, d_is_number_set)) (h4 : FnAt P w W mg base 4 ("are_arrows", 3, d_are_arrows)) : IAt P w W mg base 5 ("Reader", 5, d_Reader___init__) :=
  ⟨m, f, fd, ["self", "letters", "size", "firsts", "lasts", "arrows"], q, fn_den (G := g_Reader___init__) 40 F sc_Reader___init__ rfl rfl rfl (gok_of (B _ _ _ _ _ _ _ _ _).1 (ob_of (B _ _ _ _ _ _ _ _ _).2 rfl rfl rfl rfl rfl trivial trivial trivial trivial trivial) rfl ⟨h0.mono (show 3 ≤ 4 by omega), h1.mono (show 1 ≤ 4 by omega), h2.mono (show 2 ≤ 4 by omega), h3.mono (show 3 ≤ 4 by omega), h4.mono (show 4 ≤ 4 by omega), trivial⟩), b⟩
theorem ok__law_made_reader (B : AllB mg W) {f : Addr} {fd : FuncData} (F : Fun W.K "_law_made_reader" "_law_made_reader" s__law_made_reader f fd) (b : Binds W.K fd ["_law_reader"] []) (m : mg "_law_made_reader" = some (.ref f)) (h0 : IAt P w W mg base 5 ("Reader", 5, d_Reader___init__)) : FnAt P w W mg base 7 ("_law_made_reader", 1, d__law_made_reader) :=
  ⟨f, fd, ["_law_reader"], fn_den (G := g__law_made_reader) 40 F sc__law_made_reader rfl rfl rfl (gok_of (B _ _ _ _ _ _ _ _ _).1 (ob_of (B _ _ _ _ _ _ _ _ _).2 rfl rfl rfl rfl rfl trivial trivial trivial ⟨⟨5, (show 5 + 1 ≤ 6 by omega), h0⟩, trivial⟩ trivial) rfl trivial), m, F.kp, b⟩
theorem ok_require_same (B : AllB mg W) {f : Addr} {fd : FuncData} (F : Fun W.K "require_same" "require_same" s_require_same f fd) (b : Binds W.K fd ["one", "other"] []) (m : mg "require_same" = some (.ref f)) (h0 : FnAt P w W mg base 1 ("require_reader", 1, d_require_reader)) : FnAt P w W mg base 2 ("require_same", 2, d_require_same) :=
  ⟨f, fd, ["one", "other"], fn_den (G := g_require_same) 40 F sc_require_same rfl rfl rfl (gok_of (B _ _ _ _ _ _ _ _ _).1 (ob_of (B _ _ _ _ _ _ _ _ _).2 rfl rfl rfl rfl rfl trivial trivial trivial trivial trivial) rfl ⟨h0.mono (show 1 ≤ 1 by omega), trivial⟩), m, F.kp, b⟩
theorem ok_require_size (B : AllB mg W) {f : Addr} {fd : FuncData} (F : Fun W.K "require_size" "require_size" s_require_size f fd) (b : Binds W.K fd ["size"] []) (m : mg "require_size" = some (.ref f)) : FnAt P w W mg base 1 ("require_size", 1, d_require_size) :=
  ⟨f, fd, ["size"], fn_den (G := g_require_size) 40 F sc_require_size rfl rfl rfl (gok_of (B _ _ _ _ _ _ _ _ _).1 (ob_of (B _ _ _ _ _ _ _ _ _).2 rfl rfl rfl rfl rfl trivial trivial trivial trivial trivial) rfl trivial), m, F.kp, b⟩
theorem ok_pairs_of (B : AllB mg W) {f : Addr} {fd : FuncData} (F : Fun W.K "pairs_of" "pairs_of" s_pairs_of f fd) (b : Binds W.K fd ["ones", "others", "size"] []) (m : mg "pairs_of" = some (.ref f)) : FnAt P w W mg base 1 ("pairs_of", 3, d_pairs_of) :=
  ⟨f, fd, ["ones", "others", "size"], fn_den (G := g_pairs_of) 40 F sc_pairs_of rfl rfl rfl (gok_of (B _ _ _ _ _ _ _ _ _).1 (ob_of (B _ _ _ _ _ _ _ _ _).2 rfl rfl rfl rfl rfl trivial trivial trivial trivial trivial) rfl trivial), m, F.kp, b⟩
theorem ok_both_of (B : AllB mg W) {f : Addr} {fd : FuncData} (F : Fun W.K "both_of" "both_of" s_both_of f fd) (b : Binds W.K fd ["one", "other"] []) (m : mg "both_of" = some (.ref f)) (h0 : FnAt P w W mg base 1 ("require_size", 1, d_require_size)) (h1 : FnAt P w W mg base 1 ("pairs_of", 3, d_pairs_of)) (h2 : IAt P w W mg base 5 ("Reader", 5, d_Reader___init__)) : FnAt P w W mg base 7 ("both_of", 2, d_both_of) :=
  ⟨f, fd, ["one", "other"], fn_den (G := g_both_of) 40 F sc_both_of rfl rfl rfl (gok_of (B _ _ _ _ _ _ _ _ _).1 (ob_of (B _ _ _ _ _ _ _ _ _).2 rfl rfl rfl rfl rfl trivial trivial trivial ⟨⟨5, (show 5 + 1 ≤ 6 by omega), h2⟩, trivial⟩ trivial) rfl ⟨h0.mono (show 1 ≤ 6 by omega), h1.mono (show 1 ≤ 6 by omega), trivial⟩), m, F.kp, b⟩
theorem ok_both (B : AllB mg W) {f : Addr} {fd : FuncData} (F : Fun W.K "both" "both" s_both f fd) (b : Binds W.K fd ["one", "other"] []) (m : mg "both" = some (.ref f)) (h0 : FnAt P w W mg base 2 ("require_same", 2, d_require_same)) (h1 : FnAt P w W mg base 7 ("both_of", 2, d_both_of)) : FnAt P w W mg base 8 ("both", 2, d_both) :=
  ⟨f, fd, ["one", "other"], fn_den (G := g_both) 40 F sc_both rfl rfl rfl (gok_of (B _ _ _ _ _ _ _ _ _).1 (ob_of (B _ _ _ _ _ _ _ _ _).2 rfl rfl rfl rfl rfl trivial trivial trivial trivial trivial) rfl ⟨h0.mono (show 2 ≤ 7 by omega), h1.mono (show 7 ≤ 7 by omega), trivial⟩), m, F.kp, b⟩
theorem ok__law_head_line (B : AllB mg W) {f : Addr} {fd : FuncData} (F : Fun W.K "_law_head_line" "_law_head_line" s__law_head_line f fd) (b : Binds W.K fd ["_law_reader"] []) (m : mg "_law_head_line" = some (.ref f)) : FnAt P w W mg base 1 ("_law_head_line", 1, d__law_head_line) :=
  ⟨f, fd, ["_law_reader"], fn_den (G := g__law_head_line) 40 F sc__law_head_line rfl rfl rfl (gok_of (B _ _ _ _ _ _ _ _ _).1 (ob_of (B _ _ _ _ _ _ _ _ _).2 rfl rfl rfl rfl rfl trivial trivial trivial trivial trivial) rfl trivial), m, F.kp, b⟩
theorem ok__law_tail_sum (B : AllB mg W) {f : Addr} {fd : FuncData} (F : Fun W.K "_law_tail_sum" "_law_tail_sum" s__law_tail_sum f fd) (b : Binds W.K fd ["_law_reader", "_law_line"] []) (m : mg "_law_tail_sum" = some (.ref f)) : FnAt P w W mg base 1 ("_law_tail_sum", 2, d__law_tail_sum) :=
  ⟨f, fd, ["_law_reader", "_law_line"], fn_den (G := g__law_tail_sum) 40 F sc__law_tail_sum rfl rfl rfl (gok_of (B _ _ _ _ _ _ _ _ _).1 (ob_of (B _ _ _ _ _ _ _ _ _).2 rfl rfl rfl rfl rfl trivial trivial trivial trivial trivial) rfl trivial), m, F.kp, b⟩
theorem ok__law_put (B : AllB mg W) {f : Addr} {fd : FuncData} (F : Fun W.K "_law_put" "_law_put" s__law_put f fd) (b : Binds W.K fd ["_law_reader", "_law_line", "_law_sign"] []) (m : mg "_law_put" = some (.ref f)) : FnAt P w W mg base 1 ("_law_put", 3, d__law_put) :=
  ⟨f, fd, ["_law_reader", "_law_line", "_law_sign"], fn_den (G := g__law_put) 40 F sc__law_put rfl rfl rfl (gok_of (B _ _ _ _ _ _ _ _ _).1 (ob_of (B _ _ _ _ _ _ _ _ _).2 rfl rfl rfl rfl rfl trivial trivial trivial trivial trivial) rfl trivial), m, F.kp, b⟩
theorem ok__law_ways_of (B : AllB mg W) {f : Addr} {fd : FuncData} (F : Fun W.K "_law_ways_of" "_law_ways_of" s__law_ways_of f fd) (b : Binds W.K fd ["_law_reader", "_law_word"] []) (m : mg "_law_ways_of" = some (.ref f)) (h0 : FnAt P w W mg base 1 ("_law_head_line", 1, d__law_head_line)) (h1 : FnAt P w W mg base 1 ("_law_tail_sum", 2, d__law_tail_sum)) (h2 : FnAt P w W mg base 1 ("_law_put", 3, d__law_put)) : FnAt P w W mg base 2 ("_law_ways_of", 2, d__law_ways_of) :=
  ⟨f, fd, ["_law_reader", "_law_word"], fn_den (G := g__law_ways_of) 40 F sc__law_ways_of rfl rfl rfl (gok_of (B _ _ _ _ _ _ _ _ _).1 (ob_of (B _ _ _ _ _ _ _ _ _).2 rfl rfl rfl rfl rfl trivial trivial trivial trivial trivial) rfl ⟨h0.mono (show 1 ≤ 1 by omega), h1.mono (show 1 ≤ 1 by omega), h2.mono (show 1 ≤ 1 by omega), trivial⟩), m, F.kp, b⟩
theorem ok__law_step_line (B : AllB mg W) {f : Addr} {fd : FuncData} (F : Fun W.K "_law_step_line" "_law_step_line" s__law_step_line f fd) (b : Binds W.K fd ["_law_reader", "_law_line"] []) (m : mg "_law_step_line" = some (.ref f)) : FnAt P w W mg base 1 ("_law_step_line", 2, d__law_step_line) :=
  ⟨f, fd, ["_law_reader", "_law_line"], fn_den (G := g__law_step_line) 40 F sc__law_step_line rfl rfl rfl (gok_of (B _ _ _ _ _ _ _ _ _).1 (ob_of (B _ _ _ _ _ _ _ _ _).2 rfl rfl rfl rfl rfl trivial trivial trivial trivial trivial) rfl trivial), m, F.kp, b⟩
theorem ok__law_sums_of (B : AllB mg W) {f : Addr} {fd : FuncData} (F : Fun W.K "_law_sums_of" "_law_sums_of" s__law_sums_of f fd) (b : Binds W.K fd ["_law_reader", "_law_much"] []) (m : mg "_law_sums_of" = some (.ref f)) (h0 : FnAt P w W mg base 1 ("_law_head_line", 1, d__law_head_line)) (h1 : FnAt P w W mg base 1 ("_law_step_line", 2, d__law_step_line)) (h2 : FnAt P w W mg base 1 ("_law_tail_sum", 2, d__law_tail_sum)) : FnAt P w W mg base 2 ("_law_sums_of", 2, d__law_sums_of) :=
  ⟨f, fd, ["_law_reader", "_law_much"], fn_den (G := g__law_sums_of) 40 F sc__law_sums_of rfl rfl rfl (gok_of (B _ _ _ _ _ _ _ _ _).1 (ob_of (B _ _ _ _ _ _ _ _ _).2 rfl rfl rfl rfl rfl trivial trivial trivial trivial trivial) rfl ⟨h0.mono (show 1 ≤ 1 by omega), h1.mono (show 1 ≤ 1 by omega), h2.mono (show 1 ≤ 1 by omega), trivial⟩), m, F.kp, b⟩
theorem ok__law_words_of (B : AllB mg W) {f : Addr} {fd : FuncData} (F : Fun W.K "_law_words_of" "_law_words_of" s__law_words_of f fd) (b : Binds W.K fd ["_law_signs_here", "_law_much"] []) (m : mg "_law_words_of" = some (.ref f)) : FnAt P w W mg base 1 ("_law_words_of", 2, d__law_words_of) :=
  ⟨f, fd, ["_law_signs_here", "_law_much"], fn_den (G := g__law_words_of) 40 F sc__law_words_of rfl rfl rfl (gok_of (B _ _ _ _ _ _ _ _ _).1 (ob_of (B _ _ _ _ _ _ _ _ _).2 rfl rfl rfl rfl rfl trivial trivial trivial trivial trivial) rfl trivial), m, F.kp, b⟩
theorem ok_Reader_over (B : AllB mg W) {f : Addr} {fd : FuncData} (F : Fun W.K "over" "Reader.over" s_Reader_over f fd) (b : Binds W.K fd ["self", "letters"] []) (c : Cls W.K (W.ca "Reader")) (q : Meth W.K (W.ca "Reader") "over" f) (fi : PySem.W.fnIn W.K f = true) (h0 : FnAt P w W mg base 3 ("require_letters", 1, d_require_letters)) (h1 : IAt P w W mg base 5 ("Reader", 5, d_Reader___init__)) : MAt P w W mg base 7 (("Reader", "over"), 1, d_Reader_over) :=
  ⟨f, fd, ["self", "letters"], c, q, fn_den (G := g_Reader_over) 40 F sc_Reader_over rfl rfl rfl (gok_of (B _ _ _ _ _ _ _ _ _).1 (ob_of (B _ _ _ _ _ _ _ _ _).2 rfl rfl rfl rfl rfl trivial trivial trivial ⟨⟨5, (show 5 + 1 ≤ 6 by omega), h1⟩, trivial⟩ trivial) rfl ⟨h0.mono (show 3 ≤ 6 by omega), trivial⟩), b, fi⟩
theorem ok__law_right (B : AllB mg W) {f : Addr} {fd : FuncData} (F : Fun W.K "_law_right" "_law_right" s__law_right f fd) (b : Binds W.K fd ["_law_pot_here"] []) (m : mg "_law_right" = some (.ref f)) (h0 : FnAt P w W mg base 3 ("_law_signs", 1, d__law_signs)) (h1 : FnAt P w W mg base 4 ("_law_any_reader", 3, d__law_any_reader)) (h2 : FnAt P w W mg base 1 ("_law_bit", 2, d__law_bit)) (h3 : FnAt P w W mg base 7 ("_law_made_reader", 1, d__law_made_reader)) (h4 : FnAt P w W mg base 4 ("totals", 2, d_totals)) (h5 : FnAt P w W mg base 4 ("total", 2, d_total)) (h6 : FnAt P w W mg base 8 ("both", 2, d_both)) (h7 : FnAt P w W mg base 2 ("_law_ways_of", 2, d__law_ways_of)) (h8 : FnAt P w W mg base 2 ("_law_sums_of", 2, d__law_sums_of)) (h9 : FnAt P w W mg base 1 ("_law_words_of", 2, d__law_words_of)) (h10 : MAt P w W mg base 7 (("Reader", "over"), 1, d_Reader_over)) (h11 : IAt P w W mg base 5 ("Reader", 5, d_Reader___init__)) : FnAt P w W mg base 9 ("_law_right", 1, d__law_right) :=
  ⟨f, fd, ["_law_pot_here"], fn_den (G := g__law_right) 40 F sc__law_right rfl rfl rfl (gok_of (B _ _ _ _ _ _ _ _ _).1 (ob_of (B _ _ _ _ _ _ _ _ _).2 rfl rfl rfl rfl rfl ⟨⟨7, (show 7 + 0 ≤ 8 by omega), h10⟩, trivial⟩ trivial trivial ⟨⟨5, (show 5 + 1 ≤ 8 by omega), h11⟩, trivial⟩ trivial) rfl ⟨h0.mono (show 3 ≤ 8 by omega), h1.mono (show 4 ≤ 8 by omega), h2.mono (show 1 ≤ 8 by omega), h3.mono (show 7 ≤ 8 by omega), h4.mono (show 4 ≤ 8 by omega), h5.mono (show 4 ≤ 8 by omega), h6.mono (show 8 ≤ 8 by omega), h7.mono (show 2 ≤ 8 by omega), h8.mono (show 2 ≤ 8 by omega), h9.mono (show 1 ≤ 8 by omega), trivial⟩), m, F.kp, b⟩
theorem ok_law (B : AllB mg W) {f : Addr} {fd : FuncData} (F : Fun W.K "law" "law" s_law f fd) (b : Binds W.K fd ["_law_script"] []) (m : mg "law" = some (.ref f)) (h0 : FnAt P w W mg base 1 ("_law_pot", 2, d__law_pot)) (h1 : FnAt P w W mg base 4 ("totals", 2, d_totals)) (h2 : FnAt P w W mg base 4 ("total", 2, d_total)) (h3 : FnAt P w W mg base 9 ("_law_right", 1, d__law_right)) (h4 : IAt P w W mg base 5 ("Reader", 5, d_Reader___init__)) : FnAt P w W mg base 10 ("law", 1, d_law) :=
  ⟨f, fd, ["_law_script"], fn_den (G := g_law) 40 F sc_law rfl rfl rfl (gok_of (B _ _ _ _ _ _ _ _ _).1 (ob_of (B _ _ _ _ _ _ _ _ _).2 rfl rfl rfl rfl rfl trivial trivial trivial ⟨⟨5, (show 5 + 1 ≤ 9 by omega), h4⟩, trivial⟩ trivial) rfl ⟨h0.mono (show 1 ≤ 9 by omega), h1.mono (show 4 ≤ 9 by omega), h2.mono (show 4 ≤ 9 by omega), h3.mono (show 9 ≤ 9 by omega), trivial⟩), m, F.kp, b⟩
end
set_option maxHeartbeats 0 in
theorem all_mk {l : PySem.W.OpenLaw} {w : World} {K : PySem.W.Frag} {h : Heap} {mg : Str → Option Value} {fa : Addr} {CF0 f0 f1 f2 f3 f4 f5 f6 f7 f8 f9 f10 f11 f12 f13 f14 f15 f16 f17 f18 f19 f20 f21 f22 f23 f24 f25 f26 f27 f28 f29 f30 f31 f32 f33 f34 f35 f36 f37 f38 f39 f40 f41 f42 f43 f44 : Addr} {od0 an0 od1 an1 od2 an2 od3 an3 od4 an4 od5 an5 od6 an6 od7 an7 od8 an8 od9 an9 od10 an10 od11 an11 od12 an12 od13 an13 od14 an14 od15 an15 od16 an16 od17 an17 od18 an18 od19 an19 od20 an20 od21 an21 od22 an22 od23 an23 od24 an24 od25 an25 od26 an26 od27 an27 od28 an28 od29 an29 od30 an30 od31 an31 od32 an32 od33 an33 od34 an34 od35 an35 od36 an36 od37 an37 od38 an38 od39 an39 od40 an40 od41 an41 od42 an42 od43 an43 od44 an44 : Option Addr} {sl0 sl1 sl2 sl3 sl4 sl5 sl6 sl7 sl8 sl9 sl10 sl11 sl12 sl13 sl14 sl15 sl16 sl17 sl18 sl19 sl20 sl21 sl22 sl23 sl24 sl25 sl26 sl27 sl28 sl29 sl30 sl31 sl32 sl33 sl34 sl35 sl36 sl37 sl38 sl39 sl40 sl41 sl42 sl43 sl44 : Array (Option Value)} {oc0 kV0 dc0 pm0 cd0 ct0 oc1 kV1 dc1 pm1 cd1 ct1 oc2 kV2 dc2 pm2 cd2 ct2 oc3 kV3 dc3 pm3 cd3 ct3 oc4 kV4 dc4 pm4 cd4 ct4 oc5 kV5 dc5 pm5 cd5 ct5 oc6 kV6 dc6 pm6 cd6 ct6 oc7 kV7 dc7 pm7 cd7 ct7 oc8 kV8 dc8 pm8 cd8 ct8 oc9 kV9 dc9 pm9 cd9 ct9 oc10 kV10 dc10 pm10 cd10 ct10 oc11 kV11 dc11 pm11 cd11 ct11 oc12 kV12 dc12 pm12 cd12 ct12 oc13 kV13 dc13 pm13 cd13 ct13 oc14 kV14 dc14 pm14 cd14 ct14 oc15 kV15 dc15 pm15 cd15 ct15 oc16 kV16 dc16 pm16 cd16 ct16 oc17 kV17 dc17 pm17 cd17 ct17 oc18 kV18 dc18 pm18 cd18 ct18 oc19 kV19 dc19 pm19 cd19 ct19 oc20 kV20 dc20 pm20 cd20 ct20 oc21 kV21 dc21 pm21 cd21 ct21 oc22 kV22 dc22 pm22 cd22 ct22 oc23 kV23 dc23 pm23 cd23 ct23 oc24 kV24 dc24 pm24 cd24 ct24 oc25 kV25 dc25 pm25 cd25 ct25 oc26 kV26 dc26 pm26 cd26 ct26 oc27 kV27 dc27 pm27 cd27 ct27 oc28 kV28 dc28 pm28 cd28 ct28 oc29 kV29 dc29 pm29 cd29 ct29 oc30 kV30 dc30 pm30 cd30 ct30 oc31 kV31 dc31 pm31 cd31 ct31 oc32 kV32 dc32 pm32 cd32 ct32 oc33 kV33 dc33 pm33 cd33 ct33 oc34 kV34 dc34 pm34 cd34 ct34 oc35 kV35 dc35 pm35 cd35 ct35 oc36 kV36 dc36 pm36 cd36 ct36 oc37 kV37 dc37 pm37 cd37 ct37 oc38 kV38 dc38 pm38 cd38 ct38 oc39 kV39 dc39 pm39 cd39 ct39 oc40 kV40 dc40 pm40 cd40 ct40 oc41 kV41 dc41 pm41 cd41 ct41 oc42 kV42 dc42 pm42 cd42 ct42 oc43 kV43 dc43 pm43 cd43 ct43 oc44 kV44 dc44 pm44 cd44 ct44 : Value} {t0 t1 t2 t3 : Tok} (X : K.In h) (H : h.Ns mainGlobals mg) (hfa : mg "law" = some (.ref fa))
    (cnCF0 : PySem.W.nsIn K mainGlobals "Reader" = some (some (.ref CF0)))
    (pgCF0 : PySem.W.plainGet K CF0 Str.empty = true)
    (hdCF0 : PySem.W.hasDictIn K CF0 = true)
    (poCF0 : PySem.W.plainOver K CF0 = true)
    (saCF0 : PySem.W.findIn K (.ref CF0) "__setattr__" = some (some (.builtin "object.__setattr__")))
    (mkCF0 : PySem.W.makesIn K CF0 = true)
    (kpCF0 : PySem.W.keepIn K (.ref CF0) = true)
    (nfCF0own_letters : PySem.W.findIn K (.ref CF0) "own_letters" = some none)
    (nfCF0own_size : PySem.W.findIn K (.ref CF0) "own_size" = some none)
    (nfCF0own_states : PySem.W.findIn K (.ref CF0) "own_states" = some none)
    (nfCF0own_firsts : PySem.W.findIn K (.ref CF0) "own_firsts" = some none)
    (nfCF0own_lasts : PySem.W.findIn K (.ref CF0) "own_lasts" = some none)
    (nfCF0own_arrows : PySem.W.findIn K (.ref CF0) "own_arrows" = some none)
    (nfCF0own_moves : PySem.W.findIn K (.ref CF0) "own_moves" = some none)
    (haCF0 : PySem.W.findIn K (.ref CF0) "__class__" = some (some (.builtin "object.__class__")))
    (hnCF0 : PySem.W.specialIn K (.builtin "object.__class__") "__get__" = some (some (.builtin "getset_descriptor.__get__")))
    (htCF0 : PySem.W.takesIn K (.builtin "object.__class__") = some true)
    (hmCF0 : PySem.W.mroIn K CF0 (.type "object") = some true)
    (icCF0 : PySem.W.isClsIn K CF0 = true)
    (tcCF0 : PySem.W.typeIn K (.ref CF0) = some (.type "type"))
    (neCF0 : PySem.W.findIn K (.ref CF0) "__ne__" = some (some (.builtin "object.__ne__")))
    (a0 : PySem.W.nsIn K mainGlobals "_law_pot" = some (some (.ref f0)))
    (l0 : K.lookup f0 = some ⟨oc0, od0, .func (PySem.W.fnOf "_law_pot" "_law_pot" (defArgs s__law_pot) (defBody s__law_pot) (defScope s__law_pot) .none kV0 dc0 pm0 an0 cd0 ct0), sl0⟩)
    (c0 : PySem.W.codeIn K cd0 "_law_pot" = true)
    (k0 : PySem.W.keepIn K (.ref f0) = true)
    (a1 : PySem.W.nsIn K mainGlobals "require_reader" = some (some (.ref f1)))
    (l1 : K.lookup f1 = some ⟨oc1, od1, .func (PySem.W.fnOf "require_reader" "require_reader" (defArgs s_require_reader) (defBody s_require_reader) (defScope s_require_reader) .none kV1 dc1 pm1 an1 cd1 ct1), sl1⟩)
    (c1 : PySem.W.codeIn K cd1 "require_reader" = true)
    (k1 : PySem.W.keepIn K (.ref f1) = true)
    (a2 : PySem.W.nsIn K mainGlobals "is_integer" = some (some (.ref f2)))
    (l2 : K.lookup f2 = some ⟨oc2, od2, .func (PySem.W.fnOf "is_integer" "is_integer" (defArgs s_is_integer) (defBody s_is_integer) (defScope s_is_integer) .none kV2 dc2 pm2 an2 cd2 ct2), sl2⟩)
    (c2 : PySem.W.codeIn K cd2 "is_integer" = true)
    (k2 : PySem.W.keepIn K (.ref f2) = true)
    (a3 : PySem.W.nsIn K mainGlobals "is_integer_within" = some (some (.ref f3)))
    (l3 : K.lookup f3 = some ⟨oc3, od3, .func (PySem.W.fnOf "is_integer_within" "is_integer_within" (defArgs s_is_integer_within) (defBody s_is_integer_within) (defScope s_is_integer_within) .none kV3 dc3 pm3 an3 cd3 ct3), sl3⟩)
    (c3 : PySem.W.codeIn K cd3 "is_integer_within" = true)
    (k3 : PySem.W.keepIn K (.ref f3) = true)
    (a4 : PySem.W.nsIn K mainGlobals "require_length" = some (some (.ref f4)))
    (l4 : K.lookup f4 = some ⟨oc4, od4, .func (PySem.W.fnOf "require_length" "require_length" (defArgs s_require_length) (defBody s_require_length) (defScope s_require_length) .none kV4 dc4 pm4 an4 cd4 ct4), sl4⟩)
    (c4 : PySem.W.codeIn K cd4 "require_length" = true)
    (k4 : PySem.W.keepIn K (.ref f4) = true)
    (a5 : PySem.W.nsIn K mainGlobals "first_row_of" = some (some (.ref f5)))
    (l5 : K.lookup f5 = some ⟨oc5, od5, .func (PySem.W.fnOf "first_row_of" "first_row_of" (defArgs s_first_row_of) (defBody s_first_row_of) (defScope s_first_row_of) .none kV5 dc5 pm5 an5 cd5 ct5), sl5⟩)
    (c5 : PySem.W.codeIn K cd5 "first_row_of" = true)
    (k5 : PySem.W.keepIn K (.ref f5) = true)
    (a6 : PySem.W.nsIn K mainGlobals "stepped" = some (some (.ref f6)))
    (l6 : K.lookup f6 = some ⟨oc6, od6, .func (PySem.W.fnOf "stepped" "stepped" (defArgs s_stepped) (defBody s_stepped) (defScope s_stepped) .none kV6 dc6 pm6 an6 cd6 ct6), sl6⟩)
    (c6 : PySem.W.codeIn K cd6 "stepped" = true)
    (k6 : PySem.W.keepIn K (.ref f6) = true)
    (a7 : PySem.W.nsIn K mainGlobals "end_of" = some (some (.ref f7)))
    (l7 : K.lookup f7 = some ⟨oc7, od7, .func (PySem.W.fnOf "end_of" "end_of" (defArgs s_end_of) (defBody s_end_of) (defScope s_end_of) .none kV7 dc7 pm7 an7 cd7 ct7), sl7⟩)
    (c7 : PySem.W.codeIn K cd7 "end_of" = true)
    (k7 : PySem.W.keepIn K (.ref f7) = true)
    (a8 : PySem.W.nsIn K mainGlobals "totals_of" = some (some (.ref f8)))
    (l8 : K.lookup f8 = some ⟨oc8, od8, .func (PySem.W.fnOf "totals_of" "totals_of" (defArgs s_totals_of) (defBody s_totals_of) (defScope s_totals_of) .none kV8 dc8 pm8 an8 cd8 ct8), sl8⟩)
    (c8 : PySem.W.codeIn K cd8 "totals_of" = true)
    (k8 : PySem.W.keepIn K (.ref f8) = true)
    (a9 : PySem.W.nsIn K mainGlobals "totals" = some (some (.ref f9)))
    (l9 : K.lookup f9 = some ⟨oc9, od9, .func (PySem.W.fnOf "totals" "totals" (defArgs s_totals) (defBody s_totals) (defScope s_totals) .none kV9 dc9 pm9 an9 cd9 ct9), sl9⟩)
    (c9 : PySem.W.codeIn K cd9 "totals" = true)
    (k9 : PySem.W.keepIn K (.ref f9) = true)
    (a10 : PySem.W.nsIn K mainGlobals "total" = some (some (.ref f10)))
    (l10 : K.lookup f10 = some ⟨oc10, od10, .func (PySem.W.fnOf "total" "total" (defArgs s_total) (defBody s_total) (defScope s_total) .none kV10 dc10 pm10 an10 cd10 ct10), sl10⟩)
    (c10 : PySem.W.codeIn K cd10 "total" = true)
    (k10 : PySem.W.keepIn K (.ref f10) = true)
    (a11 : PySem.W.nsIn K mainGlobals "_law_bit" = some (some (.ref f11)))
    (l11 : K.lookup f11 = some ⟨oc11, od11, .func (PySem.W.fnOf "_law_bit" "_law_bit" (defArgs s__law_bit) (defBody s__law_bit) (defScope s__law_bit) .none kV11 dc11 pm11 an11 cd11 ct11), sl11⟩)
    (c11 : PySem.W.codeIn K cd11 "_law_bit" = true)
    (k11 : PySem.W.keepIn K (.ref f11) = true)
    (a12 : PySem.W.nsIn K mainGlobals "_law_pick" = some (some (.ref f12)))
    (l12 : K.lookup f12 = some ⟨oc12, od12, .func (PySem.W.fnOf "_law_pick" "_law_pick" (defArgs s__law_pick) (defBody s__law_pick) (defScope s__law_pick) .none kV12 dc12 pm12 an12 cd12 ct12), sl12⟩)
    (c12 : PySem.W.codeIn K cd12 "_law_pick" = true)
    (k12 : PySem.W.keepIn K (.ref f12) = true)
    (a13 : PySem.W.nsIn K mainGlobals "_law_signs" = some (some (.ref f13)))
    (l13 : K.lookup f13 = some ⟨oc13, od13, .func (PySem.W.fnOf "_law_signs" "_law_signs" (defArgs s__law_signs) (defBody s__law_signs) (defScope s__law_signs) .none kV13 dc13 pm13 an13 cd13 ct13), sl13⟩)
    (c13 : PySem.W.codeIn K cd13 "_law_signs" = true)
    (k13 : PySem.W.keepIn K (.ref f13) = true)
    (a14 : PySem.W.nsIn K mainGlobals "_law_dealt" = some (some (.ref f14)))
    (l14 : K.lookup f14 = some ⟨oc14, od14, .func (PySem.W.fnOf "_law_dealt" "_law_dealt" (defArgs s__law_dealt) (defBody s__law_dealt) (defScope s__law_dealt) .none kV14 dc14 pm14 an14 cd14 ct14), sl14⟩)
    (c14 : PySem.W.codeIn K cd14 "_law_dealt" = true)
    (k14 : PySem.W.keepIn K (.ref f14) = true)
    (a15 : PySem.W.nsIn K mainGlobals "_law_some_of" = some (some (.ref f15)))
    (l15 : K.lookup f15 = some ⟨oc15, od15, .func (PySem.W.fnOf "_law_some_of" "_law_some_of" (defArgs s__law_some_of) (defBody s__law_some_of) (defScope s__law_some_of) .none kV15 dc15 pm15 an15 cd15 ct15), sl15⟩)
    (c15 : PySem.W.codeIn K cd15 "_law_some_of" = true)
    (k15 : PySem.W.keepIn K (.ref f15) = true)
    (a16 : PySem.W.nsIn K mainGlobals "_law_told_reader" = some (some (.ref f16)))
    (l16 : K.lookup f16 = some ⟨oc16, od16, .func (PySem.W.fnOf "_law_told_reader" "_law_told_reader" (defArgs s__law_told_reader) (defBody s__law_told_reader) (defScope s__law_told_reader) .none kV16 dc16 pm16 an16 cd16 ct16), sl16⟩)
    (c16 : PySem.W.codeIn K cd16 "_law_told_reader" = true)
    (k16 : PySem.W.keepIn K (.ref f16) = true)
    (a17 : PySem.W.nsIn K mainGlobals "_law_any_reader" = some (some (.ref f17)))
    (l17 : K.lookup f17 = some ⟨oc17, od17, .func (PySem.W.fnOf "_law_any_reader" "_law_any_reader" (defArgs s__law_any_reader) (defBody s__law_any_reader) (defScope s__law_any_reader) .none kV17 dc17 pm17 an17 cd17 ct17), sl17⟩)
    (c17 : PySem.W.codeIn K cd17 "_law_any_reader" = true)
    (k17 : PySem.W.keepIn K (.ref f17) = true)
    (a18 : PySem.W.nsIn K mainGlobals "are_small" = some (some (.ref f18)))
    (l18 : K.lookup f18 = some ⟨oc18, od18, .func (PySem.W.fnOf "are_small" "are_small" (defArgs s_are_small) (defBody s_are_small) (defScope s_are_small) .none kV18 dc18 pm18 an18 cd18 ct18), sl18⟩)
    (c18 : PySem.W.codeIn K cd18 "are_small" = true)
    (k18 : PySem.W.keepIn K (.ref f18) = true)
    (a19 : PySem.W.nsIn K mainGlobals "is_ascending" = some (some (.ref f19)))
    (l19 : K.lookup f19 = some ⟨oc19, od19, .func (PySem.W.fnOf "is_ascending" "is_ascending" (defArgs s_is_ascending) (defBody s_is_ascending) (defScope s_is_ascending) .none kV19 dc19 pm19 an19 cd19 ct19), sl19⟩)
    (c19 : PySem.W.codeIn K cd19 "is_ascending" = true)
    (k19 : PySem.W.keepIn K (.ref f19) = true)
    (a20 : PySem.W.nsIn K mainGlobals "is_letters" = some (some (.ref f20)))
    (l20 : K.lookup f20 = some ⟨oc20, od20, .func (PySem.W.fnOf "is_letters" "is_letters" (defArgs s_is_letters) (defBody s_is_letters) (defScope s_is_letters) .none kV20 dc20 pm20 an20 cd20 ct20), sl20⟩)
    (c20 : PySem.W.codeIn K cd20 "is_letters" = true)
    (k20 : PySem.W.keepIn K (.ref f20) = true)
    (a21 : PySem.W.nsIn K mainGlobals "require_letters" = some (some (.ref f21)))
    (l21 : K.lookup f21 = some ⟨oc21, od21, .func (PySem.W.fnOf "require_letters" "require_letters" (defArgs s_require_letters) (defBody s_require_letters) (defScope s_require_letters) .none kV21 dc21 pm21 an21 cd21 ct21), sl21⟩)
    (c21 : PySem.W.codeIn K cd21 "require_letters" = true)
    (k21 : PySem.W.keepIn K (.ref f21) = true)
    (a22 : PySem.W.nsIn K mainGlobals "moves_of" = some (some (.ref f22)))
    (l22 : K.lookup f22 = some ⟨oc22, od22, .func (PySem.W.fnOf "moves_of" "moves_of" (defArgs s_moves_of) (defBody s_moves_of) (defScope s_moves_of) .none kV22 dc22 pm22 an22 cd22 ct22), sl22⟩)
    (c22 : PySem.W.codeIn K cd22 "moves_of" = true)
    (k22 : PySem.W.keepIn K (.ref f22) = true)
    (a23 : PySem.W.nsIn K mainGlobals "is_number_set" = some (some (.ref f23)))
    (l23 : K.lookup f23 = some ⟨oc23, od23, .func (PySem.W.fnOf "is_number_set" "is_number_set" (defArgs s_is_number_set) (defBody s_is_number_set) (defScope s_is_number_set) .none kV23 dc23 pm23 an23 cd23 ct23), sl23⟩)
    (c23 : PySem.W.codeIn K cd23 "is_number_set" = true)
    (k23 : PySem.W.keepIn K (.ref f23) = true)
    (a24 : PySem.W.nsIn K mainGlobals "is_text_within" = some (some (.ref f24)))
    (l24 : K.lookup f24 = some ⟨oc24, od24, .func (PySem.W.fnOf "is_text_within" "is_text_within" (defArgs s_is_text_within) (defBody s_is_text_within) (defScope s_is_text_within) .none kV24 dc24 pm24 an24 cd24 ct24), sl24⟩)
    (c24 : PySem.W.codeIn K cd24 "is_text_within" = true)
    (k24 : PySem.W.keepIn K (.ref f24) = true)
    (a25 : PySem.W.nsIn K mainGlobals "is_letter_of" = some (some (.ref f25)))
    (l25 : K.lookup f25 = some ⟨oc25, od25, .func (PySem.W.fnOf "is_letter_of" "is_letter_of" (defArgs s_is_letter_of) (defBody s_is_letter_of) (defScope s_is_letter_of) .none kV25 dc25 pm25 an25 cd25 ct25), sl25⟩)
    (c25 : PySem.W.codeIn K cd25 "is_letter_of" = true)
    (k25 : PySem.W.keepIn K (.ref f25) = true)
    (a26 : PySem.W.nsIn K mainGlobals "is_arrow" = some (some (.ref f26)))
    (l26 : K.lookup f26 = some ⟨oc26, od26, .func (PySem.W.fnOf "is_arrow" "is_arrow" (defArgs s_is_arrow) (defBody s_is_arrow) (defScope s_is_arrow) .none kV26 dc26 pm26 an26 cd26 ct26), sl26⟩)
    (c26 : PySem.W.codeIn K cd26 "is_arrow" = true)
    (k26 : PySem.W.keepIn K (.ref f26) = true)
    (a27 : PySem.W.nsIn K mainGlobals "are_arrows" = some (some (.ref f27)))
    (l27 : K.lookup f27 = some ⟨oc27, od27, .func (PySem.W.fnOf "are_arrows" "are_arrows" (defArgs s_are_arrows) (defBody s_are_arrows) (defScope s_are_arrows) .none kV27 dc27 pm27 an27 cd27 ct27), sl27⟩)
    (c27 : PySem.W.codeIn K cd27 "are_arrows" = true)
    (k27 : PySem.W.keepIn K (.ref f27) = true)
    (a28 : PySem.W.findIn K (.ref CF0) "__init__" = some (some (.ref f28)))
    (l28 : K.lookup f28 = some ⟨oc28, od28, .func (PySem.W.fnOf "__init__" "Reader.__init__" (defArgs s_Reader___init__) (defBody s_Reader___init__) (defScope s_Reader___init__) .none kV28 dc28 pm28 an28 cd28 ct28), sl28⟩)
    (c28 : PySem.W.codeIn K cd28 "Reader.__init__" = true)
    (k28 : PySem.W.keepIn K (.ref f28) = true)
    (i28 : PySem.W.isFn K (.ref f28) = true)
    (a29 : PySem.W.nsIn K mainGlobals "_law_made_reader" = some (some (.ref f29)))
    (l29 : K.lookup f29 = some ⟨oc29, od29, .func (PySem.W.fnOf "_law_made_reader" "_law_made_reader" (defArgs s__law_made_reader) (defBody s__law_made_reader) (defScope s__law_made_reader) .none kV29 dc29 pm29 an29 cd29 ct29), sl29⟩)
    (c29 : PySem.W.codeIn K cd29 "_law_made_reader" = true)
    (k29 : PySem.W.keepIn K (.ref f29) = true)
    (a30 : PySem.W.nsIn K mainGlobals "require_same" = some (some (.ref f30)))
    (l30 : K.lookup f30 = some ⟨oc30, od30, .func (PySem.W.fnOf "require_same" "require_same" (defArgs s_require_same) (defBody s_require_same) (defScope s_require_same) .none kV30 dc30 pm30 an30 cd30 ct30), sl30⟩)
    (c30 : PySem.W.codeIn K cd30 "require_same" = true)
    (k30 : PySem.W.keepIn K (.ref f30) = true)
    (a31 : PySem.W.nsIn K mainGlobals "require_size" = some (some (.ref f31)))
    (l31 : K.lookup f31 = some ⟨oc31, od31, .func (PySem.W.fnOf "require_size" "require_size" (defArgs s_require_size) (defBody s_require_size) (defScope s_require_size) .none kV31 dc31 pm31 an31 cd31 ct31), sl31⟩)
    (c31 : PySem.W.codeIn K cd31 "require_size" = true)
    (k31 : PySem.W.keepIn K (.ref f31) = true)
    (a32 : PySem.W.nsIn K mainGlobals "pairs_of" = some (some (.ref f32)))
    (l32 : K.lookup f32 = some ⟨oc32, od32, .func (PySem.W.fnOf "pairs_of" "pairs_of" (defArgs s_pairs_of) (defBody s_pairs_of) (defScope s_pairs_of) .none kV32 dc32 pm32 an32 cd32 ct32), sl32⟩)
    (c32 : PySem.W.codeIn K cd32 "pairs_of" = true)
    (k32 : PySem.W.keepIn K (.ref f32) = true)
    (a33 : PySem.W.nsIn K mainGlobals "both_of" = some (some (.ref f33)))
    (l33 : K.lookup f33 = some ⟨oc33, od33, .func (PySem.W.fnOf "both_of" "both_of" (defArgs s_both_of) (defBody s_both_of) (defScope s_both_of) .none kV33 dc33 pm33 an33 cd33 ct33), sl33⟩)
    (c33 : PySem.W.codeIn K cd33 "both_of" = true)
    (k33 : PySem.W.keepIn K (.ref f33) = true)
    (a34 : PySem.W.nsIn K mainGlobals "both" = some (some (.ref f34)))
    (l34 : K.lookup f34 = some ⟨oc34, od34, .func (PySem.W.fnOf "both" "both" (defArgs s_both) (defBody s_both) (defScope s_both) .none kV34 dc34 pm34 an34 cd34 ct34), sl34⟩)
    (c34 : PySem.W.codeIn K cd34 "both" = true)
    (k34 : PySem.W.keepIn K (.ref f34) = true)
    (a35 : PySem.W.nsIn K mainGlobals "_law_head_line" = some (some (.ref f35)))
    (l35 : K.lookup f35 = some ⟨oc35, od35, .func (PySem.W.fnOf "_law_head_line" "_law_head_line" (defArgs s__law_head_line) (defBody s__law_head_line) (defScope s__law_head_line) .none kV35 dc35 pm35 an35 cd35 ct35), sl35⟩)
    (c35 : PySem.W.codeIn K cd35 "_law_head_line" = true)
    (k35 : PySem.W.keepIn K (.ref f35) = true)
    (a36 : PySem.W.nsIn K mainGlobals "_law_tail_sum" = some (some (.ref f36)))
    (l36 : K.lookup f36 = some ⟨oc36, od36, .func (PySem.W.fnOf "_law_tail_sum" "_law_tail_sum" (defArgs s__law_tail_sum) (defBody s__law_tail_sum) (defScope s__law_tail_sum) .none kV36 dc36 pm36 an36 cd36 ct36), sl36⟩)
    (c36 : PySem.W.codeIn K cd36 "_law_tail_sum" = true)
    (k36 : PySem.W.keepIn K (.ref f36) = true)
    (a37 : PySem.W.nsIn K mainGlobals "_law_put" = some (some (.ref f37)))
    (l37 : K.lookup f37 = some ⟨oc37, od37, .func (PySem.W.fnOf "_law_put" "_law_put" (defArgs s__law_put) (defBody s__law_put) (defScope s__law_put) .none kV37 dc37 pm37 an37 cd37 ct37), sl37⟩)
    (c37 : PySem.W.codeIn K cd37 "_law_put" = true)
    (k37 : PySem.W.keepIn K (.ref f37) = true)
    (a38 : PySem.W.nsIn K mainGlobals "_law_ways_of" = some (some (.ref f38)))
    (l38 : K.lookup f38 = some ⟨oc38, od38, .func (PySem.W.fnOf "_law_ways_of" "_law_ways_of" (defArgs s__law_ways_of) (defBody s__law_ways_of) (defScope s__law_ways_of) .none kV38 dc38 pm38 an38 cd38 ct38), sl38⟩)
    (c38 : PySem.W.codeIn K cd38 "_law_ways_of" = true)
    (k38 : PySem.W.keepIn K (.ref f38) = true)
    (a39 : PySem.W.nsIn K mainGlobals "_law_step_line" = some (some (.ref f39)))
    (l39 : K.lookup f39 = some ⟨oc39, od39, .func (PySem.W.fnOf "_law_step_line" "_law_step_line" (defArgs s__law_step_line) (defBody s__law_step_line) (defScope s__law_step_line) .none kV39 dc39 pm39 an39 cd39 ct39), sl39⟩)
    (c39 : PySem.W.codeIn K cd39 "_law_step_line" = true)
    (k39 : PySem.W.keepIn K (.ref f39) = true)
    (a40 : PySem.W.nsIn K mainGlobals "_law_sums_of" = some (some (.ref f40)))
    (l40 : K.lookup f40 = some ⟨oc40, od40, .func (PySem.W.fnOf "_law_sums_of" "_law_sums_of" (defArgs s__law_sums_of) (defBody s__law_sums_of) (defScope s__law_sums_of) .none kV40 dc40 pm40 an40 cd40 ct40), sl40⟩)
    (c40 : PySem.W.codeIn K cd40 "_law_sums_of" = true)
    (k40 : PySem.W.keepIn K (.ref f40) = true)
    (a41 : PySem.W.nsIn K mainGlobals "_law_words_of" = some (some (.ref f41)))
    (l41 : K.lookup f41 = some ⟨oc41, od41, .func (PySem.W.fnOf "_law_words_of" "_law_words_of" (defArgs s__law_words_of) (defBody s__law_words_of) (defScope s__law_words_of) .none kV41 dc41 pm41 an41 cd41 ct41), sl41⟩)
    (c41 : PySem.W.codeIn K cd41 "_law_words_of" = true)
    (k41 : PySem.W.keepIn K (.ref f41) = true)
    (a42 : PySem.W.findIn K (.ref CF0) "over" = some (some (.ref f42)))
    (l42 : K.lookup f42 = some ⟨oc42, od42, .func (PySem.W.fnOf "over" "Reader.over" (defArgs s_Reader_over) (defBody s_Reader_over) (defScope s_Reader_over) .none kV42 dc42 pm42 an42 cd42 ct42), sl42⟩)
    (c42 : PySem.W.codeIn K cd42 "Reader.over" = true)
    (k42 : PySem.W.keepIn K (.ref f42) = true)
    (i42 : PySem.W.isFn K (.ref f42) = true)
    (a43 : PySem.W.nsIn K mainGlobals "_law_right" = some (some (.ref f43)))
    (l43 : K.lookup f43 = some ⟨oc43, od43, .func (PySem.W.fnOf "_law_right" "_law_right" (defArgs s__law_right) (defBody s__law_right) (defScope s__law_right) .none kV43 dc43 pm43 an43 cd43 ct43), sl43⟩)
    (c43 : PySem.W.codeIn K cd43 "_law_right" = true)
    (k43 : PySem.W.keepIn K (.ref f43) = true)
    (a44 : PySem.W.nsIn K mainGlobals "law" = some (some (.ref f44)))
    (l44 : K.lookup f44 = some ⟨oc44, od44, .func (PySem.W.fnOf "law" "law" (defArgs s_law) (defBody s_law) (defScope s_law) .none kV44 dc44 pm44 an44 cd44 ct44), sl44⟩)
    (c44 : PySem.W.codeIn K cd44 "law" = true)
    (k44 : PySem.W.keepIn K (.ref f44) = true)
    (u0 : PySem.W.nsIn K mainGlobals "MOST_LETTERS" = some (some (.int 4 t0)))
    (u1 : PySem.W.nsIn K mainGlobals "GREATEST" = some (some (.int 99999999999999999999999999999999999999999999999999999999999999999999999999999999999999999999999999999999999999999999999999999999999999999999999999999999999999999999999999999999999999999999999999999999 t1)))
    (u2 : PySem.W.nsIn K mainGlobals "MAX_STATES" = some (some (.int 60 t2)))
    (u3 : PySem.W.nsIn K mainGlobals "MAX_LENGTH" = some (some (.int 400 t3)))
    (z0 : PySem.W.nsIn K mainGlobals "abs" = some none)
    (z1 : PySem.W.nsIn K mainGlobals "all" = some none)
    (z2 : PySem.W.nsIn K mainGlobals "bool" = some none)
    (z3 : PySem.W.nsIn K mainGlobals "int" = some none)
    (z4 : PySem.W.nsIn K mainGlobals "isinstance" = some none)
    (z5 : PySem.W.nsIn K mainGlobals "len" = some none)
    (z6 : PySem.W.nsIn K mainGlobals "list" = some none)
    (z7 : PySem.W.nsIn K mainGlobals "max" = some none)
    (z8 : PySem.W.nsIn K mainGlobals "min" = some none)
    (z9 : PySem.W.nsIn K mainGlobals "range" = some none)
    (z10 : PySem.W.nsIn K mainGlobals "sorted" = some none)
    (z11 : PySem.W.nsIn K mainGlobals "str" = some none)
    (z12 : PySem.W.nsIn K mainGlobals "sum" = some none)
    (z13 : PySem.W.nsIn K mainGlobals "tuple" = some none)
    (z14 : PySem.W.nsIn K mainGlobals "zip" = some none)
    : ∃ (W : Wd) (fd : FuncData), W.K = K ∧ (∀ (s : Shared) (u : Value), BindsTo s fd ⟨[u], []⟩ [("_law_script", u)]) ∧ ∀ base : Heap, FnG l.prog w K mg base 10 fa fd ["_law_script"] (spOf W 1 d_law) := by
  have e := hfa.symm.trans (PySem.W.mg_of X H a44)
  cases e
  let W : Wd := ⟨K, fun x => CF0⟩
  have clCF0 : Cls W.K (W.ca "Reader") := ⟨pgCF0, hdCF0, poCF0, saCF0⟩
  have B : AllB mg W := fun st N k fs ms ds pr mk cm => by
    refine ⟨⟨fun x d hx => ?_, fun x hx => ?_, fun x hx => ?_, fun c x b hx => nomatch hx⟩, ⟨fun C f hx => ?_, fun C hx => ?_, fun C hx => ?_, fun C D b hx => ?_⟩⟩
    · have hm := mem_look (l := globs) hx
      simp only [globs, List.mem_cons, List.not_mem_nil, or_false, Prod.mk.injEq] at hm
      rcases hm with ⟨rfl, rfl⟩ | ⟨rfl, rfl⟩ | ⟨rfl, rfl⟩ | ⟨rfl, rfl⟩ | ⟨rfl, rfl⟩
      · exact glob_int (PySem.W.mg_of X H u0)
      · exact glob_int (PySem.W.mg_of X H u1)
      · exact glob_int (PySem.W.mg_of X H u2)
      · exact glob_int (PySem.W.mg_of X H u3)
      · exact glob_cls (PySem.W.mg_of X H cnCF0)
    · have hm : x ∈ blts := List.contains_iff_mem.mp hx
      simp only [blts, List.mem_cons, List.not_mem_nil, or_false] at hm
      rcases hm with rfl | rfl | rfl | rfl | rfl | rfl | rfl | rfl | rfl | rfl | rfl | rfl | rfl | rfl | rfl
      · exact PySem.W.mg_none_of X H z0
      · exact PySem.W.mg_none_of X H z1
      · exact PySem.W.mg_none_of X H z2
      · exact PySem.W.mg_none_of X H z3
      · exact PySem.W.mg_none_of X H z4
      · exact PySem.W.mg_none_of X H z5
      · exact PySem.W.mg_none_of X H z6
      · exact PySem.W.mg_none_of X H z7
      · exact PySem.W.mg_none_of X H z8
      · exact PySem.W.mg_none_of X H z9
      · exact PySem.W.mg_none_of X H z10
      · exact PySem.W.mg_none_of X H z11
      · exact PySem.W.mg_none_of X H z12
      · exact PySem.W.mg_none_of X H z13
      · exact PySem.W.mg_none_of X H z14
    · have hm : x ∈ xcs := List.contains_iff_mem.mp hx
      simp [xcs] at hm
    · have hm : (C, f) ∈ flds := List.contains_iff_mem.mp hx
      simp only [flds, List.mem_cons, List.not_mem_nil, or_false, Prod.mk.injEq] at hm
      rcases hm with ⟨rfl, rfl⟩ | ⟨rfl, rfl⟩ | ⟨rfl, rfl⟩ | ⟨rfl, rfl⟩ | ⟨rfl, rfl⟩ | ⟨rfl, rfl⟩ | ⟨rfl, rfl⟩
      · exact ⟨clCF0, nfCF0own_letters⟩
      · exact ⟨clCF0, nfCF0own_size⟩
      · exact ⟨clCF0, nfCF0own_states⟩
      · exact ⟨clCF0, nfCF0own_firsts⟩
      · exact ⟨clCF0, nfCF0own_lasts⟩
      · exact ⟨clCF0, nfCF0own_arrows⟩
      · exact ⟨clCF0, nfCF0own_moves⟩
    · have hm : C ∈ clss := List.contains_iff_mem.mp hx
      simp only [clss, List.mem_cons, List.not_mem_nil, or_false] at hm
      rcases hm with rfl
      · exact ⟨neCF0, hmCF0⟩
    · have hm : C ∈ clss := List.contains_iff_mem.mp hx
      simp only [clss, List.mem_cons, List.not_mem_nil, or_false] at hm
      rcases hm with rfl
      · exact ⟨clCF0, ⟨haCF0, hnCF0, htCF0, hmCF0⟩, fun t ht => kit_no ht icCF0 tcCF0⟩
    · have hx2 : (if (C == D && clss.contains C) = true then some true else none) = some b := hx
      by_cases e : (C == D && clss.contains C) = true
      · rw [if_pos e] at hx2
        cases hx2
        rw [Bool.and_eq_true] at e
        have e1 : C = D := beq_iff_eq.mp e.1
        subst e1
        have hm : C ∈ clss := List.contains_iff_mem.mp e.2
        simp only [clss, List.mem_cons, List.not_mem_nil, or_false] at hm
        subst hm
        exact kit_self
      · rw [if_neg e] at hx2; cases hx2
  have F0 := fun_mk (st := s__law_pot) l0 c0 k0
  have b0 := F0.binds (ps := ["_law_script", "_law_at"]) fun _ _ _ _ _ _ us hl => match us, hl with | [_, _], _ => rfl
  have F1 := fun_mk (st := s_require_reader) l1 c1 k1
  have b1 := F1.binds (ps := ["value"]) fun _ _ _ _ _ _ us hl => match us, hl with | [_], _ => rfl
  have F2 := fun_mk (st := s_is_integer) l2 c2 k2
  have b2 := F2.binds (ps := ["value"]) fun _ _ _ _ _ _ us hl => match us, hl with | [_], _ => rfl
  have F3 := fun_mk (st := s_is_integer_within) l3 c3 k3
  have b3 := F3.binds (ps := ["value", "low", "high"]) fun _ _ _ _ _ _ us hl => match us, hl with | [_, _, _], _ => rfl
  have F4 := fun_mk (st := s_require_length) l4 c4 k4
  have b4 := F4.binds (ps := ["value"]) fun _ _ _ _ _ _ us hl => match us, hl with | [_], _ => rfl
  have F5 := fun_mk (st := s_first_row_of) l5 c5 k5
  have b5 := F5.binds (ps := ["reader"]) fun _ _ _ _ _ _ us hl => match us, hl with | [_], _ => rfl
  have F6 := fun_mk (st := s_stepped) l6 c6 k6
  have b6 := F6.binds (ps := ["reader", "row"]) fun _ _ _ _ _ _ us hl => match us, hl with | [_, _], _ => rfl
  have F7 := fun_mk (st := s_end_of) l7 c7 k7
  have b7 := F7.binds (ps := ["reader", "row"]) fun _ _ _ _ _ _ us hl => match us, hl with | [_, _], _ => rfl
  have F8 := fun_mk (st := s_totals_of) l8 c8 k8
  have b8 := F8.binds (ps := ["reader", "size"]) fun _ _ _ _ _ _ us hl => match us, hl with | [_, _], _ => rfl
  have F9 := fun_mk (st := s_totals) l9 c9 k9
  have b9 := F9.binds (ps := ["reader", "size"]) fun _ _ _ _ _ _ us hl => match us, hl with | [_, _], _ => rfl
  have F10 := fun_mk (st := s_total) l10 c10 k10
  have b10 := F10.binds (ps := ["reader", "size"]) fun _ _ _ _ _ _ us hl => match us, hl with | [_, _], _ => rfl
  have F11 := fun_mk (st := s__law_bit) l11 c11 k11
  have b11 := F11.binds (ps := ["_law_pot_here", "_law_much"]) fun _ _ _ _ _ _ us hl => match us, hl with | [_, _], _ => rfl
  have F12 := fun_mk (st := s__law_pick) l12 c12 k12
  have b12 := F12.binds (ps := ["_law_pot_here", "_law_items"]) fun _ _ _ _ _ _ us hl => match us, hl with | [_, _], _ => rfl
  have F13 := fun_mk (st := s__law_signs) l13 c13 k13
  have b13 := F13.binds (ps := ["_law_pot_here"]) fun _ _ _ _ _ _ us hl => match us, hl with | [_], _ => rfl
  have F14 := fun_mk (st := s__law_dealt) l14 c14 k14
  have b14 := F14.binds (ps := ["_law_pot_here", "_law_items"]) fun _ _ _ _ _ _ us hl => match us, hl with | [_, _], _ => rfl
  have F15 := fun_mk (st := s__law_some_of) l15 c15 k15
  have b15 := F15.binds (ps := ["_law_pot_here", "_law_items", "_law_least"]) fun _ _ _ _ _ _ us hl => match us, hl with | [_, _, _], _ => rfl
  have F16 := fun_mk (st := s__law_told_reader) l16 c16 k16
  have b16 := F16.binds (ps := ["_law_signs_here", "_law_much", "_law_heads", "_law_tails", "_law_links"]) fun _ _ _ _ _ _ us hl => match us, hl with | [_, _, _, _, _], _ => rfl
  have F17 := fun_mk (st := s__law_any_reader) l17 c17 k17
  have b17 := F17.binds (ps := ["_law_pot_here", "_law_signs_here", "_law_most"]) fun _ _ _ _ _ _ us hl => match us, hl with | [_, _, _], _ => rfl
  have F18 := fun_mk (st := s_are_small) l18 c18 k18
  have b18 := F18.binds (ps := ["text"]) fun _ _ _ _ _ _ us hl => match us, hl with | [_], _ => rfl
  have F19 := fun_mk (st := s_is_ascending) l19 c19 k19
  have b19 := F19.binds (ps := ["values"]) fun _ _ _ _ _ _ us hl => match us, hl with | [_], _ => rfl
  have F20 := fun_mk (st := s_is_letters) l20 c20 k20
  have b20 := F20.binds (ps := ["value"]) fun _ _ _ _ _ _ us hl => match us, hl with | [_], _ => rfl
  have F21 := fun_mk (st := s_require_letters) l21 c21 k21
  have b21 := F21.binds (ps := ["value"]) fun _ _ _ _ _ _ us hl => match us, hl with | [_], _ => rfl
  have F22 := fun_mk (st := s_moves_of) l22 c22 k22
  have b22 := F22.binds (ps := ["letters", "size", "arrows"]) fun _ _ _ _ _ _ us hl => match us, hl with | [_, _, _], _ => rfl
  have F23 := fun_mk (st := s_is_number_set) l23 c23 k23
  have b23 := F23.binds (ps := ["value", "size"]) fun _ _ _ _ _ _ us hl => match us, hl with | [_, _], _ => rfl
  have F24 := fun_mk (st := s_is_text_within) l24 c24 k24
  have b24 := F24.binds (ps := ["letters", "value"]) fun _ _ _ _ _ _ us hl => match us, hl with | [_, _], _ => rfl
  have F25 := fun_mk (st := s_is_letter_of) l25 c25 k25
  have b25 := F25.binds (ps := ["letters", "value"]) fun _ _ _ _ _ _ us hl => match us, hl with | [_, _], _ => rfl
  have F26 := fun_mk (st := s_is_arrow) l26 c26 k26
  have b26 := F26.binds (ps := ["letters", "size", "value"]) fun _ _ _ _ _ _ us hl => match us, hl with | [_, _, _], _ => rfl
  have F27 := fun_mk (st := s_are_arrows) l27 c27 k27
  have b27 := F27.binds (ps := ["letters", "size", "value"]) fun _ _ _ _ _ _ us hl => match us, hl with | [_, _, _], _ => rfl
  have F28 := fun_mk (st := s_Reader___init__) l28 c28 k28
  have b28 := F28.binds (ps := ["self", "letters", "size", "firsts", "lasts", "arrows"]) fun _ _ _ _ _ _ us hl => match us, hl with | [_, _, _, _, _, _], _ => rfl
  have F29 := fun_mk (st := s__law_made_reader) l29 c29 k29
  have b29 := F29.binds (ps := ["_law_reader"]) fun _ _ _ _ _ _ us hl => match us, hl with | [_], _ => rfl
  have F30 := fun_mk (st := s_require_same) l30 c30 k30
  have b30 := F30.binds (ps := ["one", "other"]) fun _ _ _ _ _ _ us hl => match us, hl with | [_, _], _ => rfl
  have F31 := fun_mk (st := s_require_size) l31 c31 k31
  have b31 := F31.binds (ps := ["size"]) fun _ _ _ _ _ _ us hl => match us, hl with | [_], _ => rfl
  have F32 := fun_mk (st := s_pairs_of) l32 c32 k32
  have b32 := F32.binds (ps := ["ones", "others", "size"]) fun _ _ _ _ _ _ us hl => match us, hl with | [_, _, _], _ => rfl
  have F33 := fun_mk (st := s_both_of) l33 c33 k33
  have b33 := F33.binds (ps := ["one", "other"]) fun _ _ _ _ _ _ us hl => match us, hl with | [_, _], _ => rfl
  have F34 := fun_mk (st := s_both) l34 c34 k34
  have b34 := F34.binds (ps := ["one", "other"]) fun _ _ _ _ _ _ us hl => match us, hl with | [_, _], _ => rfl
  have F35 := fun_mk (st := s__law_head_line) l35 c35 k35
  have b35 := F35.binds (ps := ["_law_reader"]) fun _ _ _ _ _ _ us hl => match us, hl with | [_], _ => rfl
  have F36 := fun_mk (st := s__law_tail_sum) l36 c36 k36
  have b36 := F36.binds (ps := ["_law_reader", "_law_line"]) fun _ _ _ _ _ _ us hl => match us, hl with | [_, _], _ => rfl
  have F37 := fun_mk (st := s__law_put) l37 c37 k37
  have b37 := F37.binds (ps := ["_law_reader", "_law_line", "_law_sign"]) fun _ _ _ _ _ _ us hl => match us, hl with | [_, _, _], _ => rfl
  have F38 := fun_mk (st := s__law_ways_of) l38 c38 k38
  have b38 := F38.binds (ps := ["_law_reader", "_law_word"]) fun _ _ _ _ _ _ us hl => match us, hl with | [_, _], _ => rfl
  have F39 := fun_mk (st := s__law_step_line) l39 c39 k39
  have b39 := F39.binds (ps := ["_law_reader", "_law_line"]) fun _ _ _ _ _ _ us hl => match us, hl with | [_, _], _ => rfl
  have F40 := fun_mk (st := s__law_sums_of) l40 c40 k40
  have b40 := F40.binds (ps := ["_law_reader", "_law_much"]) fun _ _ _ _ _ _ us hl => match us, hl with | [_, _], _ => rfl
  have F41 := fun_mk (st := s__law_words_of) l41 c41 k41
  have b41 := F41.binds (ps := ["_law_signs_here", "_law_much"]) fun _ _ _ _ _ _ us hl => match us, hl with | [_, _], _ => rfl
  have F42 := fun_mk (st := s_Reader_over) l42 c42 k42
  have b42 := F42.binds (ps := ["self", "letters"]) fun _ _ _ _ _ _ us hl => match us, hl with | [_, _], _ => rfl
  have F43 := fun_mk (st := s__law_right) l43 c43 k43
  have b43 := F43.binds (ps := ["_law_pot_here"]) fun _ _ _ _ _ _ us hl => match us, hl with | [_], _ => rfl
  have F44 := fun_mk (st := s_law) l44 c44 k44
  have b44 := F44.binds (ps := ["_law_script"]) fun _ _ _ _ _ _ us hl => match us, hl with | [_], _ => rfl
  refine ⟨W, PySem.W.fnOf "law" "law" (defArgs s_law) (defBody s_law) (defScope s_law) .none kV44 dc44 pm44 an44 cd44 ct44, rfl, fun s u => .of_eq rfl, fun base => ?_⟩
  have o0 : FnAt l.prog w W mg base 1 ("_law_pot", 2, d__law_pot) := ok__law_pot B F0 b0 (PySem.W.mg_of X H a0)
  have o1 : FnAt l.prog w W mg base 1 ("require_reader", 1, d_require_reader) := ok_require_reader B F1 b1 (PySem.W.mg_of X H a1)
  have o2 : FnAt l.prog w W mg base 1 ("is_integer", 1, d_is_integer) := ok_is_integer B F2 b2 (PySem.W.mg_of X H a2)
  have o3 : FnAt l.prog w W mg base 2 ("is_integer_within", 3, d_is_integer_within) := ok_is_integer_within B F3 b3 (PySem.W.mg_of X H a3) o2
  have o4 : FnAt l.prog w W mg base 3 ("require_length", 1, d_require_length) := ok_require_length B F4 b4 (PySem.W.mg_of X H a4) o3
  have o5 : FnAt l.prog w W mg base 1 ("first_row_of", 1, d_first_row_of) := ok_first_row_of B F5 b5 (PySem.W.mg_of X H a5)
  have o6 : FnAt l.prog w W mg base 1 ("stepped", 2, d_stepped) := ok_stepped B F6 b6 (PySem.W.mg_of X H a6)
  have o7 : FnAt l.prog w W mg base 1 ("end_of", 2, d_end_of) := ok_end_of B F7 b7 (PySem.W.mg_of X H a7)
  have o8 : FnAt l.prog w W mg base 2 ("totals_of", 2, d_totals_of) := ok_totals_of B F8 b8 (PySem.W.mg_of X H a8) o5 o6 o7
  have o9 : FnAt l.prog w W mg base 4 ("totals", 2, d_totals) := ok_totals B F9 b9 (PySem.W.mg_of X H a9) o1 o4 o8
  have o10 : FnAt l.prog w W mg base 4 ("total", 2, d_total) := ok_total B F10 b10 (PySem.W.mg_of X H a10) o1 o4 o8
  have o11 : FnAt l.prog w W mg base 1 ("_law_bit", 2, d__law_bit) := ok__law_bit B F11 b11 (PySem.W.mg_of X H a11)
  have o12 : FnAt l.prog w W mg base 2 ("_law_pick", 2, d__law_pick) := ok__law_pick B F12 b12 (PySem.W.mg_of X H a12) o11
  have o13 : FnAt l.prog w W mg base 3 ("_law_signs", 1, d__law_signs) := ok__law_signs B F13 b13 (PySem.W.mg_of X H a13) o12
  have o14 : FnAt l.prog w W mg base 2 ("_law_dealt", 2, d__law_dealt) := ok__law_dealt B F14 b14 (PySem.W.mg_of X H a14) o11
  have o15 : FnAt l.prog w W mg base 3 ("_law_some_of", 3, d__law_some_of) := ok__law_some_of B F15 b15 (PySem.W.mg_of X H a15) o11 o14
  have o16 : FnAt l.prog w W mg base 1 ("_law_told_reader", 5, d__law_told_reader) := ok__law_told_reader B F16 b16 (PySem.W.mg_of X H a16)
  have o17 : FnAt l.prog w W mg base 4 ("_law_any_reader", 3, d__law_any_reader) := ok__law_any_reader B F17 b17 (PySem.W.mg_of X H a17) o15 o16 o11 o12
  have o18 : FnAt l.prog w W mg base 1 ("are_small", 1, d_are_small) := ok_are_small B F18 b18 (PySem.W.mg_of X H a18)
  have o19 : FnAt l.prog w W mg base 1 ("is_ascending", 1, d_is_ascending) := ok_is_ascending B F19 b19 (PySem.W.mg_of X H a19)
  have o20 : FnAt l.prog w W mg base 2 ("is_letters", 1, d_is_letters) := ok_is_letters B F20 b20 (PySem.W.mg_of X H a20) o18 o19
  have o21 : FnAt l.prog w W mg base 3 ("require_letters", 1, d_require_letters) := ok_require_letters B F21 b21 (PySem.W.mg_of X H a21) o20
  have o22 : FnAt l.prog w W mg base 1 ("moves_of", 3, d_moves_of) := ok_moves_of B F22 b22 (PySem.W.mg_of X H a22)
  have o23 : FnAt l.prog w W mg base 3 ("is_number_set", 2, d_is_number_set) := ok_is_number_set B F23 b23 (PySem.W.mg_of X H a23) o19 o3
  have o24 : FnAt l.prog w W mg base 1 ("is_text_within", 2, d_is_text_within) := ok_is_text_within B F24 b24 (PySem.W.mg_of X H a24)
  have o25 : FnAt l.prog w W mg base 2 ("is_letter_of", 2, d_is_letter_of) := ok_is_letter_of B F25 b25 (PySem.W.mg_of X H a25) o24
  have o26 : FnAt l.prog w W mg base 3 ("is_arrow", 3, d_is_arrow) := ok_is_arrow B F26 b26 (PySem.W.mg_of X H a26) o3 o25
  have o27 : FnAt l.prog w W mg base 4 ("are_arrows", 3, d_are_arrows) := ok_are_arrows B F27 b27 (PySem.W.mg_of X H a27) o19 o26
  have o28 : IAt l.prog w W mg base 5 ("Reader", 5, d_Reader___init__) := ok_Reader___init__ B F28 b28 (PySem.W.mg_of X H cnCF0) ⟨mkCF0, a28, i28, kpCF0⟩ o21 o22 o3 o23 o27
  have o29 : FnAt l.prog w W mg base 7 ("_law_made_reader", 1, d__law_made_reader) := ok__law_made_reader B F29 b29 (PySem.W.mg_of X H a29) o28
  have o30 : FnAt l.prog w W mg base 2 ("require_same", 2, d_require_same) := ok_require_same B F30 b30 (PySem.W.mg_of X H a30) o1
  have o31 : FnAt l.prog w W mg base 1 ("require_size", 1, d_require_size) := ok_require_size B F31 b31 (PySem.W.mg_of X H a31)
  have o32 : FnAt l.prog w W mg base 1 ("pairs_of", 3, d_pairs_of) := ok_pairs_of B F32 b32 (PySem.W.mg_of X H a32)
  have o33 : FnAt l.prog w W mg base 7 ("both_of", 2, d_both_of) := ok_both_of B F33 b33 (PySem.W.mg_of X H a33) o31 o32 o28
  have o34 : FnAt l.prog w W mg base 8 ("both", 2, d_both) := ok_both B F34 b34 (PySem.W.mg_of X H a34) o30 o33
  have o35 : FnAt l.prog w W mg base 1 ("_law_head_line", 1, d__law_head_line) := ok__law_head_line B F35 b35 (PySem.W.mg_of X H a35)
  have o36 : FnAt l.prog w W mg base 1 ("_law_tail_sum", 2, d__law_tail_sum) := ok__law_tail_sum B F36 b36 (PySem.W.mg_of X H a36)
  have o37 : FnAt l.prog w W mg base 1 ("_law_put", 3, d__law_put) := ok__law_put B F37 b37 (PySem.W.mg_of X H a37)
  have o38 : FnAt l.prog w W mg base 2 ("_law_ways_of", 2, d__law_ways_of) := ok__law_ways_of B F38 b38 (PySem.W.mg_of X H a38) o35 o36 o37
  have o39 : FnAt l.prog w W mg base 1 ("_law_step_line", 2, d__law_step_line) := ok__law_step_line B F39 b39 (PySem.W.mg_of X H a39)
  have o40 : FnAt l.prog w W mg base 2 ("_law_sums_of", 2, d__law_sums_of) := ok__law_sums_of B F40 b40 (PySem.W.mg_of X H a40) o35 o39 o36
  have o41 : FnAt l.prog w W mg base 1 ("_law_words_of", 2, d__law_words_of) := ok__law_words_of B F41 b41 (PySem.W.mg_of X H a41)
  have o42 : MAt l.prog w W mg base 7 (("Reader", "over"), 1, d_Reader_over) := ok_Reader_over B F42 b42 clCF0 ⟨a42, i42, k42⟩ (fnIn_of l42) o21 o28
  have o43 : FnAt l.prog w W mg base 9 ("_law_right", 1, d__law_right) := ok__law_right B F43 b43 (PySem.W.mg_of X H a43) o13 o17 o11 o29 o9 o10 o34 o38 o40 o41 o42 o28
  exact fn_den (G := g_law) 40 F44 sc_law rfl rfl rfl (gok_of (B _ _ _ _ _ _ _ _ _).1 (ob_of (B _ _ _ _ _ _ _ _ _).2 rfl rfl rfl rfl rfl trivial trivial trivial ⟨⟨5, (show 5 + 1 ≤ 9 by omega), o28⟩, trivial⟩ trivial) rfl ⟨o0.mono (show 1 ≤ 9 by omega), o9.mono (show 4 ≤ 9 by omega), o10.mono (show 4 ≤ 9 by omega), o43.mono (show 9 ≤ 9 by omega), trivial⟩)
end K12
open PySem PySem.W PyProof.Rows
set_option maxHeartbeats 0 in
theorem PySem.Challenge.cw_loneguess_k12_whole_totals_by_all_texts_holds : PySem.Challenge.rw_loneguess_k12_whole_totals_by_all_texts.Holds := by
  w_on; o_law; k_head; (case hw => w_witness2)
  k_fill
  refine Pu.walk_D (l := PySem.Challenge.rw_loneguess_k12_whole_totals_by_all_texts) (n := 63) (k := 10) (x := "_law_script") (L := K12.d_law) rfl (by decide) rfl ⟨rfl, by decide, by decide⟩ (fun w h Y => PySem.W.kIn_of Y) ?F K12.law_holds
  case F =>
    intro w mg fa h KX G hmg
    refine' K12.all_mk KX G hmg ?cnCF0 ?pgCF0 ?hdCF0 ?poCF0 ?saCF0 ?mkCF0 ?kpCF0 ?nfCF0own_letters ?nfCF0own_size ?nfCF0own_states ?nfCF0own_firsts ?nfCF0own_lasts ?nfCF0own_arrows ?nfCF0own_moves ?haCF0 ?hnCF0 ?htCF0 ?hmCF0 ?icCF0 ?tcCF0 ?neCF0 ?a0 ?l0 ?c0 ?k0 ?a1 ?l1 ?c1 ?k1 ?a2 ?l2 ?c2 ?k2 ?a3 ?l3 ?c3 ?k3 ?a4 ?l4 ?c4 ?k4 ?a5 ?l5 ?c5 ?k5 ?a6 ?l6 ?c6 ?k6 ?a7 ?l7 ?c7 ?k7 ?a8 ?l8 ?c8 ?k8 ?a9 ?l9 ?c9 ?k9 ?a10 ?l10 ?c10 ?k10 ?a11 ?l11 ?c11 ?k11 ?a12 ?l12 ?c12 ?k12 ?a13 ?l13 ?c13 ?k13 ?a14 ?l14 ?c14 ?k14 ?a15 ?l15 ?c15 ?k15 ?a16 ?l16 ?c16 ?k16 ?a17 ?l17 ?c17 ?k17 ?a18 ?l18 ?c18 ?k18 ?a19 ?l19 ?c19 ?k19 ?a20 ?l20 ?c20 ?k20 ?a21 ?l21 ?c21 ?k21 ?a22 ?l22 ?c22 ?k22 ?a23 ?l23 ?c23 ?k23 ?a24 ?l24 ?c24 ?k24 ?a25 ?l25 ?c25 ?k25 ?a26 ?l26 ?c26 ?k26 ?a27 ?l27 ?c27 ?k27 ?a28 ?l28 ?c28 ?k28 ?i28 ?a29 ?l29 ?c29 ?k29 ?a30 ?l30 ?c30 ?k30 ?a31 ?l31 ?c31 ?k31 ?a32 ?l32 ?c32 ?k32 ?a33 ?l33 ?c33 ?k33 ?a34 ?l34 ?c34 ?k34 ?a35 ?l35 ?c35 ?k35 ?a36 ?l36 ?c36 ?k36 ?a37 ?l37 ?c37 ?k37 ?a38 ?l38 ?c38 ?k38 ?a39 ?l39 ?c39 ?k39 ?a40 ?l40 ?c40 ?k40 ?a41 ?l41 ?c41 ?k41 ?a42 ?l42 ?c42 ?k42 ?i42 ?a43 ?l43 ?c43 ?k43 ?a44 ?l44 ?c44 ?k44 ?u0 ?u1 ?u2 ?u3 ?z0 ?z1 ?z2 ?z3 ?z4 ?z5 ?z6 ?z7 ?z8 ?z9 ?z10 ?z11 ?z12 ?z13 ?z14
    (case cnCF0 => k_is)
    (case pgCF0 => k_is)
    (case hdCF0 => k_is)
    (case poCF0 => k_is)
    (case saCF0 => k_is)
    (case mkCF0 => k_is)
    (case kpCF0 => k_is)
    (case nfCF0own_letters => k_is)
    (case nfCF0own_size => k_is)
    (case nfCF0own_states => k_is)
    (case nfCF0own_firsts => k_is)
    (case nfCF0own_lasts => k_is)
    (case nfCF0own_arrows => k_is)
    (case nfCF0own_moves => k_is)
    (case haCF0 => k_is)
    (case hnCF0 => k_is)
    (case htCF0 => k_is)
    (case hmCF0 => k_is)
    (case icCF0 => k_is)
    (case tcCF0 => k_is)
    (case neCF0 => k_is)
    (case a0 => k_is)
    (case l0 => k_is)
    (case c0 => k_is)
    (case k0 => k_is)
    (case a1 => k_is)
    (case l1 => k_is)
    (case c1 => k_is)
    (case k1 => k_is)
    (case a2 => k_is)
    (case l2 => k_is)
    (case c2 => k_is)
    (case k2 => k_is)
    (case a3 => k_is)
    (case l3 => k_is)
    (case c3 => k_is)
    (case k3 => k_is)
    (case a4 => k_is)
    (case l4 => k_is)
    (case c4 => k_is)
    (case k4 => k_is)
    (case a5 => k_is)
    (case l5 => k_is)
    (case c5 => k_is)
    (case k5 => k_is)
    (case a6 => k_is)
    (case l6 => k_is)
    (case c6 => k_is)
    (case k6 => k_is)
    (case a7 => k_is)
    (case l7 => k_is)
    (case c7 => k_is)
    (case k7 => k_is)
    (case a8 => k_is)
    (case l8 => k_is)
    (case c8 => k_is)
    (case k8 => k_is)
    (case a9 => k_is)
    (case l9 => k_is)
    (case c9 => k_is)
    (case k9 => k_is)
    (case a10 => k_is)
    (case l10 => k_is)
    (case c10 => k_is)
    (case k10 => k_is)
    (case a11 => k_is)
    (case l11 => k_is)
    (case c11 => k_is)
    (case k11 => k_is)
    (case a12 => k_is)
    (case l12 => k_is)
    (case c12 => k_is)
    (case k12 => k_is)
    (case a13 => k_is)
    (case l13 => k_is)
    (case c13 => k_is)
    (case k13 => k_is)
    (case a14 => k_is)
    (case l14 => k_is)
    (case c14 => k_is)
    (case k14 => k_is)
    (case a15 => k_is)
    (case l15 => k_is)
    (case c15 => k_is)
    (case k15 => k_is)
    (case a16 => k_is)
    (case l16 => k_is)
    (case c16 => k_is)
    (case k16 => k_is)
    (case a17 => k_is)
    (case l17 => k_is)
    (case c17 => k_is)
    (case k17 => k_is)
    (case a18 => k_is)
    (case l18 => k_is)
    (case c18 => k_is)
    (case k18 => k_is)
    (case a19 => k_is)
    (case l19 => k_is)
    (case c19 => k_is)
    (case k19 => k_is)
    (case a20 => k_is)
    (case l20 => k_is)
    (case c20 => k_is)
    (case k20 => k_is)
    (case a21 => k_is)
    (case l21 => k_is)
    (case c21 => k_is)
    (case k21 => k_is)
    (case a22 => k_is)
    (case l22 => k_is)
    (case c22 => k_is)
    (case k22 => k_is)
    (case a23 => k_is)
    (case l23 => k_is)
    (case c23 => k_is)
    (case k23 => k_is)
    (case a24 => k_is)
    (case l24 => k_is)
    (case c24 => k_is)
    (case k24 => k_is)
    (case a25 => k_is)
    (case l25 => k_is)
    (case c25 => k_is)
    (case k25 => k_is)
    (case a26 => k_is)
    (case l26 => k_is)
    (case c26 => k_is)
    (case k26 => k_is)
    (case a27 => k_is)
    (case l27 => k_is)
    (case c27 => k_is)
    (case k27 => k_is)
    (case a28 => k_is)
    (case l28 => k_is)
    (case c28 => k_is)
    (case k28 => k_is)
    (case i28 => k_is)
    (case a29 => k_is)
    (case l29 => k_is)
    (case c29 => k_is)
    (case k29 => k_is)
    (case a30 => k_is)
    (case l30 => k_is)
    (case c30 => k_is)
    (case k30 => k_is)
    (case a31 => k_is)
    (case l31 => k_is)
    (case c31 => k_is)
    (case k31 => k_is)
    (case a32 => k_is)
    (case l32 => k_is)
    (case c32 => k_is)
    (case k32 => k_is)
    (case a33 => k_is)
    (case l33 => k_is)
    (case c33 => k_is)
    (case k33 => k_is)
    (case a34 => k_is)
    (case l34 => k_is)
    (case c34 => k_is)
    (case k34 => k_is)
    (case a35 => k_is)
    (case l35 => k_is)
    (case c35 => k_is)
    (case k35 => k_is)
    (case a36 => k_is)
    (case l36 => k_is)
    (case c36 => k_is)
    (case k36 => k_is)
    (case a37 => k_is)
    (case l37 => k_is)
    (case c37 => k_is)
    (case k37 => k_is)
    (case a38 => k_is)
    (case l38 => k_is)
    (case c38 => k_is)
    (case k38 => k_is)
    (case a39 => k_is)
    (case l39 => k_is)
    (case c39 => k_is)
    (case k39 => k_is)
    (case a40 => k_is)
    (case l40 => k_is)
    (case c40 => k_is)
    (case k40 => k_is)
    (case a41 => k_is)
    (case l41 => k_is)
    (case c41 => k_is)
    (case k41 => k_is)
    (case a42 => k_is)
    (case l42 => k_is)
    (case c42 => k_is)
    (case k42 => k_is)
    (case i42 => k_is)
    (case a43 => k_is)
    (case l43 => k_is)
    (case c43 => k_is)
    (case k43 => k_is)
    (case a44 => k_is)
    (case l44 => k_is)
    (case c44 => k_is)
    (case k44 => k_is)
    (case u0 => k_is)
    (case u1 => k_is)
    (case u2 => k_is)
    (case u3 => k_is)
    (case z0 => k_is)
    (case z1 => k_is)
    (case z2 => k_is)
    (case z3 => k_is)
    (case z4 => k_is)
    (case z5 => k_is)
    (case z6 => k_is)
    (case z7 => k_is)
    (case z8 => k_is)
    (case z9 => k_is)
    (case z10 => k_is)
    (case z11 => k_is)
    (case z12 => k_is)
    (case z13 => k_is)
    (case z14 => k_is)

